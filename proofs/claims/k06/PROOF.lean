import PyProof.Rows.All
import Wide.All
import OpenK.AllK
import Wide.FinOn
import HandS.ForMost
import HandS.ForExc
import HandS.Deep
import HandS.Walk
import HandS.Evl
import HandS.Style
import HandS.IsInst
import HandS.Conv
import HandS.Zip
import KE.SortData
import HandS.Small
import KE.BitLaws
import PySem.Challenge.RW_tentpairs_k06_texts_misread
import HandS.ExcInit
import HandS.HotCalls
import HandS.ClsMeth
import KE.KExcIs
import KE.DataFind
import HandS.Hot
import HandS.SuiteRaise
import HandS.RaiseFrom
import HandS.ExcInitHot
import HandS.ExcField
import HandS.Iter
import PyProof.StrOps2
import PyProof.StrLawsIn
import PyProof.Rows.StrSplitCount
import HandS.ExcIs
set_option Elab.async false
set_option linter.all false
set_option maxRecDepth 100000
set_option maxHeartbeats 1000000
namespace TP
open PySem PySem.Spec PyProof.Rows L2
open Evl (Ex)

/-! ### the widest reading of each piece of syntax -/
def wE (X : Cx) (e : Expr) : TE := fun σ H Q => ∃ t, PE X e t ∧ t σ H Q
def wT (X : Cx) (e : Expr) : TT := fun σ H Q => ∃ t, PT X e t ∧ t σ H Q
def wW (X : Cx) (e : Expr) : TT := fun σ H Q => ∃ t, PW X e t ∧ t σ H Q
def wA (X : Cx) (es : List Expr) : TA := fun σ H Q => ∃ t, PA X es t ∧ t σ H Q
def wS (X : Cx) (st : Stmt) : TS := fun D σ H => ∃ t, PS X st t ∧ t D σ H
def wSs (X : Cx) (sts : List Stmt) : TS := fun D σ H => ∃ t, PSs X sts t ∧ t D σ H
def wG (X : Cx) (tg : Expr) : TG := fun v σ H Q => ∃ t, PG X tg t ∧ t v σ H Q
section
variable {X : Cx}
theorem pe_w {e : Expr} : PE X e (wE X e) := ⟨fun pins s σ H Q I ⟨_, h, q⟩ => h.run pins s σ H Q I q⟩
theorem pt_w {e : Expr} : PT X e (wT X e) := ⟨fun pins s σ H Q I ⟨_, h, q⟩ => h.run pins s σ H Q I q⟩
theorem pw_w {e : Expr} : PW X e (wW X e) := ⟨fun wh pins s σ H Q I ⟨_, h, q⟩ => h.run wh pins s σ H Q I q⟩
theorem pa_w {es : List Expr} : PA X es (wA X es) := ⟨fun pos pins s σ H Q I ⟨_, h, q⟩ => h.run pos pins s σ H Q I q⟩
theorem ps_w {st : Stmt} : PS X st (wS X st) := ⟨fun pins s σ H D I ⟨_, h, q⟩ => h.run pins s σ H D I q⟩
theorem pss_w {sts : List Stmt} : PSs X sts (wSs X sts) := ⟨fun pins s σ H D I ⟨_, h, q⟩ => h.run pins s σ H D I q⟩
end

/-! ### growing heaps -/
/-- G, G': what is fixed for good; H, H': all -/
structure Stp (G H G' H' : Hp) : Prop where
  g : Ex G G'
  gh : Ex G' H'
  h : Ex H H'
  fr : ∀ a, H a ≠ none → G' a ≠ none → G a ≠ none
theorem Stp.refl {G H : Hp} (e : Ex G H) : Stp G H G H := ⟨Ex.refl _, e, Ex.refl _, fun _ _ h => h⟩
theorem Stp.trans {G H G1 H1 G2 H2 : Hp} (a : Stp G H G1 H1) (b : Stp G1 H1 G2 H2) : Stp G H G2 H2 := by
  refine ⟨a.g.trans b.g, b.gh, a.h.trans b.h, fun x hx h2 => ?_⟩
  have h1 : H1 x ≠ none := by
    cases e : H x with
    | none => exact absurd e hx
    | some o => rw [a.h x o e]; simp
  exact a.fr x hx (b.fr x h1 h2)
/-- a step of the whole heap alone -/
theorem Stp.flat {G H H' : Hp} (e : Ex G H) (h : Ex H H') : Stp G H G H' := ⟨Ex.refl _, e.trans h, h, fun _ _ q => q⟩
theorem Stp.eh {G H G' H' : Hp} (s : Stp G H G' H') : Ex G H' := s.g.trans s.gh
/-- a new object, fixed for good -/
theorem Stp.new {G H : Hp} {p : Addr} {o : HO} (e : Ex G H) (hp : H p = none) : Stp G H (upd G p o) (upd H p o) := by
  have gp : G p = none := Evl.fresh_back e hp
  refine ⟨Ex.new gp, fun a u h => ?_, Ex.new hp, fun a ha h => ?_⟩
  · by_cases q : a = p
    · subst q; rw [upd_same] at h ⊢; exact h
    · rw [upd_ne q] at h ⊢; exact e a u h
  · by_cases q : a = p
    · subst q; exact absurd hp ha
    · rw [upd_ne q] at h; exact h
/-- what is fixed may be known to be more -/
def join (G G1 : Hp) : Hp := fun a => match G a with | some o => some o | none => G1 a
theorem Stp.wide {G H G1 G' H' : Hp} (e1 : Ex G G1) (e2 : Ex G1 H) (s : Stp G H G' H') : Stp G1 H (join G1 G') H' ∧ Ex G' (join G1 G') := by
  refine ⟨⟨fun a o h => by unfold join; rw [h], fun a o h => ?_, s.h, fun a ha h => ?_⟩, fun a o h => ?_⟩
  · unfold join at h
    cases q : G1 a with
    | some u => rw [q] at h; cases h; exact s.h a _ (e2 a _ q)
    | none => rw [q] at h; exact s.gh a o h
  · unfold join at h
    cases q : G1 a with
    | some u => simp
    | none =>
      rw [q] at h
      have g0 := s.fr a ha h
      cases r : G a with
      | none => exact absurd r g0
      | some u => rw [e1 a u r] at q; cases q
  · unfold join
    cases q : G1 a with
    | none => exact h
    | some u =>
      have h1 : H' a = some u := s.h a u (e2 a u q)
      rw [s.gh a o h] at h1
      cases h1; rfl

/-! ### data: what stands at v, all of it fixed -/
mutual
inductive Dx (H : Hp) : V → PyData → Prop
  | non : Dx H .non .none
  | bl (b : Bool) : Dx H (.bl b) (.bool b)
  | int (i : Int) : Dx H (.int i) (.int i)
  | str (x : Str) : Dx H (.str x) (.str x)
  | lst {a : Addr} {xs : List V} {ds : List PyData} : H a = some (.lst xs) → DxAll H xs ds → Dx H (.ref a) (.list ds)
  | tup {a : Addr} {xs : List V} {ds : List PyData} : H a = some (.tup xs) → DxAll H xs ds → Dx H (.ref a) (.tuple ds)
inductive DxAll (H : Hp) : List V → List PyData → Prop
  | nil : DxAll H [] []
  | cons {v : V} {vs : List V} {d : PyData} {ds : List PyData} : Dx H v d → DxAll H vs ds → DxAll H (v :: vs) (d :: ds)
end
mutual
theorem Dx.mono {H H' : Hp} (e : Ex H H') : ∀ {v : V} {d : PyData}, Dx H v d → Dx H' v d
  | _, _, .non => .non
  | _, _, .bl b => .bl b
  | _, _, .int i => .int i
  | _, _, .str x => .str x
  | _, _, .lst h a => .lst (e _ _ h) (DxAll.mono e a)
  | _, _, .tup h a => .tup (e _ _ h) (DxAll.mono e a)
theorem DxAll.mono {H H' : Hp} (e : Ex H H') : ∀ {vs : List V} {ds : List PyData}, DxAll H vs ds → DxAll H' vs ds
  | _, _, .nil => .nil
  | _, _, .cons a b => .cons (Dx.mono e a) (DxAll.mono e b)
end
mutual
theorem Dx.dp {K : PySem.W.Frag} {H : Hp} : ∀ {v : V} {d : PyData}, Dx H v d → Dp K H v d
  | _, _, .non => .non
  | _, _, .bl b => .bl b
  | _, _, .int i => .int i
  | _, _, .str x => .str x
  | _, _, .lst h a => .lst (SqL.of h) (DxAll.dp a)
  | _, _, .tup h a => .tup (SqT.of h) (DxAll.dp a)
theorem DxAll.dp {K : PySem.W.Frag} {H : Hp} : ∀ {vs : List V} {ds : List PyData}, DxAll H vs ds → DpAll K H vs ds
  | _, _, .nil => .nil
  | _, _, .cons a b => .cons (Dx.dp a) (DxAll.dp b)
end
section
variable {H : Hp}
theorem DxAll.length : ∀ {vs : List V} {ds : List PyData}, DxAll H vs ds → vs.length = ds.length
  | _, _, .nil => rfl
  | _, _, .cons _ b => by rw [List.length_cons, List.length_cons, DxAll.length b]
theorem DxAll.get : ∀ {vs : List V} {ds : List PyData} {i : Nat} {d : PyData}, DxAll H vs ds → ds[i]? = some d → ∃ v, vs[i]? = some v ∧ Dx H v d
  | _, _, _, _, .nil, h => by simp at h
  | _, _, 0, _, .cons a _, h => by simp at h; subst h; exact ⟨_, rfl, a⟩
  | _, _, i + 1, _, .cons _ b, h => by
    obtain ⟨v, h1, h2⟩ := DxAll.get (i := i) b (by simpa using h)
    exact ⟨v, by simpa using h1, h2⟩
theorem DxAll.back : ∀ {vs : List V} {ds : List PyData} {i : Nat} {v : V}, DxAll H vs ds → vs[i]? = some v → ∃ d, ds[i]? = some d ∧ Dx H v d
  | _, _, _, _, .nil, h => by simp at h
  | _, _, 0, _, .cons a _, h => by simp at h; subst h; exact ⟨_, rfl, a⟩
  | _, _, i + 1, _, .cons _ b, h => by
    obtain ⟨v, h1, h2⟩ := DxAll.back (i := i) b (by simpa using h)
    exact ⟨v, by simpa using h1, h2⟩
theorem DxAll.append : ∀ {vs us : List V} {ds es : List PyData}, DxAll H vs ds → DxAll H us es → DxAll H (vs ++ us) (ds ++ es)
  | _, _, _, _, .nil, h => h
  | _, _, _, _, .cons a b, h => .cons a (DxAll.append b h)
theorem DxAll.snoc {vs : List V} {ds : List PyData} {v : V} {d : PyData} (h : DxAll H vs ds) (q : Dx H v d) : DxAll H (vs ++ [v]) (ds ++ [d]) := h.append (.cons q .nil)
theorem DxAll.take : ∀ {vs : List V} {ds : List PyData} (n : Nat), DxAll H vs ds → DxAll H (vs.take n) (ds.take n)
  | _, _, 0, _ => .nil
  | _, _, _ + 1, .nil => .nil
  | _, _, n + 1, .cons a b => .cons a (DxAll.take n b)
theorem DxAll.drop : ∀ {vs : List V} {ds : List PyData} (n : Nat), DxAll H vs ds → DxAll H (vs.drop n) (ds.drop n)
  | _, _, 0, h => h
  | _, _, _ + 1, .nil => .nil
  | _, _, n + 1, .cons _ b => DxAll.drop n b
theorem DxAll.set : ∀ {vs : List V} {ds : List PyData} {v : V} {d : PyData} (n : Nat), DxAll H vs ds → Dx H v d → DxAll H (vs.set n v) (ds.set n d)
  | _, _, _, _, _, .nil, _ => .nil
  | _, _, _, _, 0, .cons _ b, q => .cons q b
  | _, _, _, _, n + 1, .cons a b, q => .cons a (DxAll.set n b q)
theorem DxAll.eraseIdx : ∀ {vs : List V} {ds : List PyData} (n : Nat), DxAll H vs ds → DxAll H (vs.eraseIdx n) (ds.eraseIdx n)
  | _, _, _, .nil => .nil
  | _, _, 0, .cons _ b => b
  | _, _, n + 1, .cons a b => .cons a (DxAll.eraseIdx n b)
theorem DxAll.reverse : ∀ {vs : List V} {ds : List PyData}, DxAll H vs ds → DxAll H vs.reverse ds.reverse
  | _, _, .nil => .nil
  | _, _, .cons a b => by rw [List.reverse_cons, List.reverse_cons]; exact DxAll.snoc (DxAll.reverse b) a
theorem Dx.int_inv {v : V} {i : Int} (h : Dx H v (.int i)) : v = .int i := by cases h; rfl
theorem Dx.bl_inv {v : V} {b : Bool} (h : Dx H v (.bool b)) : v = .bl b := by cases h; rfl
theorem Dx.str_inv {v : V} {x : Str} (h : Dx H v (.str x)) : v = .str x := by cases h; rfl
theorem DxAll.ints : ∀ {vs : List V} {ns : List Int}, DxAll H vs (ns.map PyData.int) → vs = ns.map V.int
  | _, [], h => by cases h; rfl
  | _, n :: ns, h => by
    cases h with
    | cons a b => rw [Dx.int_inv a, DxAll.ints b]; rfl
theorem DxAll.bls : ∀ {vs : List V} {ns : List Bool}, DxAll H vs (ns.map PyData.bool) → vs = ns.map V.bl
  | _, [], h => by cases h; rfl
  | _, n :: ns, h => by
    cases h with
    | cons a b => rw [Dx.bl_inv a, DxAll.bls b]; rfl
theorem DxAll.strs : ∀ {vs : List V} {ns : List Str}, DxAll H vs (ns.map PyData.str) → vs = ns.map V.str
  | _, [], h => by cases h; rfl
  | _, n :: ns, h => by
    cases h with
    | cons a b => rw [Dx.str_inv a, DxAll.strs b]; rfl
theorem DxAll.of_ints : ∀ (ns : List Int), DxAll H (ns.map V.int) (ns.map PyData.int)
  | [] => .nil
  | n :: ns => .cons (.int n) (DxAll.of_ints ns)
end

/-! ### lists of one's own, not yet fixed. G0, H0: the entry; G: what is fixed for good; H: all; os: one's own new objects -/
structure Hs (G0 H0 G H : Hp) (os : List (Addr × HO)) : Prop where
  st : Stp G0 H0 G H
  own : ∀ x ∈ os, G x.1 = none ∧ H x.1 = some x.2 ∧ H0 x.1 = none
  nd : (os.map (·.1)).Nodup
section
variable {G0 H0 G H G' H' : Hp} {os : List (Addr × HO)} {p q r : Addr} {o o' u : HO}
theorem Hs.ex (h : Hs G0 H0 G H os) : Ex G H := h.st.gh
theorem Hs.nil (e : Ex G H) : Hs G H G H [] := ⟨.refl e, fun _ h => (by simp at h), by simp⟩
theorem Hs.stp (h : Hs G0 H0 G H os) (s : Stp G H G' H') : Hs G0 H0 G' H' os := by
  refine ⟨h.st.trans s, fun x hx => ?_, h.nd⟩
  obtain ⟨h1, h2, h3⟩ := h.own x hx
  refine ⟨?_, s.h _ _ h2, h3⟩
  cases e : G' x.1 with
  | none => rfl
  | some z => exact absurd h1 (s.fr x.1 (by rw [h2]; simp) (by rw [e]; simp))
theorem Hs.flat (h : Hs G0 H0 G H os) (e : Ex H H') : Hs G0 H0 G H' os := h.stp (.flat h.ex e)
theorem Hs.ne (h : Hs G0 H0 G H os) (hp : H p = none) : ∀ x ∈ os, x.1 ≠ p := fun x hx e => by
  have := (h.own x hx).2.1
  rw [e, hp] at this; cases this
theorem Hs.new (h : Hs G0 H0 G H os) (hp : H p = none) : Hs G0 H0 G (upd H p o) ((p, o) :: os) := by
  have gp : G p = none := Evl.fresh_back h.ex hp
  have ne := h.ne hp
  refine ⟨⟨h.st.g, h.ex.trans (Ex.new hp), h.st.h.trans (Ex.new hp), h.st.fr⟩, fun x hx => ?_, ?_⟩
  · rcases List.mem_cons.mp hx with rfl | hx
    · exact ⟨gp, upd_same, Evl.fresh_back h.st.h hp⟩
    · rw [upd_ne (ne x hx)]; exact h.own x hx
  · rw [List.map_cons, List.nodup_cons]
    refine ⟨fun hm => ?_, h.nd⟩
    obtain ⟨x, hx, e⟩ := List.mem_map.mp hm
    exact ne x hx e
theorem Hs.at0 (h : Hs G0 H0 G H ((p, o) :: os)) : H p = some o := (h.own _ List.mem_cons_self).2.1
theorem Hs.tail (h : Hs G0 H0 G H ((p, o) :: os)) : Hs G0 H0 G H os := ⟨h.st, fun x hx => h.own x (List.mem_cons_of_mem _ hx), (List.nodup_cons.mp h.nd).2⟩
theorem Hs.put0 (h : Hs G0 H0 G H ((p, o) :: os)) : Hs G0 H0 G (upd H p o') ((p, o') :: os) := by
  have nd := List.nodup_cons.mp h.nd
  have o0 := h.own _ List.mem_cons_self
  refine ⟨⟨h.st.g, Evl.Ex.mut h.ex o0.1, Evl.Ex.mut h.st.h o0.2.2, h.st.fr⟩, fun x hx => ?_, h.nd⟩
  rcases List.mem_cons.mp hx with rfl | hx
  · exact ⟨o0.1, upd_same, o0.2.2⟩
  · have ne : x.1 ≠ p := fun e => nd.1 (by rw [← e]; exact List.mem_map.mpr ⟨x, hx, rfl⟩)
    rw [upd_ne ne]; exact h.own x (List.mem_cons_of_mem _ hx)
theorem Hs.perm {os' : List (Addr × HO)} (h : Hs G0 H0 G H os) (p : os.Perm os') : Hs G0 H0 G H os' :=
  ⟨h.st, fun x hx => h.own x (p.mem_iff.mpr hx), (p.map _).nodup_iff.mp h.nd⟩
theorem Hs.swap (h : Hs G0 H0 G H ((p, o) :: (q, u) :: os)) : Hs G0 H0 G H ((q, u) :: (p, o) :: os) := h.perm (.swap _ _ _)
/-- a new list behind a step -/
theorem Hs.newL (h : Hs G0 H0 G H os) (s : Stp G H G' H') (hp : H p = none) (gp : G' p = none) (hq : H' p = some o) : Hs G0 H0 G' H' ((p, o) :: os) := by
  have h1 := h.stp s
  have ne := h.ne hp
  refine ⟨h1.st, fun z hz => ?_, ?_⟩
  · rcases List.mem_cons.mp hz with rfl | hz
    · exact ⟨gp, hq, Evl.fresh_back h.st.h hp⟩
    · exact h1.own z hz
  · rw [List.map_cons, List.nodup_cons]
    refine ⟨fun hm => ?_, h.nd⟩
    obtain ⟨z, hz, e⟩ := List.mem_map.mp hm
    exact ne z hz e
/-- fixed for good -/
theorem Hs.fix (h : Hs G0 H0 G H ((p, o) :: os)) : Hs G0 H0 (upd G p o) H os ∧ Ex G (upd G p o) := by
  have o0 := h.own _ List.mem_cons_self
  have nd := List.nodup_cons.mp h.nd
  refine ⟨⟨⟨h.st.g.trans (Ex.new o0.1), fun a x e => ?_, h.st.h, fun a ha e => ?_⟩, fun x hx => ?_, nd.2⟩, Ex.new o0.1⟩
  · by_cases q : a = p
    · subst q; rw [upd_same] at e; cases e; exact h.at0
    · rw [upd_ne q] at e; exact h.ex a x e
  · by_cases q : a = p
    · subst q; exact absurd o0.2.2 ha
    · rw [upd_ne q] at e; exact h.st.fr a ha e
  · have ne : x.1 ≠ p := fun e => nd.1 (by rw [← e]; exact List.mem_map.mpr ⟨x, hx, rfl⟩)
    rw [upd_ne ne]
    exact h.own x (List.mem_cons_of_mem _ hx)
end
end TP

set_option Elab.async false
set_option linter.all false
set_option maxRecDepth 100000
set_option maxHeartbeats 1000000
namespace TP
open PySem PySem.Spec PyProof.Rows L2
open Evl (Ex)

/-! ### what a piece of syntax is worth, over what is fixed -/
structure JV (X : Cx) (σ : L2.St) (e : Expr) (G : Hp) (v : V) : Prop where
  run : ∀ H, Ex G H → ∀ Q : VK, (∀ H', Ex H H' → Q v H') → wE X e σ H Q
instance {X : Cx} {σ : L2.St} {e : Expr} {G : Hp} {v : V} : CoeFun (JV X σ e G v) (fun _ => ∀ H, Ex G H → ∀ Q : VK, (∀ H', Ex H H' → Q v H') → wE X e σ H Q) := ⟨fun h => h.run⟩
structure JD (X : Cx) (σ : L2.St) (e : Expr) (G : Hp) (d : PyData) : Prop where
  run : ∀ H, Ex G H → ∀ Q : VK, (∀ G' H' v, Stp G H G' H' → Dx G' v d → Q v H') → wE X e σ H Q
instance {X : Cx} {σ : L2.St} {e : Expr} {G : Hp} {d : PyData} : CoeFun (JD X σ e G d) (fun _ => ∀ H, Ex G H → ∀ Q : VK, (∀ G' H' v, Stp G H G' H' → Dx G' v d → Q v H') → wE X e σ H Q) := ⟨fun h => h.run⟩
structure JP (X : Cx) (σ : L2.St) (e : Expr) (G : Hp) (P : Hp → V → Prop) : Prop where
  run : ∀ H, Ex G H → ∀ Q : VK, (∀ G' H' v, Stp G H G' H' → P G' v → Q v H') → wE X e σ H Q
instance {X : Cx} {σ : L2.St} {e : Expr} {G : Hp} {P : Hp → V → Prop} : CoeFun (JP X σ e G P) (fun _ => ∀ H, Ex G H → ∀ Q : VK, (∀ G' H' v, Stp G H G' H' → P G' v → Q v H') → wE X e σ H Q) := ⟨fun h => h.run⟩
structure JT (X : Cx) (σ : L2.St) (e : Expr) (G : Hp) (b : Bool) : Prop where
  run : ∀ H, Ex G H → ∀ Q : Bool → Hp → Prop, (∀ H', Ex H H' → Q b H') → wT X e σ H Q
instance {X : Cx} {σ : L2.St} {e : Expr} {G : Hp} {b : Bool} : CoeFun (JT X σ e G b) (fun _ => ∀ H, Ex G H → ∀ Q : Bool → Hp → Prop, (∀ H', Ex H H' → Q b H') → wT X e σ H Q) := ⟨fun h => h.run⟩
structure JW (X : Cx) (σ : L2.St) (e : Expr) (G : Hp) (b : Bool) : Prop where
  run : ∀ H, Ex G H → ∀ Q : Bool → Hp → Prop, (∀ H', Ex H H' → Q b H') → wW X e σ H Q
instance {X : Cx} {σ : L2.St} {e : Expr} {G : Hp} {b : Bool} : CoeFun (JW X σ e G b) (fun _ => ∀ H, Ex G H → ∀ Q : Bool → Hp → Prop, (∀ H', Ex H H' → Q b H') → wW X e σ H Q) := ⟨fun h => h.run⟩
structure JA (X : Cx) (σ : L2.St) (es : List Expr) (G : Hp) (R : Hp → List V → Prop) : Prop where
  run : ∀ H, Ex G H → ∀ Q : List V → Hp → Prop, (∀ G' H' vs, Stp G H G' H' → R G' vs → Q vs H') → wA X es σ H Q
instance {X : Cx} {σ : L2.St} {es : List Expr} {G : Hp} {R : Hp → List V → Prop} : CoeFun (JA X σ es G R) (fun _ => ∀ H, Ex G H → ∀ Q : List V → Hp → Prop, (∀ G' H' vs, Stp G H G' H' → R G' vs → Q vs H') → wA X es σ H Q) := ⟨fun h => h.run⟩
def JO (X : Cx) (σ : L2.St) (op : CmpOp) (a b : Expr) (G : Hp) (v : V) : Prop := ∃ r, OpR X (compareOp op) r ∧ ∀ H, Ex G H → ∀ Q : VK, (∀ H', Ex H H' → Q v H') → tOp r (wE X a) (wE X b) σ H Q
/-- no starred argument -/
def NoStar (a : Expr) : Prop := ∀ es env, starEach (a :: es) env = (false, eval a env) :: starEach es env
/-- monotone -/
def Mo (P : Hp → V → Prop) : Prop := ∀ G G' v, Ex G G' → P G v → P G' v

section
variable {X : Cx} {σ : L2.St} {e a b c : Expr} {es : List Expr} {G G1 : Hp} {v u : V} {d d1 d2 : PyData} {pos : Pos} {i j k : Int} {x : Str}
theorem JV.mono (m : Ex G G1) (h : JV X σ e G v) : JV X σ e G1 v := ⟨fun H eh Q q => h H (m.trans eh) Q q⟩
theorem JT.mono {t : Bool} (m : Ex G G1) (h : JT X σ e G t) : JT X σ e G1 t := ⟨fun H eh Q q => h H (m.trans eh) Q q⟩
theorem JD.mono (m : Ex G G1) (h : JD X σ e G d) : JD X σ e G1 d := ⟨fun H eh Q q => h H (m.trans eh) Q fun G' H' v s p =>
  let ⟨s1, e1⟩ := Stp.wide m eh s
  q _ H' v s1 (p.mono e1)⟩
theorem JP.mono {P : Hp → V → Prop} (mo : Mo P) (m : Ex G G1) (h : JP X σ e G P) : JP X σ e G1 P := ⟨fun H eh Q q => h H (m.trans eh) Q fun G' H' v s p =>
  let ⟨s1, e1⟩ := Stp.wide m eh s
  q _ H' v s1 (mo _ _ _ e1 p)⟩
theorem JV.toD (h : JV X σ e G v) (p : Dx G v d) : JD X σ e G d := ⟨fun H eh Q q => h H eh Q fun H' e1 => q G H' v (.flat eh e1) p⟩
theorem JV.toP {P : Hp → V → Prop} (h : JV X σ e G v) (p : P G v) : JP X σ e G P := ⟨fun H eh Q q => h H eh Q fun H' e1 => q G H' v (.flat eh e1) p⟩
theorem JD.toP (h : JD X σ e G d) : JP X σ e G (fun G v => Dx G v d) := ⟨h.run⟩
theorem JP.toD (h : JP X σ e G (fun G v => Dx G v d)) : JD X σ e G d := ⟨h.run⟩
theorem JD.toI (h : JD X σ e G (.int i)) : JV X σ e G (.int i) := ⟨fun H eh Q q => h H eh Q fun _ H' v s p => by
  cases p.int_inv
  exact q H' s.h⟩
theorem JD.toB {t : Bool} (h : JD X σ e G (.bool t)) : JV X σ e G (.bl t) := ⟨fun H eh Q q => h H eh Q fun _ H' v s p => by
  cases p.bl_inv
  exact q H' s.h⟩
theorem JD.toS (h : JD X σ e G (.str x)) : JV X σ e G (.str x) := ⟨fun H eh Q q => h H eh Q fun _ H' v s p => by
  cases p.str_inv
  exact q H' s.h⟩
theorem JV.is (h : JV X σ e G u) (q : u = v) : JV X σ e G v := q ▸ h
theorem JD.is (h : JD X σ e G d1) (q : d1 = d) : JD X σ e G d := q ▸ h
theorem JT.is {p q : Bool} (h : JT X σ e G p) (r : p = q) : JT X σ e G q := r ▸ h

/-! ### names and constants -/
theorem jv_var (n : Nat) (hs : σ[n]? = some (some v)) (hN : X.N[n]? = some x) (hv : Vis X.env.scope x) (hd : (x == ("__debug__" : Str)) = false) (hcd : (x == ("__classdict__" : Str)) = false) : JV X σ (.Name x pos) G v := ⟨fun H _ Q q => ⟨_, pe_var hN hv hd hcd, v, hs, q H (Ex.refl H)⟩⟩
theorem jv_int {j : Nat} : JV X σ (.Constant (.int i) j pos) G (.int i) := ⟨fun H _ Q q => ⟨_, pe_int, q H (Ex.refl H)⟩⟩
theorem jv_bl {t : Bool} {j : Nat} : JV X σ (.Constant (.bool t) j pos) G (.bl t) := ⟨fun H _ Q q => ⟨_, pe_bl, q H (Ex.refl H)⟩⟩
theorem jv_str {j : Nat} : JV X σ (.Constant (.str x) j pos) G (.str x) := ⟨fun H _ Q q => ⟨_, pe_str, q H (Ex.refl H)⟩⟩
theorem jv_non {j : Nat} : JV X σ (.Constant .none j pos) G .non := ⟨fun H _ Q q => ⟨_, pe_non, q H (Ex.refl H)⟩⟩
theorem jv_glob {u : Value} (hg : Gl X x) (hm : X.mg x = some u) (r : RelV v u) (hd : (x == ("__debug__" : Str)) = false) : JV X σ (.Name x pos) G v := ⟨fun H _ Q q => ⟨_, pe_glob hg hm r hd, q H (Ex.refl H)⟩⟩
theorem jv_bltn {u : Value} (hg : Gl X x) (hm : X.mg x = none) (hv : bootBuiltins x = some u) (r : RelV v u) (hn : x ≠ "__name__") (hd : (x == ("__debug__" : Str)) = false) : JV X σ (.Name x pos) G v := ⟨fun H _ Q q => ⟨_, pe_bltn hg hm hv r hn hd, q H (Ex.refl H)⟩⟩

/-! ### operators -/
theorem jv_op {op : Operator} {r : R2} {y : V} (ho : OpR X (binaryOp op) r) (ha : JV X σ a G v) (hb : JV X σ b G u) (hr : ∀ H Q, Q y H → r v u H Q) : JV X σ (.BinOp a op b pos) G y := ⟨fun H eh Q q =>
  ⟨_, pe_op ho pe_w pe_w, ha H eh _ fun H1 e1 => hb H1 (eh.trans e1) _ fun H2 e2 => hr H2 Q (q H2 (e1.trans e2))⟩⟩
theorem jv_add (ha : JV X σ a G (.int i)) (hb : JV X σ b G (.int j)) : JV X σ (.BinOp a .Add b pos) G (.int (i + j)) := jv_op op_add ha hb fun H Q q => ⟨i, j, rfl, rfl, q⟩
theorem jv_sub (ha : JV X σ a G (.int i)) (hb : JV X σ b G (.int j)) : JV X σ (.BinOp a .Sub b pos) G (.int (i - j)) := jv_op op_sub ha hb fun H Q q => ⟨i, j, rfl, rfl, q⟩
theorem jv_mul (ha : JV X σ a G (.int i)) (hb : JV X σ b G (.int j)) (c : CMul i j) : JV X σ (.BinOp a .Mult b pos) G (.int (i * j)) := jv_op op_mul ha hb fun H Q q => ⟨i, j, rfl, rfl, c, q⟩
theorem jv_fdiv (ha : JV X σ a G (.int i)) (hb : JV X σ b G (.int j)) (c : CDiv i j) : JV X σ (.BinOp a .FloorDiv b pos) G (.int (i / j)) := jv_op op_fdiv ha hb fun H Q q => ⟨i, j, rfl, rfl, c, q⟩
theorem jv_mod (ha : JV X σ a G (.int i)) (hb : JV X σ b G (.int j)) (c : 0 < j) : JV X σ (.BinOp a .Mod b pos) G (.int (i % j)) := jv_op op_mod ha hb fun H Q q => ⟨i, j, rfl, rfl, c, q⟩
theorem jv_addS {y : Str} (ha : JV X σ a G (.str x)) (hb : JV X σ b G (.str y)) (c : x.length + y.length ≤ sizeLine) : JV X σ (.BinOp a .Add b pos) G (.str (x ++ y)) := jv_op op_add_str ha hb fun H Q q => ⟨x, y, rfl, rfl, c, q⟩
theorem jv_neg (ha : JV X σ a G (.int i)) : JV X σ (.UnaryOp .USub a pos) G (.int (-i)) := ⟨fun H eh Q q => ⟨_, pe_un un_neg pe_w, ha H eh _ fun H1 e1 => ⟨i, rfl, q H1 e1⟩⟩⟩
theorem jv_band (ha : JV X σ a G (.int i)) (hb : JV X σ b G (.int j)) : JV X σ (.BinOp a .BitAnd b pos) G (.int (Builtin.bitAnd i j)) := jv_op op_and ha hb fun H Q q => ⟨i, j, rfl, rfl, q⟩

/-! ### comparisons -/
theorem jo_of {op : CmpOp} {r : R2} {y : V} (ho : OpR X (compareOp op) r) (ha : JV X σ a G v) (hb : JV X σ b G u) (hr : ∀ H Q, Q y H → r v u H Q) : JO X σ op a b G y := ⟨r, ho, fun H eh Q q =>
  ha H eh _ fun H1 e1 => hb H1 (eh.trans e1) _ fun H2 e2 => hr H2 Q (q H2 (e1.trans e2))⟩
theorem jo_ofD {op : CmpOp} {r : R2} {y : V} (ho : OpR X (compareOp op) r) (ha : JD X σ a G d1) (hb : JD X σ b G d2) (hr : ∀ H v u Q, Dp X.K H v d1 → Dp X.K H u d2 → Q y H → r v u H Q) : JO X σ op a b G y := ⟨r, ho, fun H eh Q q =>
  ha H eh _ fun G1 H1 v s1 p1 => (hb.mono s1.g) H1 s1.gh _ fun G2 H2 u s2 p2 => hr H2 v u Q (p1.mono (s2.g.trans s2.gh)).dp (p2.mono s2.gh).dp (q H2 (s1.h.trans s2.h))⟩
theorem jo_eqI (ha : JV X σ a G (.int i)) (hb : JV X σ b G (.int j)) : JO X σ .Eq a b G (.bl (decide (i = j))) := jo_of op_eq ha hb fun H Q q => ⟨rfl, by
  have e : decide (V.int i = V.int j) = decide (i = j) := by by_cases h : i = j <;> simp [h]
  rw [e]; exact q⟩
theorem jo_neI (ha : JV X σ a G (.int i)) (hb : JV X σ b G (.int j)) : JO X σ .NotEq a b G (.bl (!decide (i = j))) := jo_of op_ne ha hb fun H Q q => ⟨rfl, by
  have e : decide (V.int i = V.int j) = decide (i = j) := by by_cases h : i = j <;> simp [h]
  rw [e]; exact q⟩
theorem jo_eqV (ha : JV X σ a G v) (hb : JV X σ b G u) (h : scal v u = true) : JO X σ .Eq a b G (.bl (decide (v = u))) := jo_of op_eq ha hb fun H Q q => ⟨h, q⟩
theorem jo_neV (ha : JV X σ a G v) (hb : JV X σ b G u) (h : scal v u = true) : JO X σ .NotEq a b G (.bl (!decide (v = u))) := jo_of op_ne ha hb fun H Q q => ⟨h, q⟩
theorem jo_lt (ha : JV X σ a G (.int i)) (hb : JV X σ b G (.int j)) : JO X σ .Lt a b G (.bl (decide (i < j))) := jo_of op_lt ha hb fun H Q q => ⟨i, j, rfl, rfl, q⟩
theorem jo_le (ha : JV X σ a G (.int i)) (hb : JV X σ b G (.int j)) : JO X σ .LtE a b G (.bl (decide (i ≤ j))) := jo_of op_le ha hb fun H Q q => ⟨i, j, rfl, rfl, q⟩
theorem jo_gt (ha : JV X σ a G (.int i)) (hb : JV X σ b G (.int j)) : JO X σ .Gt a b G (.bl (decide (j < i))) := jo_of op_gt ha hb fun H Q q => ⟨i, j, rfl, rfl, q⟩
theorem jo_ge (ha : JV X σ a G (.int i)) (hb : JV X σ b G (.int j)) : JO X σ .GtE a b G (.bl (decide (j ≤ i))) := jo_of op_ge ha hb fun H Q q => ⟨i, j, rfl, rfl, q⟩
theorem jo_eqD (hu : X.A.units + 64 < cLine) (ha : JD X σ a G d1) (hb : JD X σ b G d2) (s1 : SeqAt.shaped d1 = true) (s2 : SeqAt.shaped d2 = true) : JO X σ .Eq a b G (.bl (PyData.eqv d1 d2)) :=
  jo_ofD (op_eqD hu) ha hb fun H v u Q h1 h2 q => ⟨d1, d2, h1, h2, s1, s2, q⟩
theorem jo_neD (hu : X.A.units + 64 < cLine) (ha : JD X σ a G d1) (hb : JD X σ b G d2) (s1 : SeqAt.shaped d1 = true) (s2 : SeqAt.shaped d2 = true) : JO X σ .NotEq a b G (.bl (!PyData.eqv d1 d2)) :=
  jo_ofD (op_neD hu) ha hb fun H v u Q h1 h2 q => ⟨d1, d2, h1, h2, s1, s2, q⟩
theorem jo_inD {ds : List PyData} (hu : X.A.units + 65 < cLine) (ha : JD X σ a G d1) (hb : JD X σ b G (.list ds)) (s1 : SeqAt.shaped d1 = true) (s2 : SeqAt.shaped (.list ds) = true) : JO X σ .In a b G (.bl (ds.any fun z => PyData.eqv z d1)) :=
  jo_ofD (op_inD hu) ha hb fun H v u Q h1 h2 q => ⟨d1, ds, h1, h2, s1, s2, q⟩
theorem jo_niD {ds : List PyData} (hu : X.A.units + 65 < cLine) (ha : JD X σ a G d1) (hb : JD X σ b G (.list ds)) (s1 : SeqAt.shaped d1 = true) (s2 : SeqAt.shaped (.list ds) = true) : JO X σ .NotIn a b G (.bl (!ds.any fun z => PyData.eqv z d1)) :=
  jo_ofD (op_notInD hu) ha hb fun H v u Q h1 h2 q => ⟨d1, ds, h1, h2, s1, s2, q⟩
theorem jo_isN (ha : JV X σ a G v) {n : Nat} {p : Pos} : JO X σ .Is a (.Constant .none n p) G (.bl (decide (v = .non))) := jo_of op_isN ha jv_non fun H Q q => ⟨rfl, q⟩
theorem jo_notN (ha : JV X σ a G v) {n : Nat} {p : Pos} : JO X σ .IsNot a (.Constant .none n p) G (.bl (!decide (v = .non))) := jo_of op_notN ha jv_non fun H Q q => ⟨rfl, q⟩
theorem jo_isB {s t : Bool} (ha : JV X σ a G (.bl s)) (hb : JV X σ b G (.bl t)) : JO X σ .Is a b G (.bl (decide (s = t))) := jo_of op_isBl ha hb fun H Q q => ⟨s, t, rfl, rfl, q⟩
theorem jv_cmp {op : CmpOp} (h : JO X σ op a b G v) (hm : behindInMarks op b = false) : JV X σ (.Compare a [op] [b] pos) G v := ⟨fun H eh Q q =>
  let ⟨_, ho, h⟩ := h
  ⟨_, pe_cmpR ho pe_w pe_w hm, h H eh Q q⟩⟩
theorem jt_cmp {op : CmpOp} {t : Bool} (h : JO X σ op a b G (.bl t)) (hm : behindInMarks op b = false) : JT X σ (.Compare a [op] [b] pos) G t := ⟨fun H eh Q q =>
  let ⟨_, ho, h⟩ := h
  ⟨_, pt_cmpR ho pe_w pe_w hm, h H eh _ fun H' e' => ⟨t, rfl, q H' e'⟩⟩⟩
theorem jv_chain {op op' : CmpOp} {g g' : Int → Int → Bool} (ho : OpR X (compareOp op) (rI0 fun i j => .bl (g i j))) (ho' : OpR X (compareOp op') (rI0 fun i j => .bl (g' i j))) (ha : JV X σ a G (.int i)) (hb : JV X σ b G (.int j)) (hc : JV X σ c G (.int k))
    (hm : lastMarks [op, op'] [b, c] = false) : JV X σ (.Compare a [op, op'] [b, c] pos) G (.bl (g i j && g' j k)) := ⟨fun H eh Q q =>
  ⟨_, pe_chain ho ho' pe_w pe_w pe_w hm, ha H eh _ fun H1 e1 => hb H1 (eh.trans e1) _ fun H2 e2 => ⟨i, j, rfl, rfl, g i j, rfl, by
    cases h : g i j with
    | true =>
      rw [if_pos rfl]
      refine hc H2 ((eh.trans e1).trans e2) _ fun H3 e3 => ⟨j, k, rfl, rfl, ?_⟩
      have := q H3 ((e1.trans e2).trans e3)
      rw [h] at this
      exact this
    | false =>
      rw [if_neg Bool.false_ne_true]
      have := q H2 (e1.trans e2)
      rw [h] at this
      exact this⟩⟩⟩
theorem jt_chain {op op' : CmpOp} {g g' : Int → Int → Bool} (ho : OpR X (compareOp op) (rI0 fun i j => .bl (g i j))) (ho' : OpR X (compareOp op') (rI0 fun i j => .bl (g' i j))) (ha : JV X σ a G (.int i)) (hb : JV X σ b G (.int j)) (hc : JV X σ c G (.int k))
    (hm : lastMarks [op, op'] [b, c] = false) : JT X σ (.Compare a [op, op'] [b, c] pos) G (g i j && g' j k) := ⟨fun H eh Q q =>
  ⟨_, pt_chain ho ho' pe_w pe_w pe_w hm, ha H eh _ fun H1 e1 => hb H1 (eh.trans e1) _ fun H2 e2 => ⟨i, j, rfl, rfl, g i j, rfl, by
    cases h : g i j with
    | true =>
      rw [if_pos rfl]
      refine hc H2 ((eh.trans e1).trans e2) _ fun H3 e3 => ⟨j, k, rfl, rfl, _, rfl, ?_⟩
      have := q H3 ((e1.trans e2).trans e3)
      rw [h] at this
      exact this
    | false =>
      rw [if_neg Bool.false_ne_true]
      have := q H2 (e1.trans e2)
      rw [h] at this
      exact ⟨_, rfl, this⟩⟩⟩⟩

/-! ### and, or, not, if -/
theorem jv_one {op : BoolOp} (h : JV X σ a G v) : JV X σ (.BoolOp op [a] pos) G v := ⟨fun H eh Q q => ⟨_, pe_one pe_w, h H eh Q q⟩⟩
theorem jv_and {p t : Bool} (ha : JV X σ a G (.bl p)) (hb : p = true → JV X σ (.BoolOp .And (b :: es) pos) G (.bl t)) : JV X σ (.BoolOp .And (a :: b :: es) pos) G (.bl (p && t)) := ⟨fun H eh Q q => ⟨_, pe_and pe_w pe_w, ha H eh _ fun H1 e1 => ⟨p, rfl, by
  cases p with
  | true => rw [if_pos rfl]; exact hb rfl H1 (eh.trans e1) Q fun H2 e2 => q H2 (e1.trans e2)
  | false => rw [if_neg Bool.false_ne_true]; exact q H1 e1⟩⟩⟩
theorem jv_or {p t : Bool} (ha : JV X σ a G (.bl p)) (hb : p = false → JV X σ (.BoolOp .Or (b :: es) pos) G (.bl t)) : JV X σ (.BoolOp .Or (a :: b :: es) pos) G (.bl (p || t)) := ⟨fun H eh Q q => ⟨_, pe_or pe_w pe_w, ha H eh _ fun H1 e1 => ⟨p, rfl, by
  cases p with
  | false => rw [if_neg Bool.false_ne_true]; exact hb rfl H1 (eh.trans e1) Q fun H2 e2 => q H2 (e1.trans e2)
  | true => rw [if_pos rfl]; exact q H1 e1⟩⟩⟩
theorem jv_not {p : Bool} (h : JV X σ a G (.bl p)) : JV X σ (.UnaryOp .Not a pos) G (.bl (!p)) := ⟨fun H eh Q q => ⟨_, pe_not pe_w, h H eh _ fun H1 e1 => ⟨p, rfl, q H1 e1⟩⟩⟩
theorem jw_one_and {p : Bool} (h : JT X σ a G p) : JW X σ (.BoolOp .And [a] pos) G p := ⟨fun H eh Q q => ⟨_, pw_and1 pt_w, h H eh Q q⟩⟩
theorem jw_one_or {p : Bool} (h : JT X σ a G p) : JW X σ (.BoolOp .Or [a] pos) G p := ⟨fun H eh Q q => ⟨_, pw_or1 pt_w, h H eh Q q⟩⟩
theorem jw_and {p t : Bool} (ha : JT X σ a G p) (hb : p = true → JW X σ (.BoolOp .And (b :: es) pos) G t) : JW X σ (.BoolOp .And (a :: b :: es) pos) G (p && t) := ⟨fun H eh Q q => ⟨_, pw_and pt_w pw_w, ha H eh _ fun H1 e1 => by
  cases p with
  | true => rw [if_pos rfl]; exact hb rfl H1 (eh.trans e1) Q fun H2 e2 => q H2 (e1.trans e2)
  | false => rw [if_neg Bool.false_ne_true]; exact q H1 e1⟩⟩
theorem jw_or {p t : Bool} (ha : JT X σ a G p) (hb : p = false → JW X σ (.BoolOp .Or (b :: es) pos) G t) : JW X σ (.BoolOp .Or (a :: b :: es) pos) G (p || t) := ⟨fun H eh Q q => ⟨_, pw_or pt_w pw_w, ha H eh _ fun H1 e1 => by
  cases p with
  | false => rw [if_neg Bool.false_ne_true]; exact hb rfl H1 (eh.trans e1) Q fun H2 e2 => q H2 (e1.trans e2)
  | true => rw [if_pos rfl]; exact q H1 e1⟩⟩
theorem jt_w {p : Bool} (h : JW X σ e G p) : JT X σ e G p := ⟨fun H eh Q q => ⟨_, pw_w.pt, h H eh Q q⟩⟩
theorem jt_not {p : Bool} (h : JT X σ a G p) : JT X σ (.UnaryOp .Not a pos) G (!p) := ⟨fun H eh Q q => ⟨_, pt_not pt_w, h H eh _ fun H1 e1 => q H1 e1⟩⟩
theorem jt_val {p : Bool} (h : JV X σ e G (.bl p)) (he : ∀ whole, isTrue e X.env whole = (do let v ← whole; standAt e.pos; holding [v] (truthy v))) : JT X σ e G p := ⟨fun H eh Q q => ⟨_, pt_val pe_w he, h H eh _ fun H1 e1 => ⟨p, rfl, q H1 e1⟩⟩⟩
theorem jv_ifE {p : Bool} (hc : JT X σ c G p) (ha : p = true → JV X σ a G v) (hb : p = false → JV X σ b G v) : JV X σ (.IfExp c a b pos) G v := ⟨fun H eh Q q => ⟨_, pe_ifExp pt_w pe_w pe_w, hc H eh _ fun H1 e1 => by
  cases p with
  | true => rw [if_pos rfl]; exact ha rfl H1 (eh.trans e1) Q fun H2 e2 => q H2 (e1.trans e2)
  | false => rw [if_neg Bool.false_ne_true]; exact hb rfl H1 (eh.trans e1) Q fun H2 e2 => q H2 (e1.trans e2)⟩⟩
theorem jd_ifE {p : Bool} (hc : JT X σ c G p) (ha : p = true → JD X σ a G d) (hb : p = false → JD X σ b G d) : JD X σ (.IfExp c a b pos) G d := ⟨fun H eh Q q => ⟨_, pe_ifExp pt_w pe_w pe_w, hc H eh _ fun H1 e1 => by
  cases p with
  | true => rw [if_pos rfl]; exact ha rfl H1 (eh.trans e1) Q fun G2 H2 v s p => q G2 H2 v ((Stp.flat eh e1).trans s) p
  | false => rw [if_neg Bool.false_ne_true]; exact hb rfl H1 (eh.trans e1) Q fun G2 H2 v s p => q G2 H2 v ((Stp.flat eh e1).trans s) p⟩⟩

/-! ### argument lists, displays -/
theorem ja_nil : JA X σ [] G (fun _ vs => vs = []) := ⟨fun H eh Q q => ⟨_, pa_nil, q G H [] (.refl eh) rfl⟩⟩
/-- arguments by what is true of each -/
def Al (G : Hp) : List (Hp → V → Prop) → List V → Prop
  | [], [] => True
  | P :: Ps, v :: vs => P G v ∧ Al G Ps vs
  | _, _ => False
theorem jal_nil : JA X σ [] G (fun G vs => Al G [] vs) := ⟨fun H eh Q q => ⟨_, pa_nil, q G H [] (.refl eh) trivial⟩⟩
theorem jal_cons {P : Hp → V → Prop} {Ps : List (Hp → V → Prop)} (he : JP X σ e G P) (mo : Mo P) (hr : ∀ G1, Ex G G1 → JA X σ es G1 (fun G vs => Al G Ps vs))
    (hs : NoStar e) : JA X σ (e :: es) G (fun G vs => Al G (P :: Ps) vs) := ⟨fun H eh Q q =>
  ⟨_, pa_cons pe_w pa_w (hs _ _), he H eh _ fun G1 H1 v s1 p1 => hr G1 s1.g H1 s1.gh _ fun G2 H2 vs s2 p2 => q G2 H2 (v :: vs) (s1.trans s2) ⟨mo _ _ _ s2.g p1, p2⟩⟩⟩
theorem jad_nil : JA X σ [] G (fun G vs => DxAll G vs []) := ⟨fun H eh Q q => ⟨_, pa_nil, q G H [] (.refl eh) .nil⟩⟩
theorem JA.monoD {ds : List PyData} (m : Ex G G1) (h : JA X σ es G (fun G vs => DxAll G vs ds)) : JA X σ es G1 (fun G vs => DxAll G vs ds) := ⟨fun H eh Q q => h H (m.trans eh) Q fun G' H' v s p =>
  let ⟨s1, e1⟩ := Stp.wide m eh s
  q _ H' v s1 (p.mono e1)⟩
theorem jad_cons {ds : List PyData} (he : JD X σ e G d) (hr : JA X σ es G (fun G vs => DxAll G vs ds))
    (hs : NoStar e) : JA X σ (e :: es) G (fun G vs => DxAll G vs (d :: ds)) := ⟨fun H eh Q q =>
  ⟨_, pa_cons pe_w pa_w (hs _ _), he H eh _ fun G1 H1 v s1 p1 => (hr.monoD s1.g) H1 s1.gh _ fun G2 H2 vs s2 p2 => q G2 H2 (v :: vs) (s1.trans s2) (.cons (p1.mono s2.g) p2)⟩⟩
theorem jd_list {ds : List PyData} (h : JA X σ es G (fun G vs => DxAll G vs ds)) (hl : ds.length ≤ sizeLine) : JD X σ (.List es pos) G (.list ds) := ⟨fun H eh Q q =>
  ⟨_, pe_lst pa_w, h H eh _ fun G1 H1 vs s1 p1 => ⟨by rw [p1.length]; exact hl, fun p hp => q _ _ _ (s1.trans (Stp.new s1.gh hp)) (.lst upd_same (p1.mono (Ex.new (Evl.fresh_back s1.gh hp))))⟩⟩⟩
theorem jd_tuple {ds : List PyData} {ctx} (h : JA X σ es G (fun G vs => DxAll G vs ds)) (hl : ds.length ≤ sizeLine) : JD X σ (.Tuple es ctx pos) G (.tuple ds) := ⟨fun H eh Q q =>
  ⟨_, pe_tup pa_w, h H eh _ fun G1 H1 vs s1 p1 => ⟨by rw [p1.length]; exact hl, fun p hp => q _ _ _ (s1.trans (Stp.new s1.gh hp)) (.tup upd_same (p1.mono (Ex.new (Evl.fresh_back s1.gh hp))))⟩⟩⟩

/-! ### items, slices -/
theorem atI_map {α β : Type} (f : α → β) (xs : List α) (i : Int) : atI (xs.map f) i = (atI xs i).map f := by
  unfold atI
  rw [List.length_map]
  cases ixN xs.length i with
  | none => rfl
  | some n => simp
theorem DxAll.atI {H : Hp} {vs : List V} {ds : List PyData} {i : Int} {d : PyData} (h : DxAll H vs ds) (q : atI ds i = some d) : ∃ v, L2.atI vs i = some v ∧ Dx H v d := by
  unfold L2.atI at q ⊢
  rw [h.length]
  cases e : ixN ds.length i with
  | none => rw [e] at q; cases q
  | some n =>
    rw [e] at q
    exact h.get (i := n) q
theorem jd_ix {ds : List PyData} (ha : JD X σ a G (.list ds)) (hb : JV X σ b G (.int i)) (h : atI ds i = some d) (hs : PlainIx b) : JD X σ (.Subscript a b pos) G d := ⟨fun H eh Q q =>
  ⟨_, pe_ix ix_list pe_w pe_w hs, ha H eh _ fun G1 H1 x s1 p1 => (hb.mono s1.g) H1 s1.gh _ fun H2 e2 => by
    cases p1 with
    | lst hl hd =>
      obtain ⟨v, h1, h2⟩ := DxAll.atI hd h
      exact ⟨_, _, i, v, rfl, rfl, SqL.of ((s1.gh.trans e2) _ _ hl), h1, q G1 H2 v (s1.trans (.flat s1.gh e2)) h2⟩⟩⟩
theorem jd_ixT {ds : List PyData} (ha : JD X σ a G (.tuple ds)) (hb : JV X σ b G (.int i)) (h : atI ds i = some d) (hs : PlainIx b) : JD X σ (.Subscript a b pos) G d := ⟨fun H eh Q q =>
  ⟨_, pe_ix ix_tup pe_w pe_w hs, ha H eh _ fun G1 H1 x s1 p1 => (hb.mono s1.g) H1 s1.gh _ fun H2 e2 => by
    cases p1 with
    | tup hl hd =>
      obtain ⟨v, h1, h2⟩ := DxAll.atI hd h
      exact ⟨_, _, i, v, rfl, rfl, SqT.of ((s1.gh.trans e2) _ _ hl), h1, q G1 H2 v (s1.trans (.flat s1.gh e2)) h2⟩⟩⟩

/-! ### built-in functions -/
theorem jv_len {ds : List PyData} {p : Pos} (hm : X.mg "len" = none) (ha : JD X σ a G (.list ds)) (hg : Gl X "len") (he : NoStar a) : JV X σ (.Call (.Name "len" p) [a] [] pos) G (.int ds.length) := ⟨fun H eh Q q =>
  ⟨_, pe_callB call_len_seq hg hm PySem.boot_len (pa_cons pe_w pa_nil (he _ _)) (he := he _ _), ha H eh _ fun G1 H1 x s1 p1 => by
    cases p1 with
    | lst hl hd => exact ⟨_, _, rfl, .inl (SqL.of (s1.gh _ _ hl)), by rw [hd.length]; exact q H1 s1.h⟩⟩⟩
theorem jv_lenT {ds : List PyData} {p : Pos} (hm : X.mg "len" = none) (ha : JD X σ a G (.tuple ds)) (hg : Gl X "len") (he : NoStar a) : JV X σ (.Call (.Name "len" p) [a] [] pos) G (.int ds.length) := ⟨fun H eh Q q =>
  ⟨_, pe_callB call_len_seq hg hm PySem.boot_len (pa_cons pe_w pa_nil (he _ _)) (he := he _ _), ha H eh _ fun G1 H1 x s1 p1 => by
    cases p1 with
    | tup hl hd => exact ⟨_, _, rfl, .inr (SqT.of (s1.gh _ _ hl)), by rw [hd.length]; exact q H1 s1.h⟩⟩⟩
theorem jv_all {bs : List Bool} {p : Pos} (hc : X.calm = true) (hm : X.mg "all" = none) (ha : JD X σ a G (.list (bs.map .bool))) (hg : Gl X "all") (hb : bootBuiltins "all" = some (.builtin "all")) (he : NoStar a) : JV X σ (.Call (.Name "all" p) [a] [] pos) G (.bl (bs.all id)) := ⟨fun H eh Q q =>
  ⟨_, pe_callB (cr_all hc) hg hm hb (pa_cons pe_w pa_nil (he _ _)) (he := he _ _), ha H eh _ fun G1 H1 x s1 p1 => by
    cases p1 with
    | lst hl hd =>
      cases hd.bls
      exact ⟨_, bs, rfl, SqL.of (s1.gh _ _ hl), q H1 s1.h⟩⟩⟩
theorem jv_any {bs : List Bool} {p : Pos} (hc : X.calm = true) (hm : X.mg "any" = none) (ha : JD X σ a G (.list (bs.map .bool))) (hg : Gl X "any") (hb : bootBuiltins "any" = some (.builtin "any")) (he : NoStar a) : JV X σ (.Call (.Name "any" p) [a] [] pos) G (.bl (bs.any id)) := ⟨fun H eh Q q =>
  ⟨_, pe_callB (cr_any hc) hg hm hb (pa_cons pe_w pa_nil (he _ _)) (he := he _ _), ha H eh _ fun G1 H1 x s1 p1 => by
    cases p1 with
    | lst hl hd =>
      cases hd.bls
      exact ⟨_, bs, rfl, SqL.of (s1.gh _ _ hl), q H1 s1.h⟩⟩⟩
/-- list(xs): a copy -/
theorem jd_listOf {ds : List PyData} {p : Pos} (hm : X.mg "list" = none) (ha : JD X σ a G (.list ds)) (hg : Gl X "list") (hb : bootBuiltins "list" = some (.type "list")) (he : NoStar a) : JD X σ (.Call (.Name "list" p) [a] [] pos) G (.list ds) := ⟨fun H eh Q q =>
  ⟨_, pe_callTy call_list_of hg hm hb (pa_cons pe_w pa_nil (he _ _)) (he := he _ _), ha H eh _ fun G1 H1 x s1 p1 => by
    cases p1 with
    | lst hl hd => exact ⟨_, _, rfl, .inl (SqL.of (s1.gh _ _ hl)), fun l hn => q _ _ _ (s1.trans (Stp.new s1.gh hn)) (.lst upd_same (hd.mono (Ex.new (Evl.fresh_back s1.gh hn))))⟩⟩⟩
/-- list(a tuple) -/
theorem jd_listT {ds : List PyData} {p : Pos} (hm : X.mg "list" = none) (ha : JD X σ a G (.tuple ds)) (hg : Gl X "list") (hb : bootBuiltins "list" = some (.type "list")) (he : NoStar a) : JD X σ (.Call (.Name "list" p) [a] [] pos) G (.list ds) := ⟨fun H eh Q q =>
  ⟨_, pe_callTy call_list_of hg hm hb (pa_cons pe_w pa_nil (he _ _)) (he := he _ _), ha H eh _ fun G1 H1 x s1 p1 => by
    cases p1 with
    | tup hl hd => exact ⟨_, _, rfl, .inr (SqT.of (s1.gh _ _ hl)), fun l hn => q _ _ _ (s1.trans (Stp.new s1.gh hn)) (.lst upd_same (hd.mono (Ex.new (Evl.fresh_back s1.gh hn))))⟩⟩⟩
end
end TP

set_option Elab.async false
set_option linter.all false
set_option maxRecDepth 100000
set_option maxHeartbeats 1000000
namespace TP
open PySem PySem.Spec PyProof.Rows L2
open Evl (Ex)

/-! ### what a for walks, over what is fixed -/
def WalkD (J : It) (G1 : Hp) (ds : List PyData) : Prop := Walk J ds.length (fun H => Ex G1 H) (fun i H x H' => H' = H ∧ ∃ d, ds[i]? = some d ∧ Dx G1 x d)
structure JI (X : Cx) (σ : L2.St) (tg iter : Expr) (G : Hp) (ds : List PyData) : Prop where
  run : ∀ H, Ex G H → ∀ R : It → Hp → Prop, (∀ G1 H1 J, Stp G H G1 H1 → WalkD J G1 ds → R J H1) → ∃ wi, PI X tg iter wi ∧ wi σ H R
instance {X : Cx} {σ : L2.St} {tg iter : Expr} {G : Hp} {ds : List PyData} : CoeFun (JI X σ tg iter G ds) (fun _ => ∀ H, Ex G H → ∀ R : It → Hp → Prop, (∀ G1 H1 J, Stp G H G1 H1 → WalkD J G1 ds → R J H1) → ∃ wi, PI X tg iter wi ∧ wi σ H R) := ⟨fun h => h.run⟩
section
variable {X : Cx} {σ : L2.St} {e a b c tg iter : Expr} {es : List Expr} {G G1 : Hp} {v u : V} {d d1 d2 : PyData} {pos : Pos} {i j k : Int} {x : Str} {ds : List PyData}
theorem JI.is {ds' : List PyData} (h : JI X σ tg iter G ds) (q : ds = ds') : JI X σ tg iter G ds' := q ▸ h
theorem ji_list (h : JD X σ iter G (.list ds)) : JI X σ tg iter G ds := ⟨fun H eh R q => ⟨_, pi_list pe_w, h H eh _ fun G1 H1 v s p => by
  cases p with
  | @lst a xs _ hl hd =>
    refine ⟨a, rfl, ⟨xs, SqL.of (s.gh _ _ hl)⟩, q G1 H1 _ s ?_⟩
    have w : Walk (Itl X.K a) xs.length (fun H => SqL X.K H a xs) (YAt xs) := walk_list
    unfold WalkD
    rw [← hd.length]
    refine w.mono (fun H e => SqL.of (e _ _ hl)) fun i H x H' hi e y => ?_
    obtain ⟨d, h1, h2⟩ := hd.back y.2
    exact ⟨y.1, d, h1, h2⟩⟩⟩
theorem ji_tup (h : JD X σ iter G (.tuple ds)) : JI X σ tg iter G ds := ⟨fun H eh R q => ⟨_, pi_tup pe_w, h H eh _ fun G1 H1 v s p => by
  cases p with
  | @tup a xs _ hl hd =>
    refine ⟨a, rfl, ⟨xs, SqT.of (s.gh _ _ hl)⟩, q G1 H1 _ s ?_⟩
    have w : Walk (Itt X.K a) xs.length (fun H => SqT X.K H a xs) (YAt xs) := walk_tup
    unfold WalkD
    rw [← hd.length]
    refine w.mono (fun H e => SqT.of (e _ _ hl)) fun i H x H' hi e y => ?_
    obtain ⟨d, h1, h2⟩ := hd.back y.2
    exact ⟨y.1, d, h1, h2⟩⟩⟩
theorem ji_range1 {n : Nat} {p : Pos} (hm : X.mg "range" = none) (h : JV X σ a G (.int n)) (hn : n < 2 ^ 62) (hg : Gl X "range") (he : NoStar a) :
    JI X σ tg (.Call (.Name "range" p) [a] [] pos) G ((List.range n).map fun i => .int (i : Nat)) := ⟨fun H eh R q => ⟨_, pi_range1 hg hm (pa_cons pe_w pa_nil (he _ _)) (he _ _), h H eh _ fun H1 e1 => by
  refine ⟨(n : Int), rfl, by omega, by omega, q G H1 _ (.flat eh e1) ?_⟩
  have w : Walk (Itr 0 (n : Int).toNat) (n : Int).toNat (fun _ => True) (YFn fun i => .int (0 + i)) := walk_range
  unfold WalkD
  rw [List.length_map, List.length_range]
  have e2 : (n : Int).toNat = n := rfl
  rw [e2] at w ⊢
  refine w.mono (fun _ _ => trivial) fun i H x H' hi e y => ⟨y.1, .int (i : Nat), by simp [hi], ?_⟩
  rw [y.2]
  show Dx G (V.int (0 + (i : Int))) _
  rw [Int.zero_add]
  exact .int _⟩⟩
theorem ji_range2 {p : Pos} (hm : X.mg "range" = none) (h1 : JV X σ a G (.int i)) (h2 : JV X σ b G (.int j)) (hi : -1000000 ≤ i ∧ i ≤ 1000000) (hj : -1000000 ≤ j ∧ j ≤ 1000000) (hg : Gl X "range") (he : NoStar a) (hf : NoStar b) :
    JI X σ tg (.Call (.Name "range" p) [a, b] [] pos) G ((List.range (j - i).toNat).map fun k => .int (i + (k : Nat))) := ⟨fun H eh R q =>
  ⟨_, pi_range2 hg hm (pa_cons pe_w (pa_cons pe_w pa_nil (hf _ _)) (he _ _)) ((he _ _).trans (by rw [hf] <;> rfl)) (hf _ _), h1 H eh _ fun H1 e1 => h2 H1 (eh.trans e1) _ fun H2 e2 => by
  refine ⟨i, j, rfl, ⟨by omega, by omega, by omega, by omega⟩, q G H2 _ (.flat eh (e1.trans e2)) ?_⟩
  have w : Walk (Itr i (j - i).toNat) (j - i).toNat (fun _ => True) (YFn fun k => .int (i + k)) := walk_range
  unfold WalkD
  rw [List.length_map, List.length_range]
  refine w.mono (fun _ _ => trivial) fun k H x H' hi e y => ⟨y.1, .int (i + (k : Nat)), by simp [hi], ?_⟩
  rw [y.2]
  exact .int _⟩⟩

/-! ### targets -/
theorem wg_name {n : Nat} {p : Pos} {v : V} {σ : L2.St} {H : Hp} {Q : L2.St → Hp → Prop} (hN : X.N.Nodup) (hi : X.N[n]? = some x) (hx : Loc X.env.scope x) (hf : X.fn x = true ∨ X.env.scope.names.lookup x = some .local) (q : Q (σ.set n (some v)) H) :
    wG X (.Name x p) v σ H Q := ⟨_, pg_name hN hi hx hf, q⟩
theorem pg_w : PG X tg (wG X tg) := ⟨fun pins s σ H v u Q I r ⟨_, h, q⟩ => h.run pins s σ H v u Q I r q⟩
/-- a pair of two names -/
theorem wg_pair {n m : Nat} {p1 p2 p3 : Pos} {y : Str} {kk : Nat} {v1 v2 : V} {σ : L2.St} {H : Hp} {Q : L2.St → Hp → Prop} (hc : X.calm = true) (hN : X.N.Nodup) (hi : X.N[n]? = some x) (hx : Loc X.env.scope x) (hf : X.fn x = true ∨ X.env.scope.names.lookup x = some .local)
    (hj : X.N[m]? = some y) (hy : Loc X.env.scope y) (hg : X.fn y = true ∨ X.env.scope.names.lookup y = some .local) {t : Addr} (ht : SqT X.K H t [v1, v2]) (q : Q ((σ.set n (some v1)).set m (some v2)) H)
    (hn : (assignEach [.Name x p1, .Name y p2] X.env).length = 2) (hst : (assignEach [.Name x p1, .Name y p2] X.env).findIdx? (·.1) = none)
    (hs1 : (assignEach [.Name x p1, .Name y p2] X.env).map (·.2) = assign (.Name x p1) X.env :: (assignEach [.Name y p2] X.env).map (·.2)) (hs2 : (assignEach [.Name y p2] X.env).map (·.2) = assign (.Name y p2) X.env :: (assignEach [] X.env).map (·.2)) :
    wG X (.Tuple [.Name x p1, .Name y p2] kk p3) (.ref t) σ H Q :=
  ⟨_, pg_tup hc (pgs_cons (pg_name hN hi hx hf) (pgs_cons (pg_name hN hj hy hg) pgs_nil hs2) hs1) hn hst, t, [v1, v2], rfl, ht, rfl, v1, [v2], rfl, v2, [], rfl, rfl, q⟩

/-! ### statements, each ahead of the rest of its block -/
variable {st : Stmt} {rest body : List Stmt} {D : Ends} {G0 H0 H : Hp} {os : List (Addr × HO)}
theorem b_nil {H : Hp} (h : D.nx σ H) : wSs X [] D σ H := ⟨_, pss_nil, h⟩
theorem b_cons {H : Hp} (h : wS X st { D with nx := wSs X rest D } σ H) : wSs X (st :: rest) D σ H := ⟨_, pss_cons ps_w pss_w, h⟩
theorem b_setV {n : Nat} {p q : Pos} (h : Hs G0 H0 G H os) (he : JV X σ e G v) (hN : X.N.Nodup) (hi : X.N[n]? = some x) (hx : Loc X.env.scope x) (hs : swapsWith e (some (.Name x p)) q.line X.env = pure false) (hf : X.fn x = true ∨ X.env.scope.names.lookup x = some .local)
    (k : ∀ H', Hs G0 H0 G H' os → wSs X rest D (σ.set n (some v)) H') : wSs X (.Assign [.Name x p] e q :: rest) D σ H :=
  b_cons ⟨_, ps_set hN hi hx pe_w hs hf, he H h.ex _ fun H1 e1 => k H1 (h.flat e1)⟩
theorem b_setD {n : Nat} {p q : Pos} (h : Hs G0 H0 G H os) (he : JD X σ e G d) (hN : X.N.Nodup) (hi : X.N[n]? = some x) (hx : Loc X.env.scope x) (hs : swapsWith e (some (.Name x p)) q.line X.env = pure false) (hf : X.fn x = true ∨ X.env.scope.names.lookup x = some .local)
    (k : ∀ G' H' v, Hs G0 H0 G' H' os → Ex G G' → Dx G' v d → wSs X rest D (σ.set n (some v)) H') : wSs X (.Assign [.Name x p] e q :: rest) D σ H :=
  b_cons ⟨_, ps_set hN hi hx pe_w hs hf, he H h.ex _ fun G1 H1 v s p => k G1 H1 v (h.stp s) s.g p⟩
theorem b_setP {n : Nat} {p q : Pos} {P : Hp → V → Prop} (h : Hs G0 H0 G H os) (he : JP X σ e G P) (hN : X.N.Nodup) (hi : X.N[n]? = some x) (hx : Loc X.env.scope x) (hs : swapsWith e (some (.Name x p)) q.line X.env = pure false) (hf : X.fn x = true ∨ X.env.scope.names.lookup x = some .local)
    (k : ∀ G' H' v, Hs G0 H0 G' H' os → Ex G G' → P G' v → wSs X rest D (σ.set n (some v)) H') : wSs X (.Assign [.Name x p] e q :: rest) D σ H :=
  b_cons ⟨_, ps_set hN hi hx pe_w hs hf, he H h.ex _ fun G1 H1 v s p => k G1 H1 v (h.stp s) s.g p⟩
/-- x = []: a list of one's own -/
theorem b_setN {n : Nat} {p q r : Pos} (h : Hs G0 H0 G H os) (hN : X.N.Nodup) (hi : X.N[n]? = some x) (hx : Loc X.env.scope x) (hf : X.fn x = true ∨ X.env.scope.names.lookup x = some .local)
    (k : ∀ H' a, Hs G0 H0 G H' ((a, .lst []) :: os) → wSs X rest D (σ.set n (some (.ref a))) H') : wSs X (.Assign [.Name x p] (.List [] r) q :: rest) D σ H :=
  b_cons ⟨_, ps_set hN hi hx (pe_lst pa_nil) rfl hf, Nat.zero_le _, fun a ha => k _ a (h.new ha)⟩
/-- x = e, e a new list: a list of one's own -/
theorem b_ret {q : Pos} (h : Hs G0 H0 G H os) (he : JV X σ e G v) (k : ∀ H', Hs G0 H0 G H' os → D.rt v H') : wSs X (.Return (some e) q :: rest) D σ H :=
  b_cons ⟨_, ps_ret pe_w, he H h.ex _ fun H1 e1 => k H1 (h.flat e1)⟩
theorem b_retD {q : Pos} (h : Hs G0 H0 G H os) (he : JD X σ e G d) (k : ∀ G' H' v, Hs G0 H0 G' H' os → Dx G' v d → D.rt v H') : wSs X (.Return (some e) q :: rest) D σ H :=
  b_cons ⟨_, ps_ret pe_w, he H h.ex _ fun G1 H1 v s p => k G1 H1 v (h.stp s) p⟩
theorem b_retP {q : Pos} {P : Hp → V → Prop} (h : Hs G0 H0 G H os) (he : JP X σ e G P) (k : ∀ G' H' v, Hs G0 H0 G' H' os → P G' v → D.rt v H') : wSs X (.Return (some e) q :: rest) D σ H :=
  b_cons ⟨_, ps_ret pe_w, he H h.ex _ fun G1 H1 v s p => k G1 H1 v (h.stp s) p⟩
theorem b_if {p : Bool} {els : List Stmt} {q : Pos} (h : Hs G0 H0 G H os) (hc : JT X σ c G p) (h1 : p = true → ∀ H', Hs G0 H0 G H' os → wSs X body { D with nx := wSs X rest D } σ H')
    (h2 : p = false → ∀ H', Hs G0 H0 G H' os → wSs X els { D with nx := wSs X rest D } σ H') : wSs X (.If c body els q :: rest) D σ H :=
  b_cons ⟨_, ps_if pt_w pss_w pss_w, hc H h.ex _ fun H1 e1 => by
    cases p with
    | true => rw [if_pos rfl]; exact h1 rfl H1 (h.flat e1)
    | false => rw [if_neg Bool.false_ne_true]; exact h2 rfl H1 (h.flat e1)⟩
/-- a call whose value is dropped -/
theorem b_expr {q : Pos} (h : Hs G0 H0 G H os) (he : JP X σ e G (fun _ _ => True)) (hs : swapsWith e none q.line X.env = pure false) (k : ∀ G' H', Hs G0 H0 G' H' os → Ex G G' → wSs X rest D σ H') : wSs X (.Expr e q :: rest) D σ H :=
  b_cons ⟨_, ps_expr pe_w hs, he H h.ex _ fun G1 H1 v s p => k G1 H1 (h.stp s) s.g⟩
theorem b_dead {q : L2.St → Hp → Prop} : wSs X rest D σ H ∨ True := .inr trivial
/-- x.append(e), x a list of one's own, the first of os -/
theorem b_append {n : Nat} {p ap cp q : Pos} {l : Addr} {xs : List V} (h : Hs G0 H0 G H ((l, .lst xs) :: os)) (hs : σ[n]? = some (some (.ref l))) (hN : X.N[n]? = some x) (hv : Vis X.env.scope x) (he : JD X σ e G d) (hl : xs.length < 100000)
    (hd : (x == ("__debug__" : Str)) = false) (hcd : (x == ("__classdict__" : Str)) = false) (ns : NoStar e) (hbase : attributeBase (.Name x p) "append" X.env (eval (.Name x p) X.env) = eval (.Name x p) X.env) (hline : (ap.endLine == cp.line) = true)
    (hfew : ((backTo cp (starEach [e] X.env)).all (fun x => !x.1) && (backToKw cp (keywordEach [] X.env)).all (fun x => x.1.isSome) && decide ([e].length + ([] : List Keyword).length + (if ([] : List Keyword).isEmpty then 0 else 1) < 30)) = true)
    (hsw : swapsWith (.Call (.Attribute (.Name x p) "append" ap) [e] [] cp) none q.line X.env = pure false)
    (k : ∀ G' H' v, Hs G0 H0 G' H' ((l, .lst (xs ++ [v])) :: os) → Ex G G' → Dx G' v d → wSs X rest D σ H') : wSs X (.Expr (.Call (.Attribute (.Name x p) "append" ap) [e] [] cp) q :: rest) D σ H :=
  b_cons ⟨_, ps_expr (pe_bm PySem.F.plainAttrs_list PySem.F.slot_list_append PySem.F.type_list_append mt_append (pe_var hN hv hd hcd) (pa_cons pe_w pa_nil (ns _ _)) (hs := ns _ _) (hbase := hbase) (hline := hline) (hfew := hfew)) hsw,
    _, hs, .inl ⟨rfl, _, SqL.of h.at0⟩, he H h.ex _ fun G1 H1 v s p => by
      have h1 := h.stp s
      exact ⟨l, xs, v, rfl, rfl, h1.at0, Evl.sz_lt hl, k G1 _ v h1.put0 s.g p⟩⟩

/-! ### for -/
/-- the rule: W by the part taken, the slots, what is fixed, all -/
theorem b_for {α : Type} {f : α → PyData} {xs : List α} {q : Pos} (h : Hs G0 H0 G H os) (hi : JI X σ tg iter G (xs.map f)) (hp : PassesOwn (model X.prog X.w) X.A X.env X.xe) (hc : X.calm = true) (hs : ∀ x, foldedSetIterable iter X.env x = pure x)
    (k : ∀ G1 H1, Hs G0 H0 G1 H1 os → Ex G G1 → ∃ W : List α → L2.St → Hp → Hp → Prop, W [] σ G1 H1 ∧ (∀ pre σ G' H', W pre σ G' H' → Ex G1 G' ∧ Ex G' H') ∧
      (∀ pre x post v σ' G' H', xs = pre ++ x :: post → W pre σ' G' H' → Dx G1 v (f x) →
        wG X tg v σ' H' fun σ2 H2 => wSs X body { D with nx := fun s h => ∃ g, W (pre ++ [x]) s g h, ct := fun s h => ∃ g, W (pre ++ [x]) s g h, bk := wSs X rest D } σ2 H2) ∧
      (∀ σ' G' H', W xs σ' G' H' → wSs X rest D σ' H')) : wSs X (.For tg iter body [] q :: rest) D σ H := by
  refine b_cons ?_
  have key : ∃ wi, PI X tg iter wi ∧ wi σ H (fun J H1 => ∃ W : Nat → Nat → L2.St → Hp → Prop, (∃ m, W 0 m σ H1) ∧ ∀ i m σ H, W i m σ H →
      (J.stop i H ∧ wSs X rest D σ H) ∨ (J.go i H ∧ ∃ N : L2.St → Hp → Prop, (∀ σ' H', N σ' H' → ∃ m', m' < m ∧ W (i + 1) m' σ' H') ∧ ∀ x H', J.yld i H x H' → wG X tg x σ H' fun σ2 H2 => wSs X body { D with nx := N, ct := N, bk := wSs X rest D } σ2 H2)) := by
    refine hi H h.ex _ fun G1 H1 J s w => ?_
    obtain ⟨W, w0, wx, wt, wd⟩ := k G1 H1 (h.stp s) s.g
    have hw := w
    unfold WalkD at hw
    rw [List.length_map] at hw
    refine for_it hw (tb := wSs X body) (D := { D with nx := wSs X rest D }) (fun i σ H => ∃ G', W (xs.take i) σ G' H) ⟨G1, by simpa using w0⟩ (fun i σ H _ ⟨G', hW⟩ => (wx _ _ _ _ hW).1.trans (wx _ _ _ _ hW).2) ?_ fun σ H ⟨G', hW⟩ => wd σ G' H (by simpa using hW)
    rintro i x σ' H' H'' hlt ⟨G', hW⟩ ⟨rfl, d, hd, pd⟩
    have hx : xs[i]? = some xs[i] := List.getElem?_eq_getElem hlt
    have ed : d = f xs[i] := by
      rw [List.getElem?_map, hx] at hd
      exact (Option.some.inj hd).symm
    subst ed
    have split : xs = xs.take i ++ xs[i] :: xs.drop (i + 1) := by
      have := List.take_append_drop i xs
      rw [List.drop_eq_getElem_cons hlt] at this
      exact this.symm
    have tk : xs.take (i + 1) = xs.take i ++ [xs[i]] := by rw [List.take_succ, hx]; rfl
    have := wt (xs.take i) xs[i] (xs.drop (i + 1)) x σ' G' H'' split hW pd
    rw [← tk] at this
    exact this
  obtain ⟨wi, hpi, hwi⟩ := key
  exact ⟨_, ps_for hp hc hpi pg_w pss_w hs, hwi⟩

/-! ### while -/
theorem b_while {q : Pos} (hp : PassesOwn (model X.prog X.w) X.A X.env X.xe) (W : Nat → L2.St → Hp → Hp → Prop) {m0 : Nat} (w0 : W m0 σ G H)
    (turn : ∀ m σ G H, W m σ G H → Ex G H ∧ ∃ p, JT X σ c G p ∧ (p = true → ∀ H', Ex H H' → wSs X body { D with nx := fun s h => ∃ m' g, m' < m ∧ W m' s g h, ct := fun s h => ∃ m' g, m' < m ∧ W m' s g h, bk := wSs X rest D } σ H') ∧
      (p = false → ∀ H', Ex H H' → wSs X rest D σ H')) : wSs X (.While c body [] q :: rest) D σ H := by
  refine b_cons ⟨_, ps_while hp pt_w pss_w, fun m σ H => ∃ G, W m σ G H, ⟨m0, G, w0⟩, ?_⟩
  rintro m σ H ⟨G, hW⟩
  obtain ⟨ex, p, hc, h1, h2⟩ := turn m σ G H hW
  refine hc H ex _ fun H' e' => ?_
  cases p with
  | true =>
    rw [if_pos rfl]
    refine ⟨fun s h => ∃ m' g, m' < m ∧ W m' s g h, fun σ' H' ⟨m', g, hm, hw⟩ => ⟨m', hm, g, hw⟩, h1 rfl H' e'⟩
  | false =>
    rw [if_neg Bool.false_ne_true]
    exact h2 rfl H' e'
end
end TP

set_option Elab.async false
set_option linter.all false
set_option maxRecDepth 100000
set_option maxHeartbeats 1000000
namespace TP
open PySem PySem.Spec PyProof.Rows L2
open Evl (Ex)
theorem wE.mono {X : Cx} {e : Expr} {σ : L2.St} {H : Hp} {Q Q' : VK} (h : wE X e σ H Q) (m : ∀ v H', Q v H' → Q' v H') : wE X e σ H Q' := by
  obtain ⟨t, ht, q⟩ := h
  refine ⟨fun σ H Q' => ∃ Q, t σ H Q ∧ ∀ v H', Q v H' → Q' v H', ⟨fun pins s σ H Q' I ⟨Q, q, m⟩ => ?_⟩, Q, q, m⟩
  exact thn (ht.run pins s σ H Q I q) fun u s' ⟨v, H', I', r, q'⟩ => ⟨v, H', I', r, m _ _ q'⟩
/-! ### a new list, not yet fixed -/
structure JN (X : Cx) (σ : L2.St) (e : Expr) (G : Hp) (ds : List PyData) : Prop where
  run : ∀ H, Ex G H → ∀ Q : VK, (∀ G' H' p vs, Stp G H G' H' → H p = none → G' p = none → H' p = some (.lst vs) → DxAll G' vs ds → Q (.ref p) H') → wE X e σ H Q
instance {X : Cx} {σ : L2.St} {e : Expr} {G : Hp} {ds : List PyData} : CoeFun (JN X σ e G ds) (fun _ => ∀ H, Ex G H → ∀ Q : VK, (∀ G' H' p vs, Stp G H G' H' → H p = none → G' p = none → H' p = some (.lst vs) → DxAll G' vs ds → Q (.ref p) H') → wE X e σ H Q) := ⟨fun h => h.run⟩
section
variable {X : Cx} {σ : L2.St} {e a b c tg iter : Expr} {es : List Expr} {G G1 : Hp} {v u : V} {d d1 d2 : PyData} {ds : List PyData} {pos : Pos} {i j k : Int} {x : Str} {st : Stmt} {rest body : List Stmt} {D : Ends} {G0 H0 H : Hp} {os : List (Addr × HO)}
theorem JN.toD (h : JN X σ e G ds) : JD X σ e G (.list ds) := ⟨fun H eh Q q => h H eh Q fun G' H' p vs s hp gp hq hd => by
  have gn : Ex G' (upd G' p (.lst vs)) := Ex.new gp
  refine q (upd G' p (.lst vs)) H' _ ⟨s.g.trans gn, fun a o e => ?_, s.h, fun a ha e => ?_⟩ (.lst upd_same (hd.mono gn))
  · by_cases z : a = p
    · subst z; rw [upd_same] at e; cases e; exact hq
    · rw [upd_ne z] at e; exact s.gh a o e
  · by_cases z : a = p
    · subst z; exact absurd hp ha
    · rw [upd_ne z] at e; exact s.fr a ha e⟩
theorem JN.mono (m : Ex G G1) (h : JN X σ e G ds) : JN X σ e G1 ds := ⟨fun H eh Q q => h H (m.trans eh) Q fun G' H' p vs s hp gp hq hd => by
  obtain ⟨s1, e1⟩ := Stp.wide m eh s
  refine q _ H' p vs s1 hp ?_ hq (hd.mono e1)
  unfold join
  rw [Evl.fresh_back eh hp]
  exact gp⟩
theorem jn_new {H1 G1 : Hp} {vs : List V} (eh : Ex G H) (s1 : Stp G H G1 H1) {p : Addr} (hp : H1 p = none) (hd : DxAll G1 vs ds) {Q : VK} (q : ∀ G' H' p vs, Stp G H G' H' → H p = none → G' p = none → H' p = some (.lst vs) → DxAll G' vs ds → Q (.ref p) H') : Q (.ref p) (upd H1 p (.lst vs)) :=
  q G1 _ p vs ⟨s1.g, s1.gh.trans (Ex.new hp), s1.h.trans (Ex.new hp), s1.fr⟩ (Evl.fresh_back s1.h hp) (Evl.fresh_back s1.gh hp) upd_same hd
end
/-! ### list comprehensions -/
/-- a block's context -/
abbrev Blk (X : Cx) (scope : Scope) (s : Shared) (H : Hp) (C : Addr) (cl : List (Str × Addr)) (fp : List Addr) : Cx := X.blk s H scope (compEnvC scope cl C X.env) fp
def bE (X : Cx) (scope : Scope) (e : Expr) : TE := fun σ H Q => ∀ s h C cl fp, wE (Blk X scope s h C cl fp) e σ H Q
def bT (X : Cx) (scope : Scope) (e : Expr) : TT := fun σ H Q => ∀ s h C cl fp, wT (Blk X scope s h C cl fp) e σ H Q
def bG (X : Cx) (scope : Scope) (tg : Expr) : TG := fun v σ H Q => ∀ s h C cl fp, wG (Blk X scope s h C cl fp) tg v σ H Q
section
variable {X : Cx} {σ : L2.St} {elt c tg iter : Expr} {G G1 : Hp} {scope : Scope} {own : List (Str × Nat)} {pos : Pos}
theorem pe_b {e : Expr} (s : Shared) (h : Hp) (C : Addr) (cl : List (Str × Addr)) (fp : List Addr) : PE (Blk X scope s h C cl fp) e (bE X scope e) := ⟨fun pins s' σ H Q I q => pe_w.run pins s' σ H Q I (q s h C cl fp)⟩
theorem pt_b {e : Expr} (s : Shared) (h : Hp) (C : Addr) (cl : List (Str × Addr)) (fp : List Addr) : PT (Blk X scope s h C cl fp) e (bT X scope e) := ⟨fun pins s' σ H Q I q => pt_w.run pins s' σ H Q I (q s h C cl fp)⟩
theorem pg_b {e : Expr} (s : Shared) (h : Hp) (C : Addr) (cl : List (Str × Addr)) (fp : List Addr) : PG (Blk X scope s h C cl fp) e (bG X scope e) := ⟨fun pins s' σ H v u Q I r q => pg_w.run pins s' σ H v u Q I r (q s h C cl fp)⟩

/-- the reading of a comprehension: pre what is known of each item, p its test, f its value -/
theorem lc_read {α : Type} {f0 : α → PyData} {xs : List α} {p : α → Bool} {f : α → PyData} {te : TE} {tt : TT} {tgt : TG} {vs : List Nat} {wi : TI} (hl : xs.length < 100000)
    (hwi : ∀ H, Ex G H → ∀ R : It → Hp → Prop, (∀ G1 H1 J, Stp G H G1 H1 → WalkD J G1 (xs.map f0) → R J H1) → wi σ H R)
    (hb : ∀ x ∈ xs, ∀ G' v, Ex G G' → Dx G' v (f0 x) → ∃ σ2, wipe σ2 vs = wipe σ vs ∧ (∀ H Q, Ex G' H → Q σ2 H → tgt v (wipe σ vs) H Q) ∧
      (∀ H Q, Ex G' H → (∀ H', Ex H H' → Q (p x) H') → tt σ2 H Q) ∧
      (p x = true → ∀ H Q, Ex G' H → (∀ G2 H' v, Stp G' H G2 H' → Dx G2 v (f x) → Q v H') → te σ2 H Q)) :
    ∀ H, Ex G H → ∀ Q : VK, (∀ G' H' l ws, Stp G H G' H' → H l = none → G' l = none → H' l = some (.lst ws) → DxAll G' ws ((xs.filter p).map f) → Q (.ref l) H') → tLc wi tgt tt te vs σ H Q := by
  intro H eh Q q
  refine hwi H eh _ fun G1 H1 J s1 w D hD => ?_
  have h1 : Hs G1 H1 G1 H1 [] := .nil s1.gh
  unfold WalkD at w
  rw [List.length_map] at w
  refine lc_it w (fun i H => ∃ G' ws, Hs G1 H1 G' H [(D, .lst ws)] ∧ DxAll G' ws (((xs.take i).filter p).map f)) ⟨G1, [], h1.new hD, .nil⟩ (fun i H _ ⟨G', ws, hs, _⟩ => hs.st.g.trans hs.ex) ?_ ?_
  · rintro i x H2 H2' hlt ⟨G', ws, hs, hd⟩ ⟨rfl, d, hd1, pd⟩
    have hx : xs[i]? = some xs[i] := List.getElem?_eq_getElem hlt
    have ed : d = f0 xs[i] := by
      rw [List.getElem?_map, hx] at hd1
      exact (Option.some.inj hd1).symm
    subst ed
    have tk : xs.take (i + 1) = xs.take i ++ [xs[i]] := by rw [List.take_succ, hx]; rfl
    have eg : Ex G G' := s1.g.trans hs.st.g
    obtain ⟨σ2, e2, ht, hc, he⟩ := hb xs[i] (List.getElem_mem hlt) G' x eg (pd.mono hs.st.g)
    have len : ws.length < sizeLine := by
      rw [hd.length, List.length_map]
      have a1 : ((xs.take i).filter p).length ≤ (xs.take i).length := List.length_filter_le _ _
      have a2 : (xs.take i).length ≤ xs.length := by rw [List.length_take]; omega
      exact Evl.sz_lt (by omega)
    refine ht H2' _ hs.ex ⟨e2, hc H2' _ hs.ex fun H3 e3 => ?_⟩
    have hs3 := hs.flat e3
    cases hp : p xs[i] with
    | false =>
      rw [if_neg Bool.false_ne_true]
      refine ⟨G', ws, hs3, ?_⟩
      rw [tk, List.filter_append, List.filter_cons_of_neg (by rw [hp]; decide)]
      simpa using hd
    | true =>
      rw [if_pos rfl]
      refine he hp H3 _ hs3.ex fun G4 H4 v s4 p4 => ?_
      have hs4 := hs3.stp s4
      refine ⟨ws, hs4.at0, len, G4, ws ++ [v], hs4.put0, ?_⟩
      rw [tk, List.filter_append, List.filter_cons_of_pos hp, List.filter_nil, List.map_append]
      exact (hd.mono s4.g).snoc p4
  · rintro H2 ⟨G', ws, hs, hd⟩
    rw [List.take_length] at hd
    have o0 := hs.own _ List.mem_cons_self
    exact q G' H2 D ws (s1.trans hs.st) (Evl.fresh_back s1.h o0.2.2) o0.1 o0.2.1 hd
/-- [elt for y in iter if c] -/
theorem jn_lcT {α : Type} {f0 : α → PyData} {xs : List α} {p : α → Bool} {f : α → PyData} {n : Nat} {y : Str} {py : Pos} (hi : JI X σ (.Name y py) iter G (xs.map f0)) (hl : xs.length < 100000) (hc : X.calm = true) (hN : X.N.Nodup) (hn : X.N[n]? = some y) (hy : ∀ s h C cl fp, Loc (Blk X scope s h C cl fp).env.scope y ∧ ((Blk X scope s h C cl fp).fn y = true ∨ (Blk X scope s h C cl fp).env.scope.names.lookup y = some .local))
    (ok : blkC X.N X.env.scope scope [(y, n)] = true) (hs : ∀ x, foldedSetIterable iter X.env x = pure x)
    (ht : ∀ s h C cl fp, ∀ x ∈ xs, ∀ G' v, Ex G G' → Dx G' v (f0 x) → JT (Blk X scope s h C cl fp) (σ.set n (some v)) c G' (p x))
    (he : ∀ s h C cl fp, ∀ x ∈ xs, p x = true → ∀ G' v, Ex G G' → Dx G' v (f0 x) → JD (Blk X scope s h C cl fp) (σ.set n (some v)) elt G' (f x)) :
    JN X σ (.ListComp elt [⟨.Name y py, iter, [c], 0⟩] scope pos) G ((xs.filter p).map f) := ⟨fun H eh Q q => by
  have hw : ∀ v, wipe ((σ.set n none).set n (some v)) [n] = wipe σ [n] := fun v => by simp [wipe, List.set_set]
  refine ⟨_, pe_lc (wi := fun σ H R => ∃ wi, PI X (.Name y py) iter wi ∧ wi σ H R) hc hN ⟨fun pins s σ H R I ⟨_, h, q⟩ => h.run pins s σ H R I q⟩ (blkOk_by ok) pg_b (fun s h C cl fp => pts_one (pt_b s h C cl fp)) pe_b hs, ?_⟩
  refine lc_read (G := G) (wi := fun σ H R => ∃ wi, PI X (.Name y py) iter wi ∧ wi σ H R) (f0 := f0) (xs := xs) (p := p) (f := f) hl hi (fun x hx G' v e pd => ⟨(σ.set n none).set n (some v), hw v, fun H Q _ q s h C cl fp => wg_name (X := Blk X scope s h C cl fp) hN hn (hy s h C cl fp).1 (hy s h C cl fp).2 q, ?_, ?_⟩) H eh Q q
  · intro H Q e1 q1 s h C cl fp
    have := ht s h C cl fp x hx G' v e pd
    rw [List.set_set]
    exact this H e1 Q q1
  · intro hp H Q e1 q1 s h C cl fp
    have := he s h C cl fp x hx hp G' v e pd
    rw [List.set_set]
    exact this H e1 Q q1⟩
/-- [elt for y in iter] -/
theorem jn_lc {α : Type} {f0 : α → PyData} {xs : List α} {f : α → PyData} {n : Nat} {y : Str} {py : Pos} (hi : JI X σ (.Name y py) iter G (xs.map f0)) (hl : xs.length < 100000) (hc : X.calm = true) (hN : X.N.Nodup) (hn : X.N[n]? = some y) (hy : ∀ s h C cl fp, Loc (Blk X scope s h C cl fp).env.scope y ∧ ((Blk X scope s h C cl fp).fn y = true ∨ (Blk X scope s h C cl fp).env.scope.names.lookup y = some .local))
    (ok : blkC X.N X.env.scope scope [(y, n)] = true) (hs : ∀ x, foldedSetIterable iter X.env x = pure x)
    (he : ∀ s h C cl fp, ∀ x ∈ xs, ∀ G' v, Ex G G' → Dx G' v (f0 x) → JD (Blk X scope s h C cl fp) (σ.set n (some v)) elt G' (f x)) :
    JN X σ (.ListComp elt [⟨.Name y py, iter, [], 0⟩] scope pos) G (xs.map f) := ⟨fun H eh Q q => by
  have hw : ∀ v, wipe ((σ.set n none).set n (some v)) [n] = wipe σ [n] := fun v => by simp [wipe, List.set_set]
  refine ⟨_, pe_lc (wi := fun σ H R => ∃ wi, PI X (.Name y py) iter wi ∧ wi σ H R) hc hN ⟨fun pins s σ H R I ⟨_, h, q⟩ => h.run pins s σ H R I q⟩ (blkOk_by ok) pg_b (fun s h C cl fp => pts_nil) pe_b hs, ?_⟩
  have ef : xs.filter (fun _ => true) = xs := by simp
  refine lc_read (G := G) (wi := fun σ H R => ∃ wi, PI X (.Name y py) iter wi ∧ wi σ H R) (f0 := f0) (xs := xs) (p := fun _ => true) (f := f) hl hi (fun x hx G' v e pd => ⟨(σ.set n none).set n (some v), hw v, fun H Q _ q s h C cl fp => wg_name (X := Blk X scope s h C cl fp) hN hn (hy s h C cl fp).1 (hy s h C cl fp).2 q, ?_, ?_⟩) H eh Q (by rw [ef]; exact q)
  · intro H Q e1 q1
    exact q1 H (Ex.refl H)
  · intro hp H Q e1 q1 s h C cl fp
    have := he s h C cl fp x hx G' v e pd
    rw [List.set_set]
    exact this H e1 Q q1⟩
variable {rest : List Stmt} {D : Ends} {G0 H0 H : Hp} {os : List (Addr × HO)}
/-- z = [elt for y in iter if c] -/
theorem b_setLcT {α : Type} {f0 : α → PyData} {xs : List α} {p : α → Bool} {f : α → PyData} {n m : Nat} {y z : Str} {py pz q : Pos} (h : Hs G0 H0 G H os) (hi : JI X σ (.Name y py) iter G (xs.map f0)) (hl : xs.length < 100000) (hc : X.calm = true) (hN : X.N.Nodup) (hn : X.N[n]? = some y) (hy : ∀ s h C cl fp, Loc (Blk X scope s h C cl fp).env.scope y ∧ ((Blk X scope s h C cl fp).fn y = true ∨ (Blk X scope s h C cl fp).env.scope.names.lookup y = some .local))
    (ok : blkC X.N X.env.scope scope [(y, n)] = true) (hs : ∀ x, foldedSetIterable iter X.env x = pure x) (hm : X.N[m]? = some z) (hz : X.env.scope.names.lookup z = some .local)
    (hsw : swapsWith (.ListComp elt [⟨.Name y py, iter, [c], 0⟩] scope pos) (some (.Name z pz)) q.line X.env = pure true)
    (ht : ∀ s h C cl fp, ∀ x ∈ xs, ∀ G' v, Ex G G' → Dx G' v (f0 x) → JT (Blk X scope s h C cl fp) (σ.set n (some v)) c G' (p x))
    (he : ∀ s h C cl fp, ∀ x ∈ xs, p x = true → ∀ G' v, Ex G G' → Dx G' v (f0 x) → JD (Blk X scope s h C cl fp) (σ.set n (some v)) elt G' (f x))
    (k : ∀ G' H' l vs, Hs G0 H0 G' H' ((l, .lst vs) :: os) → Ex G G' → DxAll G' vs ((xs.filter p).map f) → wSs X rest D (σ.set m (some (.ref l))) H') :
    wSs X (.Assign [.Name z pz] (.ListComp elt [⟨.Name y py, iter, [c], 0⟩] scope pos) q :: rest) D σ H := by
  have hw : ∀ v, wipe ((σ.set n none).set n (some v)) [n] = wipe σ [n] := fun v => by simp [wipe, List.set_set]
  refine b_cons ⟨_, ps_setLc (wi := fun σ H R => ∃ wi, PI X (.Name y py) iter wi ∧ wi σ H R) hc hN hm hz hsw ⟨fun pins s σ H R I ⟨_, h, q⟩ => h.run pins s σ H R I q⟩ (blkOk_by ok) pg_b (fun s h C cl fp => pts_one (pt_b s h C cl fp)) pe_b hs, ?_⟩
  refine lc_read (G := G) (wi := fun σ H R => ∃ wi, PI X (.Name y py) iter wi ∧ wi σ H R) (f0 := f0) (xs := xs) (p := p) (f := f) hl hi (fun x hx G' v e pd => ⟨(σ.set n none).set n (some v), hw v, fun H Q _ q s h C cl fp => wg_name (X := Blk X scope s h C cl fp) hN hn (hy s h C cl fp).1 (hy s h C cl fp).2 q, ?_, ?_⟩) H h.ex _ fun G' H' l vs s hp gp hq pd => k G' H' l vs (h.newL s hp gp hq) s.g pd
  · intro H Q e1 q1 s h C cl fp
    have := ht s h C cl fp x hx G' v e pd
    rw [List.set_set]
    exact this H e1 Q q1
  · intro hp H Q e1 q1 s h C cl fp
    have := he s h C cl fp x hx hp G' v e pd
    rw [List.set_set]
    exact this H e1 Q q1
/-- z = [elt for y in iter] -/
theorem b_setLc {α : Type} {f0 : α → PyData} {xs : List α} {f : α → PyData} {n m : Nat} {y z : Str} {py pz q : Pos} (h : Hs G0 H0 G H os) (hi : JI X σ (.Name y py) iter G (xs.map f0)) (hl : xs.length < 100000) (hc : X.calm = true) (hN : X.N.Nodup) (hn : X.N[n]? = some y) (hy : ∀ s h C cl fp, Loc (Blk X scope s h C cl fp).env.scope y ∧ ((Blk X scope s h C cl fp).fn y = true ∨ (Blk X scope s h C cl fp).env.scope.names.lookup y = some .local))
    (ok : blkC X.N X.env.scope scope [(y, n)] = true) (hs : ∀ x, foldedSetIterable iter X.env x = pure x) (hm : X.N[m]? = some z) (hz : X.env.scope.names.lookup z = some .local)
    (hsw : swapsWith (.ListComp elt [⟨.Name y py, iter, [], 0⟩] scope pos) (some (.Name z pz)) q.line X.env = pure true)
    (he : ∀ s h C cl fp, ∀ x ∈ xs, ∀ G' v, Ex G G' → Dx G' v (f0 x) → JD (Blk X scope s h C cl fp) (σ.set n (some v)) elt G' (f x))
    (k : ∀ G' H' l vs, Hs G0 H0 G' H' ((l, .lst vs) :: os) → Ex G G' → DxAll G' vs (xs.map f) → wSs X rest D (σ.set m (some (.ref l))) H') :
    wSs X (.Assign [.Name z pz] (.ListComp elt [⟨.Name y py, iter, [], 0⟩] scope pos) q :: rest) D σ H := by
  have hw : ∀ v, wipe ((σ.set n none).set n (some v)) [n] = wipe σ [n] := fun v => by simp [wipe, List.set_set]
  have ef : xs.filter (fun _ => true) = xs := by simp
  refine b_cons ⟨_, ps_setLc (wi := fun σ H R => ∃ wi, PI X (.Name y py) iter wi ∧ wi σ H R) hc hN hm hz hsw ⟨fun pins s σ H R I ⟨_, h, q⟩ => h.run pins s σ H R I q⟩ (blkOk_by ok) pg_b (fun s h C cl fp => pts_nil) pe_b hs, ?_⟩
  refine lc_read (G := G) (wi := fun σ H R => ∃ wi, PI X (.Name y py) iter wi ∧ wi σ H R) (f0 := f0) (xs := xs) (p := fun _ => true) (f := f) hl hi (fun x hx G' v e pd => ⟨(σ.set n none).set n (some v), hw v, fun H Q _ q s h C cl fp => wg_name (X := Blk X scope s h C cl fp) hN hn (hy s h C cl fp).1 (hy s h C cl fp).2 q, ?_, ?_⟩) H h.ex _ (by rw [ef]; exact fun G' H' l vs s hp gp hq pd => k G' H' l vs (h.newL s hp gp hq) s.g pd)
  · intro H Q e1 q1
    exact q1 H (Ex.refl H)
  · intro hp H Q e1 q1 s h C cl fp
    have := he s h C cl fp x hx G' v e pd
    rw [List.set_set]
    exact this H e1 Q q1
end
end TP

set_option Elab.async false
set_option linter.all false
set_option maxRecDepth 100000
set_option maxHeartbeats 1000000
namespace TP
open PySem PySem.Spec PyProof.Rows L2
open Evl (Ex)
/-! ### kinds of values -/
abbrev kV (v : V) : Hp → V → Prop := fun _ u => u = v
abbrev kI (i : Int) : Hp → V → Prop := fun _ u => u = .int i
abbrev kB (b : Bool) : Hp → V → Prop := fun _ u => u = .bl b
abbrev kD (d : PyData) : Hp → V → Prop := fun G v => Dx G v d
theorem mo_V {v : V} : Mo (kV v) := fun _ _ _ _ h => h
theorem mo_I {i : Int} : Mo (kI i) := fun _ _ _ _ h => h
theorem mo_B {b : Bool} : Mo (kB b) := fun _ _ _ _ h => h
theorem mo_D {d : PyData} : Mo (kD d) := fun _ _ _ e h => Dx.mono e h
/-- an instance of the class at C whose attributes are those of A, no others -/
structure InsAt (G : Hp) (a C : Addr) (A : List (Str × V)) : Prop where
  ex : ∃ dx fs, G a = some (.ins C dx fs) ∧ ∀ f, fs.lookup f = A.lookup f
theorem InsAt.mono {G G' : Hp} {a C : Addr} {A : List (Str × V)} (e : Ex G G') (h : InsAt G a C A) : InsAt G' a C A := let ⟨dx, fs, h1, h2⟩ := h.ex; ⟨dx, fs, e _ _ h1, h2⟩

/-! ### promises in one form -/
/-- given what holds of i: arguments as told by Ps i, then what is handed back is as told by R i; what is fixed grows, all else stands -/
def spOf {ι : Type} (pre : ι → Prop) (Ps : ι → List (Hp → V → Prop)) (R : ι → Hp → V → Prop) : Sp := fun vs H Q _ =>
  ∃ i G, Ex G H ∧ pre i ∧ Al G (Ps i) vs ∧ ∀ G' H' v, Stp G H G' H' → R i G' v → Q v H'
theorem Al.length {G : Hp} : ∀ {Ps : List (Hp → V → Prop)} {vs : List V}, Al G Ps vs → vs.length = Ps.length
  | [], [], _ => rfl
  | _ :: _, _ :: _, h => by rw [List.length_cons, List.length_cons, Al.length h.2]
theorem Al.one {G : Hp} {P : Hp → V → Prop} : ∀ {vs : List V}, Al G [P] vs → ∃ a, vs = [a] ∧ P G a
  | [a], h => ⟨a, rfl, h.1⟩
  | _ :: _ :: _, h => h.2.elim
theorem Al.two {G : Hp} {P P2 : Hp → V → Prop} : ∀ {vs : List V}, Al G [P, P2] vs → ∃ a b, vs = [a, b] ∧ P G a ∧ P2 G b
  | [a, b], h => ⟨a, b, rfl, h.1, h.2.1⟩
  | [_], h => h.2.elim
  | _ :: _ :: _ :: _, h => h.2.2.elim
theorem Al.three {G : Hp} {P P2 P3 : Hp → V → Prop} : ∀ {vs : List V}, Al G [P, P2, P3] vs → ∃ a b c, vs = [a, b, c] ∧ P G a ∧ P2 G b ∧ P3 G c
  | [a, b, c], h => ⟨a, b, c, rfl, h.1, h.2.1, h.2.2.1⟩
  | [_], h => h.2.elim
  | [_, _], h => h.2.2.elim
  | _ :: _ :: _ :: _ :: _, h => h.2.2.2.elim
theorem Al.four {G : Hp} {P P2 P3 P4 : Hp → V → Prop} : ∀ {vs : List V}, Al G [P, P2, P3, P4] vs → ∃ a b c d, vs = [a, b, c, d] ∧ P G a ∧ P2 G b ∧ P3 G c ∧ P4 G d
  | [a, b, c, d], h => ⟨a, b, c, d, rfl, h.1, h.2.1, h.2.2.1, h.2.2.2.1⟩
  | [_], h => h.2.elim
  | [_, _], h => h.2.2.elim
  | [_, _, _], h => h.2.2.2.elim
  | _ :: _ :: _ :: _ :: _ :: _, h => h.2.2.2.2.elim

section
variable {P : Program} {w : World} {K : PySem.W.Frag} {mg : Str → Option Value} {base : Heap}
/-- a def of the module that keeps its promise | a method | a class that is made by an __init__ -/
def Df (P : Program) (w : World) (K : PySem.W.Frag) (mg : Str → Option Value) (base : Heap) (x : Str) (k : Nat) (sp : Sp) : Prop :=
  ∃ f fd ps, FnOk P w K mg base CX0 k f fd ps sp ∧ mg x = some (.ref f) ∧ PySem.W.keepIn K (.ref f) = true ∧ Binds K fd ps []
def Mt (P : Program) (w : World) (K : PySem.W.Frag) (mg : Str → Option Value) (base : Heap) (C : Addr) (m : Str) (k : Nat) (sp : Sp) : Prop :=
  ∃ f fd ps, FnOk P w K mg base CX0 k f fd ps sp ∧ Meth K C m f ∧ Binds K fd ps []
def Mkr (P : Program) (w : World) (K : PySem.W.Frag) (mg : Str → Option Value) (base : Heap) (C : Addr) (k : Nat) (sp : Sp) : Prop :=
  ∃ f fd ps, FnOk P w K mg base CX0 k f fd ps sp ∧ Mk K C f ∧ Binds K fd ps []
/-- THE RULE for a def, in one form -/
theorem fun_ok {ι : Type} {pre : ι → Prop} {Ps : ι → List (Hp → V → Prop)} {R : ι → Hp → V → Prop} {x qual : Str} {st : Stmt} {f : Addr} {fd : FuncData} {N ps : List Str} {k : Nat} (F : Fun K x qual st f fd) (S : FnScope N ps (defScope st)) (hl : ∀ i, (Ps i).length = ps.length)
    (hb : ∀ (cdv : Value) (A : Around) (outer : List Env) (s : Shared) (H : Hp) (vs : List V) (Q : VK) (E : XK) (i : ι) (G : Hp), Room k (A.deeper (envOfC qual (defScope st) s.heap.objs.size f cdv)) → pre i → Al G (Ps i) vs → Hs G H G H [] →
      (∀ G' H' v os, Hs G H G' H' os → R i G' v → Q v H') →
      wSs (cxOf CX0 P w K mg base N qual (defScope st) f cdv A outer s H E).nox (defBody st) { nx := fun _ H' => Q .non H', rt := Q } (start N vs) H) : FnOk P w K mg base CX0 (k + 1) f fd ps (spOf pre Ps R) := by
  refine F.ok S (fun vs H Q E ⟨i, G, _, _, al, _⟩ => al.length.trans (hl i)) fun cdv A outer s H vs Q E hr ⟨i, G, eh, hp, al, k⟩ => ?_
  exact hb cdv A outer s H vs Q E i G hr hp al (.nil eh) fun G' H' v os h r => k G' H' v h.st r
end

section
variable {X : Cx} {σ : L2.St} {e o a b c : Expr} {es : List Expr} {G : Hp} {pos : Pos} {x : Str} {k : Nat} {ι : Type} {pre : ι → Prop} {Ps : ι → List (Hp → V → Prop)} {R : ι → Hp → V → Prop}
theorem JP.toV {v : V} (h : JP X σ e G (kV v)) : JV X σ e G v := ⟨fun H eh Q q => h H eh Q fun _ H' _ s p => by cases p; exact q H' s.h⟩
theorem JP.toI {i : Int} (h : JP X σ e G (kI i)) : JV X σ e G (.int i) := JP.toV h
theorem JP.toB {i : Bool} (h : JP X σ e G (kB i)) : JV X σ e G (.bl i) := JP.toV h
theorem JV.toPV {v : V} (h : JV X σ e G v) : JP X σ e G (kV v) := h.toP rfl
/-- f(e, ..) -/
theorem jp_call {p : Pos} (F : Df X.prog X.w X.K X.mg X.base x k (spOf pre Ps R)) (hr : Room k X.A) (hg : Gl X x) (i : ι) (hp : pre i) (ha : JA X σ (e :: es) G (fun G vs => Al G (Ps i) vs)) (hs : NoStar e) (hdb : (x == ("__debug__" : Str)) = false)
    (hpl : (backTo pos (starEach es X.env)).any (·.1) = false) : JP X σ (.Call (.Name x p) (e :: es) [] pos) G (R i) := ⟨fun H eh Q q => by
  obtain ⟨f, fd, ps, hf, hm, hk, hb⟩ := F
  refine ⟨_, pe_call hf hr hg hm hk hb .nil pass0 pa_w hdb (hs _ _) hpl, ha H eh _ fun G1 H1 vs s1 al => ?_⟩
  rw [List.append_nil]
  exact ⟨i, G1, s1.gh, hp, al, fun G2 H2 v s2 r => q G2 H2 v (s1.trans s2) r⟩⟩
/-- o.m(e, ..) -/
theorem jp_meth {C : Addr} {m : Str} {p : Pos} {oa : Addr} {A : List (Str × V)} {pl : Sem Bool} (F : Mt X.prog X.w X.K X.mg X.base C m k (spOf pre Ps R)) (cl : Cls X.K C) (ho : JV X σ o G (.ref oa)) (hi : InsAt G oa C A) (hA : A.lookup m = none) (hr : Room k X.A) (i : ι) (hp : pre i)
    {P0 : Hp → V → Prop} {Ps' : List (Hp → V → Prop)} (hP : Ps i = P0 :: Ps') (h0 : P0 G (.ref oa)) (m0 : Mo P0) (hes : JA X σ (e :: es) G (fun G vs => Al G Ps' vs)) (hs : NoStar e)
    (hpl : (backTo pos (starEach es X.env)).any (·.1) = false)
    (ht : eval (.Call (.Attribute o m p) (e :: es) [] pos) X.env = (do
      let ov ← eval o X.env
      standAt p.atName
      let (f, first) ← holding [ov] (getMethod ov m pl)
      callWith pos f first (backTo pos (starEach (e :: es) X.env)) (backToKw pos (keywordEach [] X.env)))) : JP X σ (.Call (.Attribute o m p) (e :: es) [] pos) G (R i) := ⟨fun H eh Q q => by
  obtain ⟨f, fd, ps, hf, hm, hb⟩ := F
  obtain ⟨dx, fs, hG, hfs⟩ := hi.ex
  refine ⟨_, pe_meth pe_w cl hm hf hr hb .nil pass0 pa_w (hs _ _) hpl ht, ho H eh _ fun H1 e1 => ⟨oa, dx, fs, rfl, e1 _ _ (eh _ _ hG), (hfs m).trans hA, ?_⟩⟩
  refine hes H1 (eh.trans e1) _ fun G2 H2 vs s2 al => ?_
  rw [List.append_nil]
  refine ⟨i, G2, s2.gh, hp, by rw [hP]; exact ⟨m0 _ _ _ s2.g h0, al⟩, fun G3 H3 v s3 r => q G3 H3 v ?_ r⟩
  exact (Stp.flat eh e1).trans (s2.trans s3)⟩
/-- o.m() -/
theorem jp_meth0 {C : Addr} {m : Str} {p : Pos} {oa : Addr} {A : List (Str × V)} {pl : Sem Bool} (F : Mt X.prog X.w X.K X.mg X.base C m k (spOf pre Ps R)) (cl : Cls X.K C) (ho : JV X σ o G (.ref oa)) (hi : InsAt G oa C A) (hA : A.lookup m = none) (hr : Room k X.A) (i : ι) (hp : pre i)
    {P0 : Hp → V → Prop} (hP : Ps i = [P0]) (h0 : P0 G (.ref oa))
    (ht : eval (.Call (.Attribute o m p) [] [] pos) X.env = (do
      let ov ← eval o X.env
      standAt p.atName
      let (f, first) ← holding [ov] (getMethod ov m pl)
      callWith pos f first (backTo pos (starEach [] X.env)) (backToKw pos (keywordEach [] X.env)))) : JP X σ (.Call (.Attribute o m p) [] [] pos) G (R i) := ⟨fun H eh Q q => by
  obtain ⟨f, fd, ps, hf, hm, hb⟩ := F
  obtain ⟨dx, fs, hG, hfs⟩ := hi.ex
  refine ⟨_, pe_meth0 pe_w cl hm hf hr hb .nil pass0 ht, ho H eh _ fun H1 e1 => ⟨oa, dx, fs, rfl, e1 _ _ (eh _ _ hG), (hfs m).trans hA, ?_⟩⟩
  refine ⟨i, G, eh.trans e1, hp, by rw [hP]; exact ⟨h0, trivial⟩, fun G3 H3 v s3 r => q G3 H3 v ?_ r⟩
  exact (Stp.flat eh e1).trans s3⟩
/-- o.f -/
theorem jv_fld {C : Addr} {f : Str} {oa : Addr} {v : V} {A : List (Str × V)} (cl : Cls X.K C) (hn : NoAttr X.K C f) (ho : JV X σ o G (.ref oa)) (hi : InsAt G oa C A) (hA : A.lookup f = some v) (hb : attributeBase o f X.env (eval o X.env) = eval o X.env) : JV X σ (.Attribute o f pos) G v := ⟨fun H eh Q q => by
  obtain ⟨dx, fs, hG, hfs⟩ := hi.ex
  exact ⟨_, pe_fld pe_w hb, ho H eh _ fun H1 e1 => ⟨oa, C, dx, fs, v, rfl, e1 _ _ (eh _ _ hG), cl, hn, (hfs f).trans hA, q H1 e1⟩⟩⟩
end
end TP

set_option Elab.async false
set_option linter.all false
set_option maxRecDepth 100000
set_option maxHeartbeats 1000000
namespace TP
open PySem PySem.Spec PyProof.Rows L2
open Evl (Ex)
/-! ### data of this program: numbers, pairs, lists of them -/
abbrev eN : Nat → PyData := fun n => .int (n : Int)
abbrev eL {α : Type} (f : α → PyData) : List α → PyData := fun xs => .list (xs.map f)
abbrev eNs : List Nat → PyData := fun xs => .list (xs.map eN)
abbrev eLL : List (List Nat) → PyData := fun xs => .list (xs.map eNs)
abbrev eP : Nat × Nat → PyData := fun p => .tuple [.int (p.1 : Int), .int (p.2 : Int)]
abbrev ePs : List (Nat × Nat) → PyData := fun xs => .list (xs.map eP)
abbrev ePss : List (List (Nat × Nat)) → PyData := fun xs => .list (xs.map ePs)
abbrev eI : Int → PyData := fun n => .int n
abbrev eB : Bool → PyData := fun n => .bool n
abbrev eS : Str → PyData := fun n => .str n
/-- shapes: depth at most n, may be compared -/
def Sh (n : Nat) (d : PyData) : Prop := d.canLay0 = true ∧ d.depth ≤ n
theorem Sh.shaped {n : Nat} {d : PyData} (h : Sh n d) (hn : n ≤ 64) : SeqAt.shaped d = true := by
  show (d.canLay0 && decide (d.depth ≤ 64)) = true
  rw [Bool.and_eq_true]
  exact ⟨h.1, decide_eq_true (Nat.le_trans h.2 hn)⟩
theorem sh_int {n : Nat} (i : Int) : Sh n (.int i) := ⟨by simp [PyData.canLay0], by simp [PyData.depth]⟩
theorem sh_bool {n : Nat} (i : Bool) : Sh n (.bool i) := ⟨by simp [PyData.canLay0], by simp [PyData.depth]⟩
theorem sh_all {n : Nat} : ∀ {ds : List PyData}, (∀ d ∈ ds, Sh n d) → PyData.canLayAll0 ds = true ∧ PyData.depthAll ds ≤ n
  | [], _ => ⟨by simp [PyData.canLayAll0], by simp [PyData.depthAll]⟩
  | d :: ds, h => by
    obtain ⟨h1, h2⟩ := h d List.mem_cons_self
    obtain ⟨h3, h4⟩ := sh_all (ds := ds) fun x hx => h x (List.mem_cons_of_mem _ hx)
    refine ⟨by simp [PyData.canLayAll0, h1, h3], ?_⟩
    simp only [PyData.depthAll]
    omega
theorem sh_list {n : Nat} {ds : List PyData} (h : ∀ d ∈ ds, Sh n d) : Sh (n + 1) (.list ds) := by
  obtain ⟨h1, h2⟩ := sh_all h
  exact ⟨by simpa [PyData.canLay0] using h1, by simp only [PyData.depth]; omega⟩
theorem sh_tup {n : Nat} {ds : List PyData} (h : ∀ d ∈ ds, Sh n d) : Sh (n + 1) (.tuple ds) := by
  obtain ⟨h1, h2⟩ := sh_all h
  exact ⟨by simpa [PyData.canLay0] using h1, by simp only [PyData.depth]; omega⟩
theorem sh_map {α : Type} {n : Nat} {f : α → PyData} (h : ∀ x, Sh n (f x)) (xs : List α) : Sh (n + 1) (.list (xs.map f)) := sh_list fun d hd => by
  obtain ⟨x, _, rfl⟩ := List.mem_map.mp hd
  exact h x
theorem sh_N {n : Nat} (x : Nat) : Sh n (eN x) := sh_int _
theorem sh_Ns (xs : List Nat) : Sh 1 (eNs xs) := sh_map sh_N xs
theorem sh_LL (xs : List (List Nat)) : Sh 2 (eLL xs) := sh_map sh_Ns xs
theorem sh_P (p : Nat × Nat) : Sh 1 (eP p) := sh_tup fun d hd => by
  rcases List.mem_cons.mp hd with rfl | hd
  · exact sh_int _
  · rcases List.mem_cons.mp hd with rfl | hd
    · exact sh_int _
    · cases hd
theorem sh_Ps (xs : List (Nat × Nat)) : Sh 2 (ePs xs) := sh_map sh_P xs
theorem sh_Pss (xs : List (List (Nat × Nat))) : Sh 3 (ePss xs) := sh_map sh_Ps xs
/-- an encoding whose == is equality -/
class Shp {α : Type} (f : α → PyData) : Prop where
  sh : ∀ x, Sh 10 (f x)
  eq : ∀ x y, PyData.eqv (f x) (f y) = true ↔ x = y
theorem Shp.shaped {α : Type} (f : α → PyData) [h : Shp f] (x : α) : SeqAt.shaped (f x) = true := (h.sh x).shaped (by decide)
theorem Sh.le {n m : Nat} {d : PyData} (h : Sh n d) (l : n ≤ m) : Sh m d := ⟨h.1, Nat.le_trans h.2 l⟩
theorem eqvAll_map {α : Type} {f : α → PyData} (h : ∀ x y, PyData.eqv (f x) (f y) = true ↔ x = y) : ∀ xs ys : List α, PyData.eqvAll (xs.map f) (ys.map f) = true ↔ xs = ys
  | [], [] => by simp [PyData.eqvAll]
  | [], _ :: _ => by simp [PyData.eqvAll]
  | _ :: _, [] => by simp [PyData.eqvAll]
  | x :: xs, y :: ys => by simp [PyData.eqvAll, h x y, eqvAll_map h xs ys]
theorem eqv_map {α : Type} {f : α → PyData} (h : ∀ x y, PyData.eqv (f x) (f y) = true ↔ x = y) (xs ys : List α) : PyData.eqv (.list (xs.map f)) (.list (ys.map f)) = true ↔ xs = ys := by
  simp only [PyData.eqv]
  exact eqvAll_map h xs ys
theorem eqv_N (x y : Nat) : PyData.eqv (eN x) (eN y) = true ↔ x = y := by simp [PyData.eqv]; omega
theorem eqv_I (x y : Int) : PyData.eqv (eI x) (eI y) = true ↔ x = y := by simp [PyData.eqv]
theorem eqv_P (x y : Nat × Nat) : PyData.eqv (eP x) (eP y) = true ↔ x = y := by
  obtain ⟨a, b⟩ := x
  obtain ⟨c, d⟩ := y
  simp [PyData.eqv, PyData.eqvAll]
  omega
instance : Shp eN := ⟨fun x => sh_N x, eqv_N⟩
instance : Shp eI := ⟨fun x => sh_int x, eqv_I⟩
instance : Shp eNs := ⟨fun x => (sh_Ns x).le (by decide), eqv_map eqv_N⟩
instance : Shp eLL := ⟨fun x => (sh_LL x).le (by decide), eqv_map (eqv_map eqv_N)⟩
instance : Shp eP := ⟨fun x => (sh_P x).le (by decide), eqv_P⟩
instance : Shp ePs := ⟨fun x => (sh_Ps x).le (by decide), eqv_map eqv_P⟩
instance : Shp ePss := ⟨fun x => (sh_Pss x).le (by decide), eqv_map (eqv_map eqv_P)⟩
theorem eqv_dec {α : Type} [DecidableEq α] (f : α → PyData) [h : Shp f] (x y : α) : PyData.eqv (f x) (f y) = decide (x = y) := by
  by_cases e : x = y
  · rw [decide_eq_true e]; exact (h.eq x y).mpr e
  · rw [decide_eq_false e]
    cases q : PyData.eqv (f x) (f y) with
    | false => rfl
    | true => exact absurd ((h.eq x y).mp q) e
theorem any_eqv {α : Type} [DecidableEq α] (f : α → PyData) [h : Shp f] (xs : List α) (y : α) : ((xs.map f).any fun z => PyData.eqv z (f y)) = decide (y ∈ xs) := by
  induction xs with
  | nil => simp
  | cons x xs ih =>
    rw [List.map_cons, List.any_cons, ih, eqv_dec]
    by_cases e : x = y
    · simp [e]
    · have e2 : ¬ y = x := fun q => e q.symm
      simp [e, e2]

theorem room65 {k : Nat} {A : Around} (r : Room k A) : A.units + 65 < cLine := by have := r.un; omega
section
variable {X : Cx} {σ : L2.St} {e o a b c : Expr} {es : List Expr} {G : Hp} {pos : Pos} {x : Str}
theorem jo_inE {α : Type} [DecidableEq α] {f : α → PyData} [Shp f] {y : α} {xs : List α} (hu : X.A.units + 65 < cLine) (ha : JD X σ a G (f y)) (hb : JD X σ b G (.list (xs.map f))) (hs : SeqAt.shaped (.list (xs.map f)) = true) : JO X σ .In a b G (.bl (decide (y ∈ xs))) := by
  have h := jo_inD hu ha hb (Shp.shaped f y) hs
  rw [any_eqv] at h
  exact h
theorem jo_niE {α : Type} [DecidableEq α] {f : α → PyData} [Shp f] {y : α} {xs : List α} (hu : X.A.units + 65 < cLine) (ha : JD X σ a G (f y)) (hb : JD X σ b G (.list (xs.map f))) (hs : SeqAt.shaped (.list (xs.map f)) = true) : JO X σ .NotIn a b G (.bl (!decide (y ∈ xs))) := by
  have h := jo_niD hu ha hb (Shp.shaped f y) hs
  rw [any_eqv] at h
  exact h
theorem jo_inN {n : Nat} {xs : List Nat} (hu : X.A.units + 65 < cLine) (ha : JV X σ a G (.int (n : Int))) (hb : JD X σ b G (.list (xs.map eN))) : JO X σ .In a b G (.bl (decide (n ∈ xs))) := jo_inE (f := eN) hu (ha.toD (.int _)) hb (Shp.shaped eNs xs)
theorem jo_niN {n : Nat} {xs : List Nat} (hu : X.A.units + 65 < cLine) (ha : JV X σ a G (.int (n : Int))) (hb : JD X σ b G (.list (xs.map eN))) : JO X σ .NotIn a b G (.bl (!decide (n ∈ xs))) := jo_niE (f := eN) hu (ha.toD (.int _)) hb (Shp.shaped eNs xs)
/-- len of such a list -/
theorem jv_lenM {α : Type} {f : α → PyData} {xs : List α} {p : Pos} (hm : X.mg "len" = none) (ha : JD X σ a G (.list (xs.map f))) (hg : Gl X "len") (he : NoStar a) : JV X σ (.Call (.Name "len" p) [a] [] pos) G (.int (xs.length : Int)) := by
  have := jv_len (pos := pos) (p := p) hm ha hg he
  rwa [List.length_map] at this
/-- the item at a place -/
theorem jd_ixM {α : Type} {f : α → PyData} {xs : List α} {n : Nat} {d : PyData} (z : α) (ha : JD X σ a G (.list (xs.map f))) (hb : JV X σ b G (.int (n : Int))) (hs : PlainIx b) (hd : f (xs.getD n z) = d) (h : n < xs.length) : JD X σ (.Subscript a b pos) G d := by
  subst hd
  refine jd_ix ha hb (atI_nat ?_) hs
  rw [List.getElem?_map, List.getElem?_eq_getElem h, List.getD_eq_getElem?_getD, List.getElem?_eq_getElem h]
  rfl
theorem jd_ixN {xs : List Nat} {n : Nat} (ha : JD X σ a G (eNs xs)) (hb : JV X σ b G (.int (n : Int))) (hs : PlainIx b) (h : n < xs.length) : JD X σ (.Subscript a b pos) G (.int ((xs.getD n 0 : Nat) : Int)) := jd_ixM (f := eN) 0 ha hb hs rfl h
theorem jd_ixNs {xs : List (List Nat)} {n : Nat} (ha : JD X σ a G (eLL xs)) (hb : JV X σ b G (.int (n : Int))) (hs : PlainIx b) (h : n < xs.length) : JD X σ (.Subscript a b pos) G (.list ((xs.getD n []).map eN)) := jd_ixM (f := eNs) [] ha hb hs rfl h
theorem jd_ixP {xs : List (Nat × Nat)} {n : Nat} (ha : JD X σ a G (ePs xs)) (hb : JV X σ b G (.int (n : Int))) (hs : PlainIx b) (h : n < xs.length) : JD X σ (.Subscript a b pos) G (eP (xs.getD n (0, 0))) := jd_ixM (f := eP) (0, 0) ha hb hs rfl h
theorem jd_ixPs {xs : List (List (Nat × Nat))} {n : Nat} (ha : JD X σ a G (ePss xs)) (hb : JV X σ b G (.int (n : Int))) (hs : PlainIx b) (h : n < xs.length) : JD X σ (.Subscript a b pos) G (.list ((xs.getD n []).map eP)) := jd_ixM (f := ePs) [] ha hb hs rfl h
theorem jd_ixI {xs : List Int} {n : Nat} (ha : JD X σ a G (.list (xs.map eI))) (hb : JV X σ b G (.int (n : Int))) (hs : PlainIx b) (h : n < xs.length) : JD X σ (.Subscript a b pos) G (.int (xs.getD n 0)) := jd_ixM (f := eI) 0 ha hb hs rfl h
/-- pair[0], pair[1] -/
theorem jd_ixP1 {p : Nat × Nat} {j : Nat} {ps : Pos} (ha : JD X σ a G (eP p)) : JD X σ (.Subscript a (.Constant (.int 0) j ps) pos) G (.int (p.1 : Int)) := jd_ixT ha jv_int rfl fun _ _ => rfl
theorem jd_ixP2 {p : Nat × Nat} {j : Nat} {ps : Pos} (ha : JD X σ a G (eP p)) : JD X σ (.Subscript a (.Constant (.int 1) j ps) pos) G (.int (p.2 : Int)) := jd_ixT ha jv_int rfl fun _ _ => rfl
/-- xs.index(n) -/
theorem jv_index {n : Nat} {xs : List Nat} {ap cp : Pos} (hu : X.A.units + 65 < cLine) (ha : JD X σ a G (.list (xs.map eN))) (hb : JV X σ b G (.int (n : Int))) (hn : n ∈ xs) (ns : NoStar b) (hbase : attributeBase a "index" X.env (eval a X.env) = eval a X.env) (hline : (ap.endLine == cp.line) = true)
    (hfew : ((backTo cp (starEach [b] X.env)).all (fun x => !x.1) && (backToKw cp (keywordEach [] X.env)).all (fun x => x.1.isSome) && decide ([b].length + ([] : List Keyword).length + (if ([] : List Keyword).isEmpty then 0 else 1) < 30)) = true) :
    JV X σ (.Call (.Attribute a "index" ap) [b] [] cp) G (.int (xs.idxOf n : Nat)) := ⟨fun H eh Q q =>
  ⟨_, pe_bm PySem.F.plainAttrs_list PySem.F.slot_list_index PySem.F.type_list_index (mt_indexD hu) pe_w (pa_cons pe_w pa_nil (ns _ _)) (hs := ns _ _) (hbase := hbase) (hline := hline) (hfew := hfew), ha H eh _ fun G1 H1 x s1 p1 => by
    have p1' := p1
    cases p1 with
    | lst hl hd =>
      refine ⟨.inl ⟨rfl, _, SqL.of (s1.gh _ _ hl)⟩, (hb.mono s1.g) H1 s1.gh _ fun H2 e2 => ?_⟩
      have hi : xs.idxOf n < xs.length := List.idxOf_lt_length_iff.mpr hn
      refine ⟨_, _, .int (n : Int), xs.map eN, xs.idxOf n, eN n, rfl, rfl, (p1'.mono (s1.gh.trans e2)).dp, .int _, Shp.shaped eNs xs, Shp.shaped eN n, ?_, ?_, ?_, q H2 (s1.h.trans e2)⟩
      · rw [List.getElem?_map, List.getElem?_eq_getElem hi, List.getElem_idxOf hi] <;> rfl
      · exact (eqv_N n n).mpr rfl
      · intro m z hm hz
        rw [List.getElem?_map] at hz
        have hml : m < xs.length := Nat.lt_trans hm hi
        rw [List.getElem?_eq_getElem hml] at hz
        cases Option.some.inj hz
        have ne : xs[m] ≠ n := fun e => by
          have z := List.not_of_lt_findIdx (p := (· == n)) (xs := xs) (i := m) hm
          simp [e] at z
        rw [eqv_dec]
        exact decide_eq_false ne⟩⟩
end
end TP

set_option Elab.async false
set_option linter.all false
set_option maxRecDepth 100000
set_option maxHeartbeats 2000000
namespace TP
open PySem PySem.Spec PyProof.Rows L2
open Evl (Ex)
section
variable {X : Cx} {σ : L2.St} {e a b c tg iter : Expr} {es : List Expr} {G G1 : Hp} {v u : V} {d d1 d2 : PyData} {ds : List PyData} {pos : Pos} {i j k : Int} {x : Str} {st : Stmt} {rest body : List Stmt} {D : Ends} {G0 H0 H : Hp} {os : List (Addr × HO)}
theorem jn_list (h : JA X σ es G (fun G vs => DxAll G vs ds)) (hl : ds.length ≤ sizeLine) : JN X σ (.List es pos) G ds := ⟨fun H eh Q q =>
  ⟨_, pe_lst pa_w, h H eh _ fun G1 H1 vs s1 p1 => ⟨by rw [p1.length]; exact hl, fun p hp => jn_new eh s1 hp p1 q⟩⟩⟩
theorem jn_listOf {p : Pos} (hm : X.mg "list" = none) (ha : JD X σ a G (.list ds)) (hg : Gl X "list") (hb : bootBuiltins "list" = some (.type "list")) (he : NoStar a) : JN X σ (.Call (.Name "list" p) [a] [] pos) G ds := ⟨fun H eh Q q =>
  ⟨_, pe_callTy call_list_of hg hm hb (pa_cons pe_w pa_nil (he _ _)) (he := he _ _), ha H eh _ fun G1 H1 x s1 p1 => by
    cases p1 with
    | lst hl hd => exact ⟨_, _, rfl, .inl (SqL.of (s1.gh _ _ hl)), fun l hn => jn_new eh s1 hn hd q⟩⟩⟩
theorem rgV_dx {n : Nat} : DxAll G (rgV 0 (n : Int)) ((List.range n).map eN) := by
  have e : rgV 0 (n : Int) = ((List.range n).map fun i : Nat => (i : Int)).map V.int := by
    unfold rgV
    simp
  rw [e]
  have := DxAll.of_ints (H := G) ((List.range n).map fun i : Nat => (i : Int))
  rw [List.map_map] at this
  simpa [List.map_map, Function.comp_def] using this
/-- list(range(n)) -/
theorem jn_listRg {n : Nat} {p p2 pos2 : Pos} (hc : X.calm = true) (hm : X.mg "list" = none) (hm2 : X.mg "range" = none) (ha : JV X σ a G (.int (n : Int))) (hn : n ≤ 1000) (hg : Gl X "list") (hg2 : Gl X "range") (he : NoStar a) :
    JN X σ (.Call (.Name "list" p) [.Call (.Name "range" p2) [a] [] pos2] [] pos) G ((List.range n).map eN) := ⟨fun H eh Q q =>
  ⟨_, pe_listRg hc hg hm (prg_1 hg2 hm2 pe_w (he _ _)), ha H eh _ fun H1 e1 => ⟨_, rfl, RgOk.of_le (by omega) (by omega) (by omega) (by omega), fun p hp => jn_new eh (Stp.flat eh e1) hp rgV_dx q⟩⟩⟩
/-- xs + ys -/
theorem jn_cat {ds2 : List PyData} (ha : JD X σ a G (.list ds)) (hb : JD X σ b G (.list ds2)) (hl : ds.length + ds2.length ≤ 100000) : JN X σ (.BinOp a .Add b pos) G (ds ++ ds2) := ⟨fun H eh Q q =>
  ⟨_, pe_op op_cat pe_w pe_w, ha H eh _ fun G1 H1 x s1 p1 => (hb.mono s1.g) H1 s1.gh _ fun G2 H2 y s2 p2 => by
    cases p1 with
    | lst h1 d1 =>
      cases p2 with
      | lst h2 d2 =>
        exact ⟨_, _, _, _, rfl, rfl, (s2.g.trans s2.gh) _ _ h1, s2.gh _ _ h2, Evl.sz_of (by rw [d1.length, d2.length]; exact hl), fun p hp => jn_new eh (s1.trans s2) hp ((d1.mono s2.g).append d2) q⟩⟩⟩
/-- xs * n -/
theorem jn_rep {n : Nat} (ha : JD X σ a G (.list ds)) (hb : JV X σ b G (.int (n : Int))) (hl : ds.length * n ≤ 100000) (hn : n ≤ 100000) : JN X σ (.BinOp a .Mult b pos) G (List.replicate n ds).flatten := ⟨fun H eh Q q =>
  ⟨_, pe_op op_rep pe_w pe_w, ha H eh _ fun G1 H1 x s1 p1 => (hb.mono s1.g) H1 s1.gh _ fun H2 e2 => by
    cases p1 with
    | @lst ad xs _ h1 d1 =>
      refine ⟨_, n, _, rfl, rfl, (s1.gh.trans e2) _ _ h1, by omega, by omega, Evl.sz_of (by rw [d1.length]; exact hl), fun p hp => ?_⟩
      have hrep : ∀ m : Nat, DxAll G1 (List.replicate m xs).flatten (List.replicate m ds).flatten := fun m => by
        induction m with
        | zero => exact .nil
        | succ m ih => rw [List.replicate_succ, List.replicate_succ, List.flatten_cons, List.flatten_cons]; exact d1.append ih
      exact jn_new eh (s1.trans (.flat s1.gh e2)) hp (hrep n) q⟩⟩
/-- xs[lo:hi] -/
def JOp (X : Cx) (σ : L2.St) (e : Option Expr) (G : Hp) (o : Option Int) : Prop := match e with
  | none => o = none
  | some e => ∃ i, o = some i ∧ JV X σ e G (.int i)
def cut {α : Type} (xs : List α) (lo hi : Option Int) : List α := (xs.drop (HT.sIx xs.length 0 lo)).take (HT.sIx xs.length xs.length hi - HT.sIx xs.length 0 lo)
theorem cut_map {α β : Type} (f : α → β) (xs : List α) (lo hi : Option Int) : cut (xs.map f) lo hi = (cut xs lo hi).map f := by
  unfold cut
  rw [List.length_map, List.map_take, List.map_drop]
theorem cutV_dx {vs : List V} {lo hi : Option Int} (h : DxAll G vs ds) : DxAll G (cutV vs lo hi) (cut ds lo hi) := by
  unfold cutV cut
  rw [h.length]
  exact (h.drop _).take _
theorem jn_slice {lo hi : Option Expr} {l h : Option Int} {p2 : Pos} (ha : JD X σ a G (.list ds)) (hl : JOp X σ lo G l) (hh : JOp X σ hi G h) : JN X σ (.Subscript a (.Slice lo hi none p2) pos) G (cut ds l h) := ⟨fun H eh Q q => by
  have po : ∀ {o : Option Expr} {i : Option Int}, JOp X σ o G i → ∃ t, PO X o t ∧ ∀ G1 H1, Ex G G1 → Ex G1 H1 → ∀ Q : Option Int → Hp → Prop, (∀ H2, Ex H1 H2 → Q i H2) → t σ H1 Q := fun {o i} z => by
    cases o with
    | none =>
      cases z
      exact ⟨_, po_none, fun G1 H1 _ _ Q q => q H1 (Ex.refl _)⟩
    | some e =>
      obtain ⟨k, rfl, z⟩ := z
      exact ⟨_, po_some pe_w, fun G1 H1 e0 e1 Q q => z H1 (e0.trans e1) _ fun H2 e2 => ⟨k, rfl, q H2 e2⟩⟩
  obtain ⟨t1, h1, r1⟩ := po hl
  obtain ⟨t2, h2, r2⟩ := po hh
  refine ⟨_, pe_slice sl_list pe_w h1 h2, ha H eh _ fun G1 H1 x s1 p1 => r1 G1 H1 s1.g s1.gh _ fun H2 e2 => r2 G1 H2 s1.g (s1.gh.trans e2) _ fun H3 e3 => ?_⟩
  cases p1 with
  | lst hx hd => exact ⟨_, _, rfl, SqL.of ((s1.gh.trans (e2.trans e3)) _ _ hx), fun p hp => jn_new eh (s1.trans (.flat s1.gh (e2.trans e3))) hp (cutV_dx hd) q⟩⟩

/-! ### statements in the widest form -/
theorem b_setW {n : Nat} {p q : Pos} (hN : X.N.Nodup) (hi : X.N[n]? = some x) (hx : Loc X.env.scope x) (hs : swapsWith e (some (.Name x p)) q.line X.env = pure false) (hf : X.fn x = true ∨ X.env.scope.names.lookup x = some .local)
    (k : wE X e σ H fun v H' => wSs X rest D (σ.set n (some v)) H') : wSs X (.Assign [.Name x p] e q :: rest) D σ H := b_cons ⟨_, ps_set hN hi hx pe_w hs hf, k⟩
theorem b_asgW {q : Pos} (hs : swapsWithSole [tg] e q.line X.env = pure false) (hw : swappedStores [tg] e X.env = pure none) (h1 : (assignEach [tg] X.env).map (·.2) = [assign tg X.env]) (k : wE X e σ H fun v H' => wG X tg v σ H' fun σ' H'' => wSs X rest D σ' H'') : wSs X (.Assign [tg] e q :: rest) D σ H :=
  b_cons ⟨_, ps_asg pe_w pg_w hs hw h1, k⟩
theorem b_exprW {q : Pos} (hs : swapsWith e none q.line X.env = pure false) (k : wE X e σ H fun _ H' => wSs X rest D σ H') : wSs X (.Expr e q :: rest) D σ H := b_cons ⟨_, ps_expr pe_w hs, k⟩
theorem b_setNw {n : Nat} {p q : Pos} (h : Hs G0 H0 G H os) (he : JN X σ e G ds) (hN : X.N.Nodup) (hi : X.N[n]? = some x) (hx : Loc X.env.scope x) (hs : swapsWith e (some (.Name x p)) q.line X.env = pure false) (hf : X.fn x = true ∨ X.env.scope.names.lookup x = some .local)
    (k : ∀ G' H' l vs, Hs G0 H0 G' H' ((l, .lst vs) :: os) → Ex G G' → DxAll G' vs ds → wSs X rest D (σ.set n (some (.ref l))) H') : wSs X (.Assign [.Name x p] e q :: rest) D σ H :=
  b_setW hN hi hx hs hf (he H h.ex _ fun G' H' l vs s hp gp hq hd => k G' H' l vs (h.newL s hp gp hq) s.g hd)
/-- x.append(e) where e may change one's own lists -/
theorem we_append {n : Nat} {p ap cp : Pos} {l : Addr} {Q : VK} (hs : σ[n]? = some (some (.ref l))) (hN : X.N[n]? = some x) (hv : Vis X.env.scope x) (hl0 : ∃ xs, H l = some (.lst xs))
    (he : wE X e σ H fun v H' => ∃ xs, H' l = some (.lst xs) ∧ xs.length < 100000 ∧ Q .non (upd H' l (.lst (xs ++ [v]))))
    (hd : (x == ("__debug__" : Str)) = false) (hcd : (x == ("__classdict__" : Str)) = false) (ns : NoStar e) (hbase : attributeBase (.Name x p) "append" X.env (eval (.Name x p) X.env) = eval (.Name x p) X.env) (hline : (ap.endLine == cp.line) = true)
    (hfew : ((backTo cp (starEach [e] X.env)).all (fun x => !x.1) && (backToKw cp (keywordEach [] X.env)).all (fun x => x.1.isSome) && decide ([e].length + ([] : List Keyword).length + (if ([] : List Keyword).isEmpty then 0 else 1) < 30)) = true) :
    wE X (.Call (.Attribute (.Name x p) "append" ap) [e] [] cp) σ H Q := by
  obtain ⟨xs0, h0⟩ := hl0
  refine ⟨_, pe_bm PySem.F.plainAttrs_list PySem.F.slot_list_append PySem.F.type_list_append mt_append (pe_var hN hv hd hcd) (pa_cons pe_w pa_nil (ns _ _)) (hs := ns _ _) (hbase := hbase) (hline := hline) (hfew := hfew), _, hs, .inl ⟨rfl, _, SqL.of h0⟩, ?_⟩
  refine he.mono fun v H' ⟨xs, h1, h2, q⟩ => ⟨l, xs, v, rfl, rfl, h1, Evl.sz_lt h2, q⟩
end
end TP

set_option Elab.async false
set_option linter.all false
set_option maxRecDepth 100000
set_option maxHeartbeats 2000000
namespace TP
open PySem PySem.Spec PyProof.Rows L2
open Evl (Ex)
/-! ### xs.extend(a tuple) -/
theorem ext_tup (l : Addr) (items : Array Value) (n : Nat) (b : Addr) (items2 : Array Value) (n2 : Nat) (dd : Option Addr) (sl : Array (Option Value)) (hs0 : ¬(!items.isEmpty && Builtin.List.listTooLong (items.size + items2.size)) = true) (hs1 : items.size ≤ sizeLine) (hs2 : items.size + items2.size ≤ sizeLine + 1) :
    Meets (Builtin.«list.extend» ⟨[.ref l, .ref b], []⟩) (fun _ R s => s.heap.get? l = some { cls := .type "list", dict := none, data := .seq items n, slots := #[] } ∧ s.heap.get? b = some { cls := .type "tuple", dict := dd, data := .seq items2 n2, slots := sl } ∧ R (.ok (.ret Value.none)) { s with heap := s.heap.update l (Obj.mapSeq fun x => x ++ items2), toks := s.toks }) :=
  .of_wp fun prog w A R s h => by
    obtain ⟨hp, g, d, tk, os⟩ := s; obtain ⟨hl, hb, h⟩ := h; have f1 := AutoSeq1.idx_int; have f2 := AutoSeq1.sub_tuple_tuple; have f3 := AutoSeq1.sub_list_list; have f4 := AutoSeq1.sub_tuple_list; have f5 := AutoSeq1.sub_list_tuple;
    have hz' : (items ++ items2).size ≤ sizeLine + 1 := by rw [Array.size_append]; exact hs2
    wp_walk using (wpAny_updateSeq hl rfl (hz := hs1) (_hz' := hz')), wpAny_loadPart' hl, wpAny_loadPart' hb; exact ⟨_, rfl, h⟩
def rExtT : V → List V → Hp → VK → Prop := fun x vs H Q => ∃ l b xs zs, x = .ref l ∧ vs = [.ref b] ∧ H l = some (.lst xs) ∧ H b = some (.tup zs) ∧ xs.length + zs.length ≤ sizeLine ∧ Q .non (upd H l (.lst (xs ++ zs)))
theorem mt_extT {X : Cx} : MtM X "list.extend" rExtT := by
  intro pins s σ H x vs v us Q I rx rv h
  obtain ⟨l, b, xs, zs, rfl, rfl, hH, hB, hz, q⟩ := h
  cases rx
  obtain ⟨u, rfl, ru⟩ := rv.one
  cases ru
  obtain ⟨z, its, n, r, hl, e⟩ := I.lstM hH
  obtain ⟨its2, r2, ⟨⟨cls, dd, data, sl⟩, e2, hc, n2, hd⟩, hz2⟩ := I.tuple (SqT.of hB)
  simp only at hc hd
  subst hc hd
  have hl2 := r2.length
  have hsz : its.toArray.size + its2.toArray.size ≤ sizeLine := by rw [List.size_toArray, List.size_toArray]; omega
  have hlong : ¬ (!its.toArray.isEmpty && Builtin.List.listTooLong (its.toArray.size + its2.toArray.size)) = true := by
    rw [notLongL hsz, Bool.and_false]
    exact Bool.false_ne_true
  refine call_meets F.slot_list_extend ⟨_, e, rfl⟩ F.entry_list_extend (F.args_list_extend_2 _ _)
    (ext_tup l its.toArray n b its2.toArray n2 dd sl hlong (by rw [List.size_toArray]; omega) (by omega)) ⟨e, e2, ?_⟩
  refine ⟨.non, _, I.lset (its' := its ++ its2) hH e (by simp) (r.append r2) ?_, rfl, q⟩
  rw [List.length_append]
  omega
section
variable {X : Cx} {σ : L2.St} {e o a b c tg iter : Expr} {es : List Expr} {G G1 : Hp} {v u : V} {d d1 d2 : PyData} {ds : List PyData} {pos : Pos} {i j k : Int} {x : Str} {st : Stmt} {rest body : List Stmt} {D : Ends} {G0 H0 H : Hp} {os : List (Addr × HO)}
/-- o.m(e), m a method of lists, o evaluated ahead; r its rule -/
theorem we_lm {m : Str} {id : String} {r : V → List V → Hp → VK → Prop} {ap cp : Pos} {l : Addr} {Q : VK} (slot : Slot "list" m id) (hty : typeOf (.builtin id) = pure (.type "method_descriptor")) (hm : MtR X id r)
    (ho : wE X o σ H fun v H' => v = .ref l ∧ (∃ xs, H' l = some (.lst xs)) ∧ wE X e σ H' fun u H2 => r (.ref l) [u] H2 Q)
    (ns : NoStar e) (hbase : attributeBase o m X.env (eval o X.env) = eval o X.env) (hline : (ap.endLine == cp.line) = true)
    (hfew : ((backTo cp (starEach [e] X.env)).all (fun x => !x.1) && (backToKw cp (keywordEach [] X.env)).all (fun x => x.1.isSome) && decide ([e].length + ([] : List Keyword).length + (if ([] : List Keyword).isEmpty then 0 else 1) < 30)) = true) :
    wE X (.Call (.Attribute o m ap) [e] [] cp) σ H Q := by
  refine ⟨_, pe_bm PySem.F.plainAttrs_list slot hty hm pe_w (pa_cons pe_w pa_nil (ns _ _)) (hs := ns _ _) (hbase := hbase) (hline := hline) (hfew := hfew), ?_⟩
  refine ho.mono fun v H' ⟨ev, ⟨xs, h1⟩, q⟩ => ?_
  subst ev
  exact ⟨.inl ⟨rfl, _, SqL.of h1⟩, q⟩
/-- o.m() -/
theorem we_lm0 {m : Str} {id : String} {r : V → List V → Hp → VK → Prop} {ap cp : Pos} {l : Addr} {Q : VK} (slot : Slot "list" m id) (hty : typeOf (.builtin id) = pure (.type "method_descriptor")) (hm : MtR X id r)
    (ho : wE X o σ H fun v H' => v = .ref l ∧ (∃ xs, H' l = some (.lst xs)) ∧ r (.ref l) [] H' Q)
    (hbase : attributeBase o m X.env (eval o X.env) = eval o X.env) (hline : (ap.endLine == cp.line) = true) :
    wE X (.Call (.Attribute o m ap) [] [] cp) σ H Q := by
  refine ⟨_, pe_bm0 PySem.F.plainAttrs_list slot hty hm pe_w (hbase := hbase) (hline := hline), ?_⟩
  refine ho.mono fun v H' ⟨ev, ⟨xs, h1⟩, q⟩ => ?_
  subst ev
  exact ⟨.inl ⟨rfl, _, SqL.of h1⟩, q⟩
/-- a variable that holds one's own list -/
theorem we_var {n : Nat} {p : Pos} {v : V} {Q : VK} (hs : σ[n]? = some (some v)) (hN : X.N[n]? = some x) (hv : Vis X.env.scope x) (hd : (x == ("__debug__" : Str)) = false) (hcd : (x == ("__classdict__" : Str)) = false) (q : Q v H) : wE X (.Name x p) σ H Q := ⟨_, pe_var hN hv hd hcd, _, hs, q⟩
/-- x.extend(a list) -/
theorem b_extend {n : Nat} {p ap cp q : Pos} {l : Addr} {xs : List V} (h : Hs G0 H0 G H ((l, .lst xs) :: os)) (hs : σ[n]? = some (some (.ref l))) (hN : X.N[n]? = some x) (hv : Vis X.env.scope x) (he : JD X σ e G (.list ds)) (hl : xs.length + ds.length ≤ 100000)
    (hd : (x == ("__debug__" : Str)) = false) (hcd : (x == ("__classdict__" : Str)) = false) (ns : NoStar e) (hbase : attributeBase (.Name x p) "extend" X.env (eval (.Name x p) X.env) = eval (.Name x p) X.env) (hline : (ap.endLine == cp.line) = true)
    (hfew : ((backTo cp (starEach [e] X.env)).all (fun x => !x.1) && (backToKw cp (keywordEach [] X.env)).all (fun x => x.1.isSome) && decide ([e].length + ([] : List Keyword).length + (if ([] : List Keyword).isEmpty then 0 else 1) < 30)) = true)
    (hsw : swapsWith (.Call (.Attribute (.Name x p) "extend" ap) [e] [] cp) none q.line X.env = pure false)
    (k : ∀ G' H' vs, Hs G0 H0 G' H' ((l, .lst (xs ++ vs)) :: os) → Ex G G' → DxAll G' vs ds → wSs X rest D σ H') : wSs X (.Expr (.Call (.Attribute (.Name x p) "extend" ap) [e] [] cp) q :: rest) D σ H := by
  refine b_exprW hsw (we_lm PySem.F.slot_list_extend PySem.F.type_list_extend mt_extend (we_var hs hN hv hd hcd ⟨rfl, ⟨xs, h.at0⟩, ?_⟩) ns hbase hline hfew)
  refine he H h.ex _ fun G1 H1 v s p => ?_
  have h1 := h.stp s
  cases p with
  | @lst b vs _ hb hd => exact ⟨l, b, xs, vs, rfl, rfl, h1.at0, s.gh _ _ hb, Evl.sz_of (by rw [hd.length]; exact hl), k G1 _ vs h1.put0 s.g hd⟩
/-- x.extend(a tuple) -/
theorem b_extendT {n : Nat} {p ap cp q : Pos} {l : Addr} {xs : List V} (h : Hs G0 H0 G H ((l, .lst xs) :: os)) (hs : σ[n]? = some (some (.ref l))) (hN : X.N[n]? = some x) (hv : Vis X.env.scope x) (he : JD X σ e G (.tuple ds)) (hl : xs.length + ds.length ≤ 100000)
    (hd : (x == ("__debug__" : Str)) = false) (hcd : (x == ("__classdict__" : Str)) = false) (ns : NoStar e) (hbase : attributeBase (.Name x p) "extend" X.env (eval (.Name x p) X.env) = eval (.Name x p) X.env) (hline : (ap.endLine == cp.line) = true)
    (hfew : ((backTo cp (starEach [e] X.env)).all (fun x => !x.1) && (backToKw cp (keywordEach [] X.env)).all (fun x => x.1.isSome) && decide ([e].length + ([] : List Keyword).length + (if ([] : List Keyword).isEmpty then 0 else 1) < 30)) = true)
    (hsw : swapsWith (.Call (.Attribute (.Name x p) "extend" ap) [e] [] cp) none q.line X.env = pure false)
    (k : ∀ G' H' vs, Hs G0 H0 G' H' ((l, .lst (xs ++ vs)) :: os) → Ex G G' → DxAll G' vs ds → wSs X rest D σ H') : wSs X (.Expr (.Call (.Attribute (.Name x p) "extend" ap) [e] [] cp) q :: rest) D σ H := by
  refine b_exprW hsw (we_lm PySem.F.slot_list_extend PySem.F.type_list_extend mt_extT (we_var hs hN hv hd hcd ⟨rfl, ⟨xs, h.at0⟩, ?_⟩) ns hbase hline hfew)
  refine he H h.ex _ fun G1 H1 v s p => ?_
  have h1 := h.stp s
  cases p with
  | @tup b vs _ hb hd => exact ⟨l, b, xs, vs, rfl, rfl, h1.at0, s.gh _ _ hb, Evl.sz_of (by rw [hd.length]; exact hl), k G1 _ vs h1.put0 s.g hd⟩
/-- x[i] = e, x one's own list -/
theorem b_setItem {n m : Nat} {p q r : Pos} {l : Addr} {xs : List V} (h : Hs G0 H0 G H ((l, .lst xs) :: os)) (he : JD X σ e G d) (hs : σ[n]? = some (some (.ref l))) (hN : X.N[n]? = some x) (hv : Vis X.env.scope x) (hi : JV X σ a G (.int (m : Int))) (hm : m < xs.length)
    (hd : (x == ("__debug__" : Str)) = false) (hcd : (x == ("__classdict__" : Str)) = false)
    (hsw : swapsWithSole [.Subscript (.Name x p) a q] e r.line X.env = pure false) (hw : swappedStores [.Subscript (.Name x p) a q] e X.env = pure none) (h1 : (assignEach [.Subscript (.Name x p) a q] X.env).map (·.2) = [assign (.Subscript (.Name x p) a q) X.env])
    (hpl : PG X (.Subscript (.Name x p) a q) (gSub (wE X (.Name x p)) (wE X a) rSetL))
    (k : ∀ G' H' v, Hs G0 H0 G' H' ((l, .lst (xs.set m v)) :: os) → Ex G G' → Dx G' v d → wSs X rest D σ H') : wSs X (.Assign [.Subscript (.Name x p) a q] e r :: rest) D σ H := by
  refine b_asgW hsw hw h1 (he H h.ex _ fun G1 H1 v s pv => ⟨_, hpl, ?_⟩)
  have g1 := h.stp s
  refine we_var hs hN hv hd hcd ?_
  refine (hi.mono s.g) H1 g1.ex _ fun H2 e2 => ?_
  have g2 := g1.flat e2
  refine ⟨l, xs, m, m, rfl, rfl, g2.at0, ?_, k G1 _ v g2.put0 s.g pv⟩
  unfold ixN
  rw [if_pos (by omega), if_pos (by omega), Int.toNat_natCast]
end
/-! ### len(set(xs)) of ints -/
def dedupI (ns : List Int) : List Int := PyProof.Rows.firstMet (fun i => ns.getD i 0) ns.length
def tLenSetG (K : PySem.W.Frag) (ta : TE) : TE := fun σ H Q => ta σ H fun x H1 => ∃ (l : Addr) (ns : List Int), x = .ref l ∧ SqL K H1 l (ns.map V.int) ∧ ns.length ≤ 4000 ∧ Q (.int ((dedupI ns).length : Nat)) H1
open RZ in
theorem pe_lenSetG {X : Cx} {a : Expr} {ta : TE} {p p2 q pos : Pos} (hg : Gl X "len") (hm : X.mg "len" = none) (hg2 : Gl X "set") (hm2 : X.mg "set" = none) (ha : PE X a ta) (hc : X.calm = true)
    (na : starEach [a] X.env = (false, eval a X.env) :: starEach [] X.env) : PE X (.Call (.Name "len" p) [.Call (.Name "set" p2) [a] [] q] [] pos) (tLenSetG X.K ta) := by
  refine ⟨fun pins s σ H Q I h => ?_⟩
  refine Call_ (ld_blt I hg hm boot_len ?_)
  refine PyProof.Rows.callWith_builtin1 (PyProof.Rows.args_cons ?_ rfl) rfl rfl
  refine Call_ (ld_blt I hg2 hm2 boot_set ?_)
  refine PyProof.Rows.callWith_type1 (PyProof.Rows.args_cons (thn (ha.run pins s σ H _ I h) fun v s1 ⟨x, H1, I1, r1, q1⟩ => PyProof.Rows.args_nil ?_) na) na rfl
  obtain ⟨l, ns, rfl, hq, hl, q1⟩ := q1
  cases r1
  obtain ⟨its, r, pl, hz⟩ := I1.list hq
  have hlen : its.toArray.size = ns.length := by rw [List.size_toArray, ← r.length, List.length_map]
  refine call_set_list (I1.ok.hd hc) pl.isList (by simpa using intsAre_vals r) (by rw [hlen]; unfold scanBound; omega) fun h' tk hS hk => ?_
  refine PyProof.Rows.args_nil ?_
  rw [hlen] at hS
  obtain ⟨o, es, ep, t, ho, hex, hd, _, _, _, hf, hn⟩ := hS
  have hle : (dedupI ns).length ≤ ns.length := PyProof.Rows.firstMet_length_le _ _
  have I2 : Inv X pins σ H1 { s1 with heap := h', toks := tk } := I1.kept fun b o e => hk b o (Heap.lt_size e) e
  have hn' : es.size = (dedupI ns).length := hn
  exact call_len_set ho hex hd hf (by rw [hn']; omega) ⟨.int ((dedupI ns).length : Nat), H1, I2.tok _, ⟨_, by rw [hn']⟩, q1⟩
section
variable {X : Cx} {σ : L2.St} {a : Expr} {G : Hp} {pos : Pos}
theorem jv_lenSet {ns : List Int} {p p2 q : Pos} (hc : X.calm = true) (hm : X.mg "len" = none) (hm2 : X.mg "set" = none) (ha : JD X σ a G (.list (ns.map eI))) (hl : ns.length ≤ 4000) (hg : Gl X "len") (hg2 : Gl X "set") (he : NoStar a) :
    JV X σ (.Call (.Name "len" p) [.Call (.Name "set" p2) [a] [] q] [] pos) G (.int ((dedupI ns).length : Nat)) := ⟨fun H eh Q k =>
  ⟨_, pe_lenSetG hg hm hg2 hm2 pe_w hc (he _ _), ha H eh _ fun G1 H1 x s1 p1 => by
    cases p1 with
    | lst h1 d1 =>
      have e := DxAll.ints d1
      subst e
      exact ⟨_, ns, rfl, SqL.of (s1.gh _ _ h1), hl, k H1 s1.h⟩⟩⟩
theorem firstMet_mem {f : Nat → Int} : ∀ n x, x ∈ PyProof.Rows.firstMet f n ↔ ∃ i, i < n ∧ f i = x
  | 0, x => by simp [PyProof.Rows.firstMet_zero]
  | n + 1, x => by
    rw [PyProof.Rows.firstMet_succ]
    unfold PyProof.Rows.step_dedup
    have ih := firstMet_mem (f := f) n
    split
    · rename_i hb
      rw [ih]
      constructor
      · rintro ⟨i, h1, h2⟩; exact ⟨i, by omega, h2⟩
      · rintro ⟨i, h1, h2⟩
        by_cases hi : i < n
        · exact ⟨i, hi, h2⟩
        · have e : i = n := by omega
          subst e
          obtain ⟨y, hy, ey⟩ := List.any_eq_true.mp hb
          have ey2 : y = f i := eq_of_beq ey
          subst ey2
          obtain ⟨j, h3, h4⟩ := (ih (f i)).mp hy
          exact ⟨j, h3, h4.trans h2⟩
    · rw [List.mem_append, ih]
      constructor
      · rintro (⟨i, h1, h2⟩ | h)
        · exact ⟨i, by omega, h2⟩
        · rw [List.mem_singleton] at h; exact ⟨n, by omega, h.symm⟩
      · rintro ⟨i, h1, h2⟩
        by_cases hi : i < n
        · exact .inl ⟨i, hi, h2⟩
        · have e : i = n := by omega
          subst e
          exact .inr (by simp [h2])
theorem firstMet_lt {f : Nat → Int} : ∀ n, (∃ i j, i < j ∧ j < n ∧ f i = f j) → (PyProof.Rows.firstMet f n).length < n
  | 0, ⟨i, j, _, h, _⟩ => by omega
  | n + 1, ⟨i, j, hij, hj, e⟩ => by
    have le := PyProof.Rows.firstMet_length_le f n
    rw [PyProof.Rows.firstMet_succ]
    unfold PyProof.Rows.step_dedup
    split
    · omega
    · rename_i hb
      by_cases hjn : j < n
      · have := firstMet_lt (f := f) n ⟨i, j, hij, hjn, e⟩
        rw [List.length_append, List.length_singleton]
        omega
      · have e2 : j = n := by omega
        subst e2
        exfalso
        apply hb
        exact List.any_eq_true.mpr ⟨f i, (firstMet_mem j (f i)).mpr ⟨i, hij, rfl⟩, by simp [e]⟩
theorem dedupI_nodup {ns : List Int} (h : ns.Nodup) : (dedupI ns).length = ns.length := by
  unfold dedupI
  rw [RZ.firstMet_nodup h ns.length (Nat.le_refl _), List.take_length]
theorem dedupI_le (ns : List Int) : (dedupI ns).length ≤ ns.length := PyProof.Rows.firstMet_length_le _ _
theorem dedupI_iff {ns : List Int} : (dedupI ns).length = ns.length ↔ ns.Nodup := by
  refine ⟨fun h => ?_, dedupI_nodup⟩
  by_cases hn : ns.Nodup
  · exact hn
  · exfalso
    unfold List.Nodup at hn
    rw [List.pairwise_iff_getElem] at hn
    have : ∃ i j, ∃ (hi : i < ns.length) (hj : j < ns.length), i < j ∧ ns[i] = ns[j] := by
      refine Classical.byContradiction fun no => hn fun i j hi hj hij e => no ⟨i, j, hi, hj, hij, e⟩
    obtain ⟨i, j, hi, hj, hij, e⟩ := this
    have := firstMet_lt (f := fun i => ns.getD i 0) ns.length ⟨i, j, hij, hj, by simp [List.getD_eq_getElem?_getD, hi, hj, e]⟩
    unfold dedupI at h
    omega
end
end TP

set_option Elab.async false
set_option linter.all false
set_option maxRecDepth 100000
set_option maxHeartbeats 2000000
namespace TP
open PySem PySem.Spec PyProof.Rows L2
open Evl (Ex)
/-! ### what is new all through: it leans on nothing that stood before -/
structure JPF (X : Cx) (σ : L2.St) (e : Expr) (G : Hp) (P : Hp → V → Prop) : Prop where
  run : ∀ H, Ex G H → ∀ Q : VK, (∀ G' H' v F, Stp G H G' H' → Ex F G' → (∀ a, F a ≠ none → H a = none) → P F v → Q v H') → wE X e σ H Q
instance {X : Cx} {σ : L2.St} {e : Expr} {G : Hp} {P : Hp → V → Prop} : CoeFun (JPF X σ e G P) (fun _ => ∀ H, Ex G H → ∀ Q : VK, (∀ G' H' v F, Stp G H G' H' → Ex F G' → (∀ a, F a ≠ none → H a = none) → P F v → Q v H') → wE X e σ H Q) := ⟨fun h => h.run⟩
section
variable {X : Cx} {σ : L2.St} {e a b c tg iter elt : Expr} {es : List Expr} {G G1 : Hp} {v u : V} {d d1 d2 : PyData} {ds : List PyData} {pos : Pos} {i j k : Int} {x : Str} {st : Stmt} {rest body : List Stmt} {D : Ends} {G0 H0 H : Hp} {os : List (Addr × HO)} {P : Hp → V → Prop} {scope : Scope}
theorem JPF.toP (mo : Mo P) (h : JPF X σ e G P) : JP X σ e G P := ⟨fun H eh Q q => h H eh Q fun G' H' v F s eF _ p => q G' H' v s (mo _ _ _ eF p)⟩
theorem JPF.toD (h : JPF X σ e G (kD d)) : JD X σ e G d := (h.toP mo_D).toD
theorem JPF.mono (m : Ex G G1) (h : JPF X σ e G P) : JPF X σ e G1 P := ⟨fun H eh Q q => h H (m.trans eh) Q fun G' H' v F s eF fr p =>
  let ⟨s1, e1⟩ := Stp.wide m eh s
  q _ H' v F s1 (eF.trans e1) fr p⟩
/-- list(xs) of numbers -/
theorem jf_listN {ns : List Nat} {p : Pos} (hm : X.mg "list" = none) (ha : JD X σ a G (eNs ns)) (hg : Gl X "list") (hb : bootBuiltins "list" = some (.type "list")) (he : NoStar a) : JPF X σ (.Call (.Name "list" p) [a] [] pos) G (kD (eNs ns)) := ⟨fun H eh Q q =>
  jn_listOf hm ha hg hb he H eh Q fun G' H' l vs s hl gl hq hd => by
    have hd2 : DxAll (fun b => if b = l then some (HO.lst vs) else none) vs (ns.map eN) := by
      have e1 : vs = (ns.map fun n : Nat => (n : Int)).map V.int := DxAll.ints (by rw [List.map_map]; exact hd)
      have e2 := DxAll.of_ints (H := fun b => if b = l then some (HO.lst vs) else none) (ns.map fun n : Nat => (n : Int))
      rw [← e1, List.map_map] at e2
      exact e2
    refine q (upd G' l (.lst vs)) H' _ (fun b => if b = l then some (HO.lst vs) else none) ?_ ?_ ?_ (.lst (by simp) hd2)
    · refine ⟨s.g.trans (Ex.new gl), fun b o e => ?_, s.h, fun b hb e => ?_⟩
      · by_cases z : b = l
        · subst z; rw [upd_same] at e; cases e; exact hq
        · rw [upd_ne z] at e; exact s.gh b o e
      · by_cases z : b = l
        · subst z; exact absurd hl hb
        · rw [upd_ne z] at e; exact s.fr b hb e
    · intro b o e
      by_cases z : b = l
      · subst z; simp at e; subst e; exact upd_same
      · simp [z] at e
    · intro b hb
      by_cases z : b = l
      · subst z; exact hl
      · simp [z] at hb⟩
theorem join_ex {F F2 G : Hp} (h1 : Ex F G) (h2 : Ex F2 G) : Ex F (join F F2) ∧ Ex F2 (join F F2) ∧ Ex (join F F2) G := by
  refine ⟨fun a o e => by unfold join; rw [e], fun a o e => ?_, fun a o e => ?_⟩
  · unfold join
    cases q : F a with
    | none => exact e
    | some z =>
      have w := h2 a o e
      rw [h1 a z q] at w
      exact w
  · unfold join at e
    cases q : F a with
    | none => rw [q] at e; exact h2 a o e
    | some z => rw [q] at e; cases e; exact h1 a _ q
theorem join_fr {F F2 : Hp} {b : Addr} (h : join F F2 b ≠ none) : F b ≠ none ∨ F2 b ≠ none := by
  unfold join at h
  cases q : F b with
  | none => rw [q] at h; exact .inr h
  | some z => exact .inl (by simp)
/-- [elt for y in iter], each element new all through -/
theorem lc_readF {α : Type} {f0 : α → PyData} {xs : List α} {f : α → PyData} {n : Nat} {y : Str} {py : Pos} (hi : JI X σ (.Name y py) iter G (xs.map f0)) (hl : xs.length < 100000) (hc : X.calm = true) (hN : X.N.Nodup) (hn : X.N[n]? = some y) (hy : ∀ s h C cl fp, Loc (Blk X scope s h C cl fp).env.scope y ∧ ((Blk X scope s h C cl fp).fn y = true ∨ (Blk X scope s h C cl fp).env.scope.names.lookup y = some .local))
    (ok : blkC X.N X.env.scope scope [(y, n)] = true) (hs : ∀ x, foldedSetIterable iter X.env x = pure x)
    (he : ∀ s h C cl fp, ∀ x ∈ xs, ∀ G' v, Ex G G' → Dx G' v (f0 x) → JPF (Blk X scope s h C cl fp) (σ.set n (some v)) elt G' (kD (f x))) :
    ∀ H, Ex G H → ∀ Q : VK, (∀ G' H' v F, Stp G H G' H' → Ex F G' → (∀ a, F a ≠ none → H a = none) → kD (.list (xs.map f)) F v → Q v H') → tLc (fun σ H R => ∃ wi, PI X (.Name y py) iter wi ∧ wi σ H R) (bG X scope (.Name y py)) tYes (bE X scope elt) [n] σ H Q := fun H eh Q q => by
  have hw : ∀ v, wipe ((σ.set n none).set n (some v)) [n] = wipe σ [n] := fun v => by simp [wipe, List.set_set]
  refine hi H eh _ fun G1 H1 J s1 w D hD => ?_
  have h1 : Hs G1 H1 G1 H1 [] := .nil s1.gh
  unfold WalkD at w
  rw [List.length_map] at w
  refine lc_it w (fun i H => ∃ G' F ws, Hs G1 H1 G' H [(D, .lst ws)] ∧ Ex F G' ∧ (∀ a, F a ≠ none → H1 a = none) ∧ DxAll F ws ((xs.take i).map f)) ⟨G1, fun _ => none, [], h1.new hD, (fun _ _ e => nomatch e), (fun _ e => absurd rfl e), DxAll.nil⟩ (fun i H _ ⟨G', F, ws, hs, _⟩ => hs.st.g.trans hs.ex) ?_ ?_
  · rintro i x H2 H2' hlt ⟨G', F, ws, hs, eF, fr, hd⟩ ⟨rfl, d, hd1, pd⟩
    have hx : xs[i]? = some xs[i] := List.getElem?_eq_getElem hlt
    have ed : d = f0 xs[i] := by
      rw [List.getElem?_map, hx] at hd1
      exact (Option.some.inj hd1).symm
    subst ed
    have tk : xs.take (i + 1) = xs.take i ++ [xs[i]] := by rw [List.take_succ, hx]; rfl
    have eg : Ex G G' := s1.g.trans hs.st.g
    have len : ws.length < sizeLine := by
      rw [hd.length, List.length_map]
      have a2 : (xs.take i).length ≤ xs.length := by rw [List.length_take]; omega
      exact Evl.sz_lt (by omega)
    refine fun s h C cl fp => wg_name (X := Blk X scope s h C cl fp) hN hn (hy s h C cl fp).1 (hy s h C cl fp).2 ⟨hw x, ?_⟩
    dsimp only [tYes]
    rw [if_pos rfl]
    intro s' h' C' cl' fp'
    have := he s' h' C' cl' fp' xs[i] (List.getElem_mem hlt) G' x eg (pd.mono hs.st.g)
    show wE _ elt ((σ.set n none).set n (some x)) _ _
    rw [List.set_set]
    refine this H2' hs.ex _ fun G4 H4 v F4 s4 eF4 fr4 p4 => ?_
    have hs4 := hs.stp s4
    obtain ⟨j1, j2, j3⟩ := join_ex (eF.trans s4.g) eF4
    refine ⟨ws, hs4.at0, len, G4, join F F4, ws ++ [v], hs4.put0, j3, fun a ha => ?_, ?_⟩
    · rcases join_fr ha with z | z
      · exact fr a z
      · exact Evl.fresh_back hs.st.h (fr4 a z)
    · rw [tk, List.map_append]
      exact (hd.mono j1).snoc (p4.mono j2)
  · rintro H2 ⟨G', F, ws, hs, eF, fr, hd⟩
    rw [List.take_length] at hd
    obtain ⟨hf, e1⟩ := hs.fix
    have o0 := hs.own _ List.mem_cons_self
    have FD : F D = none := by
      cases z : F D with
      | none => rfl
      | some o =>
        have := eF D o z
        rw [o0.1] at this
        cases this
    refine q (upd G' D (.lst ws)) H2 _ (upd F D (.lst ws)) (s1.trans hf.st) (fun b o e => ?_) (fun b hb => ?_) (.lst upd_same (hd.mono (Ex.new FD)))
    · by_cases z : b = D
      · subst z; rw [upd_same] at e ⊢; exact e
      · rw [upd_ne z] at e ⊢; exact eF b o e
    · by_cases z : b = D
      · subst z; exact Evl.fresh_back s1.h hD
      · rw [upd_ne z] at hb; exact Evl.fresh_back s1.h (fr b hb)
theorem jf_lc {α : Type} {f0 : α → PyData} {xs : List α} {f : α → PyData} {n : Nat} {y : Str} {py : Pos} (hi : JI X σ (.Name y py) iter G (xs.map f0)) (hl : xs.length < 100000) (hc : X.calm = true) (hN : X.N.Nodup) (hn : X.N[n]? = some y) (hy : ∀ s h C cl fp, Loc (Blk X scope s h C cl fp).env.scope y ∧ ((Blk X scope s h C cl fp).fn y = true ∨ (Blk X scope s h C cl fp).env.scope.names.lookup y = some .local))
    (ok : blkC X.N X.env.scope scope [(y, n)] = true) (hs : ∀ x, foldedSetIterable iter X.env x = pure x)
    (he : ∀ s h C cl fp, ∀ x ∈ xs, ∀ G' v, Ex G G' → Dx G' v (f0 x) → JPF (Blk X scope s h C cl fp) (σ.set n (some v)) elt G' (kD (f x))) :
    JPF X σ (.ListComp elt [⟨.Name y py, iter, [], 0⟩] scope pos) G (kD (.list (xs.map f))) := ⟨fun H eh Q q =>
  ⟨_, pe_lc (wi := fun σ H R => ∃ wi, PI X (.Name y py) iter wi ∧ wi σ H R) hc hN ⟨fun pins s σ H R I ⟨_, h, q⟩ => h.run pins s σ H R I q⟩ (blkOk_by ok) pg_b (fun s h C cl fp => pts_nil) pe_b hs, lc_readF hi hl hc hN hn hy ok hs he H eh Q q⟩⟩
theorem b_setLcF {m : Nat} {z : Str} {pz q : Pos} (h : Hs G0 H0 G H os) {α : Type} {f0 : α → PyData} {xs : List α} {f : α → PyData} {n : Nat} {y : Str} {py : Pos} (hi : JI X σ (.Name y py) iter G (xs.map f0)) (hl : xs.length < 100000) (hc : X.calm = true) (hN : X.N.Nodup) (hn : X.N[n]? = some y) (hy : ∀ s h C cl fp, Loc (Blk X scope s h C cl fp).env.scope y ∧ ((Blk X scope s h C cl fp).fn y = true ∨ (Blk X scope s h C cl fp).env.scope.names.lookup y = some .local))
    (ok : blkC X.N X.env.scope scope [(y, n)] = true) (hs : ∀ x, foldedSetIterable iter X.env x = pure x)
    (he : ∀ s h C cl fp, ∀ x ∈ xs, ∀ G' v, Ex G G' → Dx G' v (f0 x) → JPF (Blk X scope s h C cl fp) (σ.set n (some v)) elt G' (kD (f x))) (hm : X.N[m]? = some z) (hz : X.env.scope.names.lookup z = some .local)
    (hsw : swapsWith (.ListComp elt [⟨.Name y py, iter, [], 0⟩] scope pos) (some (.Name z pz)) q.line X.env = pure true)
    (k : ∀ G' H' v, Hs G0 H0 G' H' os → Ex G G' → Ex H H' → (∃ F, Ex F G' ∧ (∀ a, F a ≠ none → H a = none) ∧ Dx F v (.list (xs.map f))) → wSs X rest D (σ.set m (some v)) H') :
    wSs X (.Assign [.Name z pz] (.ListComp elt [⟨.Name y py, iter, [], 0⟩] scope pos) q :: rest) D σ H :=
  b_cons ⟨_, ps_setLc (wi := fun σ H R => ∃ wi, PI X (.Name y py) iter wi ∧ wi σ H R) hc hN hm hz hsw ⟨fun pins s σ H R I ⟨_, h, q⟩ => h.run pins s σ H R I q⟩ (blkOk_by ok) pg_b (fun s h C cl fp => pts_nil) pe_b hs,
    lc_readF hi hl hc hN hn hy ok hs he H h.ex _ fun G' H' v F s eF fr pv => k G' H' v (h.stp s) s.g s.h ⟨F, eF, fr, pv⟩⟩

/-! ### a new instance -/
/-- what an __init__ promises: x, new, gets the attributes fs -/
def spMk {ι : Type} (C : Addr) (pre : ι → Prop) (Ps : ι → List (Hp → V → Prop)) (R : ι → Hp → List (Str × V) → Prop) : Sp := fun vs H Q _ =>
  ∃ i G H0 x dx us, vs = .ref x :: us ∧ Hs G H0 G H [(x, .ins C dx []), (dx, .own x)] ∧ pre i ∧ Al G (Ps i) us ∧
    ∀ G' H' fs F, Hs G H0 G' H' [(x, .ins C dx fs), (dx, .own x)] → Ex F G' → (∀ a, F a ≠ none → H0 a = none) → R i F fs → Q .non H'
theorem made_hs {G H : Hp} {x dx C : Addr} (eh : Ex G H) (hx : H x = none) (hd : H dx = none) (ne : dx ≠ x) : Hs G H G (upd (upd H dx (.own x)) x (.ins C dx [])) [(x, .ins C dx []), (dx, .own x)] := by
  have h1 : Hs G H G (upd H dx (.own x)) [(dx, .own x)] := (Hs.nil eh).new hd
  exact h1.new (by rw [upd_ne ne.symm]; exact hx)
theorem jp_make {ι : Type} {pre : ι → Prop} {Ps : ι → List (Hp → V → Prop)} {R : ι → Hp → List (Str × V) → Prop} {C : Addr} {k : Nat} {p : Pos} (F : Mkr X.prog X.w X.K X.mg X.base C k (spMk C pre Ps R)) (hr : Room (k + 1) X.A) (hg : Gl X x) (hm : X.mg x = some (.ref C)) (i : ι) (hp : pre i)
    (ha : JA X σ (e :: es) G (fun G vs => Al G (Ps i) vs)) (hs : NoStar e) (hdb : (x == ("__debug__" : Str)) = false) (hpl : (backTo pos (starEach es X.env)).any (·.1) = false)
    (hR : ∀ F F' fs, Ex F F' → R i F fs → R i F' fs) :
    JPF X σ (.Call (.Name x p) (e :: es) [] pos) G (fun F v => ∃ a dx fs, v = .ref a ∧ F a = some (.ins C dx fs) ∧ R i F fs) := ⟨fun H eh Q q => by
  obtain ⟨f, fd, ps, hf, mk, hb⟩ := F
  refine ⟨_, pe_make mk hf hr hg hm hb .nil pass0 pa_w hdb (hs _ _) hpl, ha H eh _ fun G1 H1 vs s1 al xx dx hx hdx ne => ?_⟩
  rw [List.append_nil]
  refine ⟨i, G1, H1, xx, dx, vs, rfl, made_hs s1.gh hx hdx ne, hp, al, fun G' H' fs F h2 eF fr r => ⟨rfl, ?_⟩⟩
  obtain ⟨hf2, e2⟩ := h2.fix
  have o0 := h2.own _ List.mem_cons_self
  have FD : F xx = none := by
    cases z : F xx with
    | none => rfl
    | some o =>
      have := eF xx o z
      rw [o0.1] at this
      cases this
  refine q (upd G' xx (.ins C dx fs)) H' _ (upd F xx (.ins C dx fs)) (s1.trans hf2.st) (fun b o e => ?_) (fun b hb => ?_) ⟨xx, dx, fs, rfl, upd_same, hR _ _ _ (Ex.new FD) r⟩
  · by_cases z : b = xx
    · subst z; rw [upd_same] at e ⊢; exact e
    · rw [upd_ne z] at e ⊢; exact eF b o e
  · by_cases z : b = xx
    · subst z; exact Evl.fresh_back s1.h hx
    · rw [upd_ne z] at hb; exact Evl.fresh_back s1.h (fr b hb)⟩
/-- self.f = e, in an __init__ -/
theorem b_setFld {C dx oa : Addr} {fs : List (Str × V)} {o : Expr} {f : Str} {p q : Pos} (h : Hs G0 H0 G H ((oa, .ins C dx fs) :: os)) (cl : Cls X.K C) (hn : NoAttr X.K C f) (ho : ∀ G, JV X σ o G (.ref oa)) (hf : fs.length < 1000)
    (he : JP X σ e G P) (hs : swapsWith e (some (.Attribute o f p)) q.line X.env = pure false)
    (k : ∀ G' H' v, Hs G0 H0 G' H' ((oa, .ins C dx (putF f v fs)) :: os) → Ex G G' → P G' v → wSs X rest D σ H') : wSs X (.Assign [.Attribute o f p] e q :: rest) D σ H :=
  b_cons ⟨_, ps_fld pe_w pe_w hs, he H h.ex _ fun G1 H1 v s pv => (ho G1) H1 s.gh _ fun H2 e2 => by
    have h2 := (h.stp s).flat e2
    exact ⟨oa, C, dx, fs, rfl, h2.at0, cl, hn, hf, k G1 _ v h2.put0 s.g pv⟩⟩
theorem b_setFldF {C dx oa : Addr} {fs : List (Str × V)} {o : Expr} {f : Str} {p q : Pos} (h : Hs G0 H0 G H ((oa, .ins C dx fs) :: os)) (cl : Cls X.K C) (hn : NoAttr X.K C f) (ho : ∀ G, JV X σ o G (.ref oa)) (hf : fs.length < 1000)
    (he : JPF X σ e G P) (hs : swapsWith e (some (.Attribute o f p)) q.line X.env = pure false)
    (k : ∀ G' H' v, Hs G0 H0 G' H' ((oa, .ins C dx (putF f v fs)) :: os) → Ex G G' → (∃ F, Ex F G' ∧ (∀ a, F a ≠ none → H a = none) ∧ P F v) → wSs X rest D σ H') : wSs X (.Assign [.Attribute o f p] e q :: rest) D σ H :=
  b_cons ⟨_, ps_fld pe_w pe_w hs, he H h.ex _ fun G1 H1 v F s eF fr pv => (ho G1) H1 s.gh _ fun H2 e2 => by
    have h2 := (h.stp s).flat e2
    exact ⟨oa, C, dx, fs, rfl, h2.at0, cl, hn, hf, k G1 _ v h2.put0 s.g ⟨F, eF, fr, pv⟩⟩⟩
/-- THE RULE for an __init__ -/
theorem fun_okI {ι : Type} {P : Program} {w : World} {K : PySem.W.Frag} {mg : Str → Option Value} {base : Heap} {C : Addr} {pre : ι → Prop} {Ps : ι → List (Hp → V → Prop)} {R : ι → Hp → List (Str × V) → Prop} {x qual : Str} {st : Stmt} {f : Addr} {fd : FuncData} {N ps : List Str} {k : Nat} (F : Fun K x qual st f fd) (S : FnScope N ps (defScope st)) (hl : ∀ i, (Ps i).length + 1 = ps.length)
    (hb : ∀ (cdv : Value) (A : Around) (outer : List Env) (s : Shared) (H : Hp) (us : List V) (Q : VK) (E : XK) (i : ι) (G H0 : Hp) (x dx : Addr), Room k (A.deeper (envOfC qual (defScope st) s.heap.objs.size f cdv)) → pre i → Al G (Ps i) us → Hs G H0 G H [(x, .ins C dx []), (dx, .own x)] →
      (∀ G' H' fs F, Hs G H0 G' H' [(x, .ins C dx fs), (dx, .own x)] → Ex F G' → (∀ a, F a ≠ none → H0 a = none) → R i F fs → Q .non H') →
      wSs (cxOf CX0 P w K mg base N qual (defScope st) f cdv A outer s H E).nox (defBody st) { nx := fun _ H' => Q .non H', rt := Q } (start N (.ref x :: us)) H) : FnOk P w K mg base CX0 (k + 1) f fd ps (spMk C pre Ps R) := by
  refine F.ok S (fun vs H Q E ⟨i, G, H0, x, dx, us, e, _, _, al, _⟩ => by rw [e, List.length_cons, al.length]; exact hl i) fun cdv A outer s H vs Q E hr ⟨i, G, H0, x, dx, us, e, h, hp, al, k⟩ => ?_
  subst e
  exact hb cdv A outer s H us Q E i G H0 x dx hr hp al h k

/-! ### isinstance of data -/
theorem boot_isi : bootBuiltins "isinstance" = some (.builtin "isinstance") := by decide +kernel
theorem boot_tint : bootBuiltins "int" = some (.type "int") := by decide +kernel
theorem boot_tbool : bootBuiltins "bool" = some (.type "bool") := by decide +kernel
theorem boot_tlist : bootBuiltins "list" = some (.type "list") := by decide +kernel
theorem boot_ttuple : bootBuiltins "tuple" = some (.type "tuple") := by decide +kernel
theorem kit_ii : kitB "int" "int" = some true := by decide +kernel
theorem kit_ib : kitB "int" "bool" = some false := by decide +kernel
theorem kit_bi : kitB "bool" "int" = some true := by decide +kernel
theorem kit_bb : kitB "bool" "bool" = some true := by decide +kernel
theorem kit_li : kitB "list" "int" = some false := by decide +kernel
theorem kit_ll : kitB "list" "list" = some true := by decide +kernel
theorem kit_tt : kitB "tuple" "tuple" = some true := by decide +kernel
theorem kit_tl : kitB "tuple" "list" = some false := by decide +kernel
theorem kit_lt : kitB "list" "tuple" = some false := by decide +kernel
theorem kit_tb : kitB "list" "bool" = some false := by decide +kernel
def dty : PyData → String
  | .none => "NoneType"
  | .bool _ => "bool"
  | .int _ => "int"
  | .str _ => "str"
  | .list _ => "list"
  | .tuple _ => "tuple"
  | .dict _ => "dict"
theorem Dx.ty {K : PySem.W.Frag} (h : Dx H v d) : TyX K H v (.type (dty d)) := by
  cases h with
  | non => exact .base .non
  | bl b => exact .base (.bl b)
  | int i => exact .base (.int i)
  | str x => exact .base (.str x)
  | lst h _ => exact .base (.lst h)
  | tup h _ => exact .base (.tup h)
theorem jv_isi {T : Str} {Ty : String} {r : Bool} {p p2 : Pos} (hbT : bootBuiltins T = some (.type Ty)) (hm : X.mg "isinstance" = none) (hT : X.mg T = none) (ha : JD X σ a G d) (hk : kitB (dty d) Ty = some r) (hg : Gl X "isinstance") (hg2 : Gl X T) (hb : bootBuiltins "isinstance" = some (.builtin "isinstance")) (he : NoStar a)
    (hn : T ≠ "__name__") (hdd : (T == ("__debug__" : Str)) = false) :
    JV X σ (.Call (.Name "isinstance" p) [a, .Name T p2] [] pos) G (.bl r) := ⟨fun H eh Q q =>
  ⟨_, pe_callB call_isi hg hm hb (pa_cons pe_w (pa_cons (pe_bltn hg2 hT hbT (v := .ty Ty) rfl hn hdd) pa_nil rfl) (he _ _)) (he := he _ _), ha H eh _ fun G1 H1 x s1 p1 =>
    ⟨x, .ty Ty, _, _, r, rfl, .ty _, (p1.mono s1.gh).ty, kit_ty hk, q H1 s1.h⟩⟩⟩
end
end TP
namespace TP
open PySem PySem.Spec PyProof.Rows L2
open Evl (Ex)
/-! ### promises of what is new: all through (F), a new list (N) -/
def spOfF {ι : Type} (pre : ι → Prop) (Ps : ι → List (Hp → V → Prop)) (R : ι → Hp → V → Prop) : Sp := fun vs H Q _ =>
  ∃ i G, Ex G H ∧ pre i ∧ Al G (Ps i) vs ∧ ∀ G' H' v F, Stp G H G' H' → Ex F G' → (∀ a, F a ≠ none → H a = none) → R i F v → Q v H'
def spOfN {ι : Type} (pre : ι → Prop) (Ps : ι → List (Hp → V → Prop)) (ds : ι → List PyData) : Sp := fun vs H Q _ =>
  ∃ i G, Ex G H ∧ pre i ∧ Al G (Ps i) vs ∧ ∀ G' H' p ws, Stp G H G' H' → H p = none → G' p = none → H' p = some (.lst ws) → DxAll G' ws (ds i) → Q (.ref p) H'
theorem Hs.back {G0 H0 G H G' H' : Hp} {os os' : List (Addr × HO)} (h : Hs G0 H0 G H os) (h' : Hs G0 H0 G' H' os') (e : Ex G G') : Hs G0 H0 G H' os' :=
  ⟨⟨h.st.g, e.trans h'.ex, h'.st.h, h.st.fr⟩, fun x hx => let ⟨a, b, c⟩ := h'.own x hx; ⟨Evl.fresh_back e a, b, c⟩, h'.nd⟩
section
variable {P : Program} {w : World} {K : PySem.W.Frag} {mg : Str → Option Value} {base : Heap}
theorem fun_okF {ι : Type} {pre : ι → Prop} {Ps : ι → List (Hp → V → Prop)} {R : ι → Hp → V → Prop} {x qual : Str} {st : Stmt} {f : Addr} {fd : FuncData} {N ps : List Str} {k : Nat} (F : Fun K x qual st f fd) (S : FnScope N ps (defScope st)) (hl : ∀ i, (Ps i).length = ps.length)
    (hb : ∀ (cdv : Value) (A : Around) (outer : List Env) (s : Shared) (H : Hp) (vs : List V) (Q : VK) (E : XK) (i : ι) (G : Hp), Room k (A.deeper (envOfC qual (defScope st) s.heap.objs.size f cdv)) → pre i → Al G (Ps i) vs → Hs G H G H [] →
      (∀ G' H' v F, Stp G H G' H' → Ex F G' → (∀ a, F a ≠ none → H a = none) → R i F v → Q v H') →
      wSs (cxOf CX0 P w K mg base N qual (defScope st) f cdv A outer s H E).nox (defBody st) { nx := fun _ H' => Q .non H', rt := Q } (start N vs) H) : FnOk P w K mg base CX0 (k + 1) f fd ps (spOfF pre Ps R) := by
  refine F.ok S (fun vs H Q E ⟨i, G, _, _, al, _⟩ => al.length.trans (hl i)) fun cdv A outer s H vs Q E hr ⟨i, G, eh, hp, al, k⟩ => ?_
  exact hb cdv A outer s H vs Q E i G hr hp al (.nil eh) k
theorem fun_okN {ι : Type} {pre : ι → Prop} {Ps : ι → List (Hp → V → Prop)} {ds : ι → List PyData} {x qual : Str} {st : Stmt} {f : Addr} {fd : FuncData} {N ps : List Str} {k : Nat} (F : Fun K x qual st f fd) (S : FnScope N ps (defScope st)) (hl : ∀ i, (Ps i).length = ps.length)
    (hb : ∀ (cdv : Value) (A : Around) (outer : List Env) (s : Shared) (H : Hp) (vs : List V) (Q : VK) (E : XK) (i : ι) (G : Hp), Room k (A.deeper (envOfC qual (defScope st) s.heap.objs.size f cdv)) → pre i → Al G (Ps i) vs → Hs G H G H [] →
      (∀ G' H' p ws os, Hs G H G' H' ((p, .lst ws) :: os) → DxAll G' ws (ds i) → Q (.ref p) H') →
      wSs (cxOf CX0 P w K mg base N qual (defScope st) f cdv A outer s H E).nox (defBody st) { nx := fun _ H' => Q .non H', rt := Q } (start N vs) H) : FnOk P w K mg base CX0 (k + 1) f fd ps (spOfN pre Ps ds) := by
  refine F.ok S (fun vs H Q E ⟨i, G, _, _, al, _⟩ => al.length.trans (hl i)) fun cdv A outer s H vs Q E hr ⟨i, G, eh, hp, al, k⟩ => ?_
  refine hb cdv A outer s H vs Q E i G hr hp al (.nil eh) fun G' H' p ws os h hd => ?_
  have o0 := h.own _ List.mem_cons_self
  exact k G' H' p ws h.st o0.2.2 o0.1 o0.2.1 hd
end
section
variable {X : Cx} {σ : L2.St} {e o a b c : Expr} {es : List Expr} {G G0 H0 H : Hp} {pos : Pos} {x : Str} {k : Nat} {ι : Type} {pre : ι → Prop} {Ps : ι → List (Hp → V → Prop)} {R : ι → Hp → V → Prop} {ds : ι → List PyData} {rest : List Stmt} {D : Ends} {os : List (Addr × HO)} {P : Hp → V → Prop}
theorem jn_call {p : Pos} (F : Df X.prog X.w X.K X.mg X.base x k (spOfN pre Ps ds)) (hr : Room k X.A) (hg : Gl X x) (i : ι) (hp : pre i) (ha : JA X σ (e :: es) G (fun G vs => Al G (Ps i) vs)) (hs : NoStar e) (hdb : (x == ("__debug__" : Str)) = false)
    (hpl : (backTo pos (starEach es X.env)).any (·.1) = false) : JN X σ (.Call (.Name x p) (e :: es) [] pos) G (ds i) := ⟨fun H eh Q q => by
  obtain ⟨f, fd, ps, hf, hm, hk, hb⟩ := F
  refine ⟨_, pe_call hf hr hg hm hk hb .nil pass0 pa_w hdb (hs _ _) hpl, ha H eh _ fun G1 H1 vs s1 al => ?_⟩
  rw [List.append_nil]
  exact ⟨i, G1, s1.gh, hp, al, fun G2 H2 l ws s2 hl gl hq hd => q G2 H2 l ws (s1.trans s2) (Evl.fresh_back s1.h hl) gl hq hd⟩⟩
theorem jf_meth0 {C : Addr} {m : Str} {p : Pos} {oa : Addr} {A : List (Str × V)} {pl : Sem Bool} (F : Mt X.prog X.w X.K X.mg X.base C m k (spOfF pre Ps R)) (cl : Cls X.K C) (ho : JV X σ o G (.ref oa)) (hi : InsAt G oa C A) (hA : A.lookup m = none) (hr : Room k X.A) (i : ι) (hp : pre i)
    {P0 : Hp → V → Prop} (hP : Ps i = [P0]) (h0 : P0 G (.ref oa))
    (ht : eval (.Call (.Attribute o m p) [] [] pos) X.env = (do
      let ov ← eval o X.env
      standAt p.atName
      let (f, first) ← holding [ov] (getMethod ov m pl)
      callWith pos f first (backTo pos (starEach [] X.env)) (backToKw pos (keywordEach [] X.env)))) : JPF X σ (.Call (.Attribute o m p) [] [] pos) G (R i) := ⟨fun H eh Q q => by
  obtain ⟨f, fd, ps, hf, hm, hb⟩ := F
  obtain ⟨dx, fs, hG, hfs⟩ := hi.ex
  refine ⟨_, pe_meth0 pe_w cl hm hf hr hb .nil pass0 ht, ho H eh _ fun H1 e1 => ⟨oa, dx, fs, rfl, e1 _ _ (eh _ _ hG), (hfs m).trans hA, ?_⟩⟩
  refine ⟨i, G, eh.trans e1, hp, by rw [hP]; exact ⟨h0, trivial⟩, fun G3 H3 v F s3 eF fr r => q G3 H3 v F ?_ eF (fun a ha => Evl.fresh_back e1 (fr a ha)) r⟩
  exact (Stp.flat eh e1).trans s3⟩
theorem b_retF {q : Pos} (h : Hs G0 H0 G H os) (he : JPF X σ e G P) (k : ∀ G' H' v F, Stp G H G' H' → Ex F G' → (∀ a, F a ≠ none → H a = none) → P F v → D.rt v H') : wSs X (.Return (some e) q :: rest) D σ H :=
  b_cons ⟨_, ps_ret pe_w, he H h.ex _ k⟩
theorem b_retN {q : Pos} {dss : List PyData} (h : Hs G0 H0 G H os) (he : JN X σ e G dss) (k : ∀ G' H' p ws, Hs G0 H0 G' H' ((p, .lst ws) :: os) → DxAll G' ws dss → D.rt (.ref p) H') : wSs X (.Return (some e) q :: rest) D σ H :=
  b_cons ⟨_, ps_ret pe_w, he H h.ex _ fun G' H' l vs s hp gp hq hd => k G' H' l vs (h.newL s hp gp hq) hd⟩
/-- return x, x one's own list -/
theorem b_retOwn {n : Nat} {p q : Pos} {l : Addr} (hs : σ[n]? = some (some (.ref l))) (hN : X.N[n]? = some x) (hv : Vis X.env.scope x) (hd : (x == ("__debug__" : Str)) = false) (hcd : (x == ("__classdict__" : Str)) = false) (k : D.rt (.ref l) H) : wSs X (.Return (some (.Name x p)) q :: rest) D σ H :=
  b_cons ⟨_, ps_ret (pe_var hN hv hd hcd), _, hs, k⟩
theorem b_setF {n : Nat} {p q : Pos} (h : Hs G0 H0 G H os) (he : JPF X σ e G P) (hN : X.N.Nodup) (hi : X.N[n]? = some x) (hx : Loc X.env.scope x) (hs : swapsWith e (some (.Name x p)) q.line X.env = pure false) (hf : X.fn x = true ∨ X.env.scope.names.lookup x = some .local)
    (k : ∀ G' H' v, Hs G0 H0 G' H' os → Ex G G' → Ex H H' → (∃ F, Ex F G' ∧ (∀ a, F a ≠ none → H a = none) ∧ P F v) → wSs X rest D (σ.set n (some v)) H') : wSs X (.Assign [.Name x p] e q :: rest) D σ H :=
  b_setW hN hi hx hs hf (he H h.ex _ fun G1 H1 v F s eF fr pv => k G1 H1 v (h.stp s) s.g s.h ⟨F, eF, fr, pv⟩)
end
end TP

set_option Elab.async false
set_option linter.all false
set_option maxRecDepth 100000
set_option maxHeartbeats 2000000
namespace TP
open PySem PySem.Spec PyProof.Rows L2
open Evl (Ex)
/-! ### a block's end may be said more weakly -/
section
variable {X : Cx} {σ : L2.St} {e o a b c tg iter : Expr} {es : List Expr} {G G1 Ge : Hp} {v u : V} {d d1 d2 : PyData} {ds : List PyData} {pos : Pos} {i j k : Int} {x : Str} {st : Stmt} {rest body : List Stmt} {D : Ends} {G0 H0 H : Hp} {os : List (Addr × HO)} {P : Hp → V → Prop}
theorem wSs.mono {sts : List Stmt} {D' : Ends} (h : wSs X sts D σ H) (m : ∀ s h, D.nx s h → D'.nx s h) (r : ∀ v h, D.rt v h → D'.rt v h) (b : ∀ s h, D.bk s h → D'.bk s h) (c : ∀ s h, D.ct s h → D'.ct s h) : wSs X sts D' σ H := by
  obtain ⟨t, ht, q⟩ := h
  refine ⟨fun D' σ H => ∃ D, t D σ H ∧ (∀ s h, D.nx s h → D'.nx s h) ∧ (∀ v h, D.rt v h → D'.rt v h) ∧ (∀ s h, D.bk s h → D'.bk s h) ∧ (∀ s h, D.ct s h → D'.ct s h), ⟨fun pins s σ H D' I ⟨D, q, m, r, b, c⟩ => ?_⟩, D, q, m, r, b, c⟩
  refine thn (ht.run pins s σ H D I q) fun f s' z => ?_
  cases f with
  | next => obtain ⟨σ', H', I', z⟩ := z; exact ⟨σ', H', I', m _ _ z⟩
  | brk => obtain ⟨σ', H', I', z⟩ := z; exact ⟨σ', H', I', b _ _ z⟩
  | cont => obtain ⟨σ', H', I', z⟩ := z; exact ⟨σ', H', I', c _ _ z⟩
  | ret u => obtain ⟨v, σ', H', I', rv, z⟩ := z; exact ⟨v, σ', H', I', rv, r _ _ z⟩
/-- if, both ways meeting in W -/
theorem b_ifK {p : Bool} {els : List Stmt} {q : Pos} (W : L2.St → Hp → Hp → Prop) (h : Hs G0 H0 G H os) (eg : Ex Ge H) (hc : JT X σ c Ge p)
    (h1 : p = true → ∀ H', Hs G0 H0 G H' os → Ex H H' → wSs X body { D with nx := fun s h => ∃ g, W s g h } σ H') (h2 : p = false → ∀ H', Hs G0 H0 G H' os → Ex H H' → wSs X els { D with nx := fun s h => ∃ g, W s g h } σ H')
    (k : ∀ s g h, W s g h → wSs X rest D s h) : wSs X (.If c body els q :: rest) D σ H :=
  b_cons ⟨_, ps_if pt_w pss_w pss_w, hc H eg _ fun H1 e1 => by
    cases p with
    | true => rw [if_pos rfl]; exact (h1 rfl H1 (h.flat e1) e1).mono (fun s h ⟨g, z⟩ => k s g h z) (fun _ _ z => z) (fun _ _ z => z) (fun _ _ z => z)
    | false => rw [if_neg Bool.false_ne_true]; exact (h2 rfl H1 (h.flat e1) e1).mono (fun s h ⟨g, z⟩ => k s g h z) (fun _ _ z => z) (fun _ _ z => z) (fun _ _ z => z)⟩
/-- if, the test read over another fixed part -/
theorem b_ifG {p : Bool} {els : List Stmt} {q : Pos} (h : Hs G0 H0 G H os) (eg : Ex Ge H) (hc : JT X σ c Ge p) (h1 : p = true → ∀ H', Hs G0 H0 G H' os → wSs X body { D with nx := wSs X rest D } σ H')
    (h2 : p = false → ∀ H', Hs G0 H0 G H' os → wSs X els { D with nx := wSs X rest D } σ H') : wSs X (.If c body els q :: rest) D σ H :=
  b_cons ⟨_, ps_if pt_w pss_w pss_w, hc H eg _ fun H1 e1 => by
    cases p with
    | true => rw [if_pos rfl]; exact h1 rfl H1 (h.flat e1)
    | false => rw [if_neg Bool.false_ne_true]; exact h2 rfl H1 (h.flat e1)⟩
theorem b_setVG {n : Nat} {p q : Pos} (h : Hs G0 H0 G H os) (eg : Ex Ge H) (he : JV X σ e Ge v) (hN : X.N.Nodup) (hi : X.N[n]? = some x) (hx : Loc X.env.scope x) (hs : swapsWith e (some (.Name x p)) q.line X.env = pure false) (hf : X.fn x = true ∨ X.env.scope.names.lookup x = some .local)
    (k : ∀ H', Hs G0 H0 G H' os → wSs X rest D (σ.set n (some v)) H') : wSs X (.Assign [.Name x p] e q :: rest) D σ H :=
  b_cons ⟨_, ps_set hN hi hx pe_w hs hf, he H eg _ fun H1 e1 => k H1 (h.flat e1)⟩
/-- the own list at the head, seen as fixed -/
theorem Hs.seen {p : Addr} {o : HO} (h : Hs G0 H0 G H ((p, o) :: os)) : Ex (upd G p o) H ∧ Ex G (upd G p o) := ⟨h.fix.1.ex, h.fix.2⟩
/-! ### more built-ins -/
theorem jv_min {p : Pos} (hc : X.calm = true) (hm : X.mg "min" = none) (ha : JV X σ a G (.int i)) (hb : JV X σ b G (.int j)) (hg : Gl X "min") (h0 : bootBuiltins "min" = some (.builtin "min")) (na : NoStar a) (nb : NoStar b) : JV X σ (.Call (.Name "min" p) [a, b] [] pos) G (.int (if j < i then j else i)) := ⟨fun H eh Q q =>
  ⟨_, pe_callB (call_min2 hc) hg hm h0 (pa_cons pe_w (pa_cons pe_w pa_nil (nb _ _)) (na _ _)) (he := na _ _) (hpl := by rw [nb] <;> rfl), ha H eh _ fun H1 e1 => hb H1 (eh.trans e1) _ fun H2 e2 => ⟨i, j, rfl, q H2 (e1.trans e2)⟩⟩⟩
theorem jv_max {p : Pos} (hc : X.calm = true) (hm : X.mg "max" = none) (ha : JV X σ a G (.int i)) (hb : JV X σ b G (.int j)) (hg : Gl X "max") (h0 : bootBuiltins "max" = some (.builtin "max")) (na : NoStar a) (nb : NoStar b) : JV X σ (.Call (.Name "max" p) [a, b] [] pos) G (.int (if j > i then j else i)) := ⟨fun H eh Q q =>
  ⟨_, pe_callB (call_max2 hc) hg hm h0 (pa_cons pe_w (pa_cons pe_w pa_nil (nb _ _)) (na _ _)) (he := na _ _) (hpl := by rw [nb] <;> rfl), ha H eh _ fun H1 e1 => hb H1 (eh.trans e1) _ fun H2 e2 => ⟨i, j, rfl, q H2 (e1.trans e2)⟩⟩⟩
/-- an item of a tuple of numbers, at a place that lies in it -/
theorem jp_ixTI {ns : List Int} (ha : JD X σ a G (.tuple (ns.map .int))) (hb : JV X σ b G (.int i)) (h0 : 0 ≤ i) (h1 : i < ns.length) (hs : PlainIx b) : JP X σ (.Subscript a b pos) G (fun _ v => ∃ n ∈ ns, v = .int n) := ⟨fun H eh Q q => by
  obtain ⟨n, rfl⟩ := Int.eq_ofNat_of_zero_le h0
  have hn : n < ns.length := by omega
  have := (jd_ixT (pos := pos) ha hb (d := .int ns[n]) (atI_nat (by rw [List.getElem?_map, List.getElem?_eq_getElem hn] <;> rfl)) hs)
  exact this H eh Q fun G' H' v s p => q G' H' v s ⟨_, List.getElem_mem hn, p.int_inv⟩⟩
/-! ### the script -/
abbrev Scr (K : PySem.W.Frag) (G : Hp) (a : Addr) (ns : List Int) : Prop := SqL K G a (ns.map V.int)
abbrev kS (K : PySem.W.Frag) (ns : List Int) : Hp → V → Prop := fun G v => ∃ a, v = .ref a ∧ Scr K G a ns
theorem mo_S {K : PySem.W.Frag} {ns : List Int} : Mo (kS K ns) := fun _ _ _ e ⟨a, h1, h2⟩ => ⟨a, h1, Evl.ex_l e h2⟩
theorem jv_lenS {ns : List Int} {sa : Addr} {p : Pos} (hm : X.mg "len" = none) (ha : JV X σ a G (.ref sa)) (hs : Scr X.K G sa ns) (hg : Gl X "len") (he : NoStar a) : JV X σ (.Call (.Name "len" p) [a] [] pos) G (.int ns.length) := ⟨fun H eh Q q =>
  ⟨_, pe_callB call_len_seq hg hm PySem.boot_len (pa_cons pe_w pa_nil (he _ _)) (he := he _ _), ha H eh _ fun H1 e1 => ⟨_, _, rfl, .inl (Evl.ex_l (eh.trans e1) hs), by rw [List.length_map]; exact q H1 e1⟩⟩⟩
theorem jv_ixS {ns : List Int} {sa : Addr} {n : Nat} (ha : JV X σ a G (.ref sa)) (hs : Scr X.K G sa ns) (hb : JV X σ b G (.int (n : Int))) (h : n < ns.length) (hp : PlainIx b) : JV X σ (.Subscript a b pos) G (.int (ns.getD n 0)) := ⟨fun H eh Q q =>
  ⟨_, pe_ix ix_list pe_w pe_w hp, ha H eh _ fun H1 e1 => hb H1 (eh.trans e1) _ fun H2 e2 => ⟨sa, _, n, _, rfl, rfl, Evl.ex_l ((eh.trans e1).trans e2) hs, atI_nat (by rw [List.getElem?_map, List.getElem?_eq_getElem h] <;> rfl), by
    have := q H2 (e1.trans e2)
    rw [List.getD_eq_getElem?_getD, List.getElem?_eq_getElem h] at this
    exact this⟩⟩⟩
/-! ### x.append(y.pop(e)), two lists of one's own -/
theorem b_appendPop {n m : Nat} {p ap cp q p2 ap2 cp2 : Pos} {t l : Addr} {y : Str} {xs ys : List V} (h : Hs G0 H0 G H ((t, .lst xs) :: (l, .lst ys) :: os)) (hs : σ[n]? = some (some (.ref t))) (hN : X.N[n]? = some x) (hv : Vis X.env.scope x)
    (hs2 : σ[m]? = some (some (.ref l))) (hN2 : X.N[m]? = some y) (hv2 : Vis X.env.scope y) (eg : Ex Ge H) (he : JP X σ e Ge (fun _ v => ∃ d : Nat, d < ys.length ∧ v = .int (d : Int))) (hl : xs.length < 100000) (hly : ys.length ≤ 100000)
    (hd : (x == ("__debug__" : Str)) = false) (hcd : (x == ("__classdict__" : Str)) = false) (hd2 : (y == ("__debug__" : Str)) = false) (hcd2 : (y == ("__classdict__" : Str)) = false) (ns : NoStar e)
    (hbase : attributeBase (.Name x p) "append" X.env (eval (.Name x p) X.env) = eval (.Name x p) X.env) (hline : (ap.endLine == cp.line) = true)
    (hfew : ((backTo cp (starEach [.Call (.Attribute (.Name y p2) "pop" ap2) [e] [] cp2] X.env)).all (fun x => !x.1) && (backToKw cp (keywordEach [] X.env)).all (fun x => x.1.isSome) && decide ([Expr.Call (.Attribute (.Name y p2) "pop" ap2) [e] [] cp2].length + ([] : List Keyword).length + (if ([] : List Keyword).isEmpty then 0 else 1) < 30)) = true)
    (hbase2 : attributeBase (.Name y p2) "pop" X.env (eval (.Name y p2) X.env) = eval (.Name y p2) X.env) (hline2 : (ap2.endLine == cp2.line) = true)
    (hfew2 : ((backTo cp2 (starEach [e] X.env)).all (fun x => !x.1) && (backToKw cp2 (keywordEach [] X.env)).all (fun x => x.1.isSome) && decide ([e].length + ([] : List Keyword).length + (if ([] : List Keyword).isEmpty then 0 else 1) < 30)) = true)
    (hsw : swapsWith (.Call (.Attribute (.Name x p) "append" ap) [.Call (.Attribute (.Name y p2) "pop" ap2) [e] [] cp2] [] cp) none q.line X.env = pure false)
    (k : ∀ H' d z, d < ys.length → ys[d]? = some z → Hs G0 H0 G H' ((t, .lst (xs ++ [z])) :: (l, .lst (ys.eraseIdx d)) :: os) → wSs X rest D σ H') :
    wSs X (.Expr (.Call (.Attribute (.Name x p) "append" ap) [.Call (.Attribute (.Name y p2) "pop" ap2) [e] [] cp2] [] cp) q :: rest) D σ H := by
  refine b_exprW hsw (we_append hs hN hv ⟨xs, h.at0⟩ ?_ hd hcd (fun _ _ => rfl) hbase hline hfew)
  refine we_lm PySem.F.slot_list_pop PySem.F.type_list_pop mt_popAt (we_var hs2 hN2 hv2 hd2 hcd2 ⟨rfl, ⟨ys, h.swap.at0⟩, ?_⟩) ns hbase2 hline2 hfew2
  refine he H eg _ fun G1 H1 v s ⟨d, hdl, ev⟩ => ?_
  subst ev
  have h1 := h.flat s.h
  have hz : ys[d]? = some ys[d] := List.getElem?_eq_getElem hdl
  refine ⟨l, ys, d, d, ys[d], rfl, rfl, h1.swap.at0, by omega, by omega, ?_, hz, ?_⟩
  · unfold seqIndex?
    have e0 : (if (d : Int) < 0 then (d : Int) + ys.length else d) = d := if_neg (by omega)
    simp only [e0]
    rw [if_pos (by simp; omega)]
    simp
  · have h2 := h1.swap.put0 (o' := .lst (ys.eraseIdx d))
    exact ⟨xs, h2.swap.at0, hl, k _ d ys[d] hdl hz h2.swap.put0⟩
end
end TP

set_option Elab.async false
set_option linter.all false
set_option maxRecDepth 100000
set_option maxHeartbeats 2000000
namespace TP
open PySem PySem.Spec PyProof.Rows L2
open Evl (Ex)
section
variable {P : Program} {w : World} {K : PySem.W.Frag} {mg : Str → Option Value} {base h : Heap} {C : Addr} {x q : Str} {st : Stmt}
/-- a def of the module, as it lies | of a class -/
def Gf (K : PySem.W.Frag) (x : Str) (st : Stmt) : Prop := ∃ f fd, PySem.W.nsIn K mainGlobals x = some (some (.ref f)) ∧ Fun K x x st f fd
def Gm (K : PySem.W.Frag) (C : Addr) (x q : Str) (st : Stmt) : Prop := ∃ f fd, Meth K C x f ∧ Fun K x q st f fd
theorem gf_mk {f : Addr} {oc : Value} {od an : Option Addr} {sl : Array (Option Value)} {kV doc pm cdv ct : Value}
    (a : PySem.W.nsIn K mainGlobals x = some (some (.ref f)))
    (l : K.lookup f = some ⟨oc, od, .func (PySem.W.fnOf x x (defArgs st) (defBody st) (defScope st) .none kV doc pm an cdv ct), sl⟩)
    (c : PySem.W.codeIn K cdv x = true) (k : PySem.W.keepIn K (.ref f) = true) : Gf K x st := ⟨f, _, a, fun_mk l c k⟩
theorem gm_mk {f : Addr} {oc : Value} {od an : Option Addr} {sl : Array (Option Value)} {kV doc pm cdv ct : Value}
    (a : PySem.W.findIn K (.ref C) x = some (some (.ref f))) (i : PySem.W.isFn K (.ref f) = true)
    (l : K.lookup f = some ⟨oc, od, .func (PySem.W.fnOf x q (defArgs st) (defBody st) (defScope st) .none kV doc pm an cdv ct), sl⟩)
    (c : PySem.W.codeIn K cdv q = true) (k : PySem.W.keepIn K (.ref f) = true) : Gm K C x q st := ⟨f, _, ⟨a, i, k⟩, fun_mk l c k⟩
theorem Gf.df {k : Nat} {sp : Sp} (ps : List Str) (g : Gf K x st) (X : K.In h) (G : h.Ns mainGlobals mg) (ok : ∀ f fd, Fun K x x st f fd → FnOk P w K mg base CX0 k f fd ps sp)
    (hb : ∀ (kV doc pm : Value) (an : Option Addr) (cdv ct : Value) (us : List Value), us.length = ps.length → bindArgs (PySem.W.fnOf x x (defArgs st) (defBody st) (defScope st) .none kV doc pm an cdv ct) ⟨us, []⟩ = pure (ps.zip us)) : Df P w K mg base x k sp :=
  let ⟨f, fd, a, F⟩ := g
  ⟨f, fd, ps, ok f fd F, PySem.W.mg_of X G a, F.kp, F.binds hb⟩
theorem Gm.mt {k : Nat} {sp : Sp} (ps : List Str) (g : Gm K C x q st) (ok : ∀ f fd, Fun K x q st f fd → FnOk P w K mg base CX0 k f fd ps sp)
    (hb : ∀ (kV doc pm : Value) (an : Option Addr) (cdv ct : Value) (us : List Value), us.length = ps.length → bindArgs (PySem.W.fnOf x q (defArgs st) (defBody st) (defScope st) .none kV doc pm an cdv ct) ⟨us, []⟩ = pure (ps.zip us)) : Mt P w K mg base C x k sp :=
  let ⟨f, fd, a, F⟩ := g
  ⟨f, fd, ps, ok f fd F, a, F.binds hb⟩
theorem Gm.mkr {k : Nat} {sp : Sp} (ps : List Str) (g : Gm K C "__init__" q st) (mk : PySem.W.makesIn K C = true) (kc : PySem.W.keepIn K (.ref C) = true) (ok : ∀ f fd, Fun K "__init__" q st f fd → FnOk P w K mg base CX0 k f fd ps sp)
    (hb : ∀ (kV doc pm : Value) (an : Option Addr) (cdv ct : Value) (us : List Value), us.length = ps.length → bindArgs (PySem.W.fnOf "__init__" q (defArgs st) (defBody st) (defScope st) .none kV doc pm an cdv ct) ⟨us, []⟩ = pure (ps.zip us)) : Mkr P w K mg base C k sp :=
  let ⟨f, fd, a, F⟩ := g
  ⟨f, fd, ps, ok f fd F, ⟨mk, a.at_, a.fn, kc⟩, F.binds hb⟩
end
end TP

set_option Elab.async false
set_option linter.all false
set_option maxRecDepth 100000
set_option maxHeartbeats 2000000
namespace TP
open PySem PySem.Spec PyProof.Rows L2
open Evl (Ex)
theorem DxAll.rev {G : Hp} : ∀ {vs : List V} {ds : List PyData}, DxAll G vs ds → DxAll G vs.reverse ds.reverse
  | [], _, h => by cases h; exact .nil
  | v :: vs, _, h => by
    cases h with
    | cons h r =>
      rw [List.reverse_cons, List.reverse_cons]
      exact (DxAll.rev r).append (.cons h .nil)
section
variable {X : Cx} {σ : L2.St} {e o a b c : Expr} {es : List Expr} {G : Hp} {pos : Pos} {x y : Str} {i : Int} {v u : V} {d : PyData}
theorem boot_tstr : bootBuiltins "str" = some (.type "str") := by decide +kernel
theorem jv_strI {p : Pos} (hm : X.mg "str" = none) (ha : JV X σ a G (.int i)) (hi : i.natAbs.log2 < 1920) (hg : Gl X "str") (he : NoStar a) : JV X σ (.Call (.Name "str" p) [a] [] pos) G (.str (toString i)) := ⟨fun H eh Q q =>
  ⟨_, pe_callTy call_str_int hg hm boot_tstr (pa_cons pe_w pa_nil (he _ _)) (he := he _ _), ha H eh _ fun H1 e1 => ⟨i, rfl, hi, q H1 e1⟩⟩⟩
theorem jv_intS {p : Pos} (hm : X.mg "int" = none) (ha : JV X σ a G (.str x)) (hi : PySem.intText? x = some i) (hl : x.length ≤ 640) (hg : Gl X "int") (he : NoStar a) : JV X σ (.Call (.Name "int" p) [a] [] pos) G (.int i) := ⟨fun H eh Q q =>
  ⟨_, pe_callTy call_int_str hg hm boot_tint (pa_cons pe_w pa_nil (he _ _)) (he := he _ _), ha H eh _ fun H1 e1 => ⟨x, i, rfl, hi, hl, q H1 e1⟩⟩⟩
theorem jv_lenStr {p : Pos} (hm : X.mg "len" = none) (ha : JV X σ a G (.str x)) (hl : x.length ≤ sizeLine) (hg : Gl X "len") (he : NoStar a) : JV X σ (.Call (.Name "len" p) [a] [] pos) G (.int (x.length : Int)) := ⟨fun H eh Q q =>
  ⟨_, pe_callB call_len hg hm PySem.boot_len (pa_cons pe_w pa_nil (he _ _)) (he := he _ _), ha H eh _ fun H1 e1 => ⟨.str x, x.length, rfl, ⟨hl, rfl⟩, q H1 e1⟩⟩⟩
theorem jo_inS (ha : JV X σ a G (.str x)) (hb : JV X σ b G (.str y)) : JO X σ .In a b G (.bl (!(Builtin.Str.occurrences y x 0 y.length 1).isEmpty)) := jo_of op_in_str ha hb fun H Q q => ⟨x, y, rfl, rfl, q⟩
theorem jo_eqS (ha : JV X σ a G (.str x)) (hb : JV X σ b G (.str y)) : JO X σ .Eq a b G (.bl (decide (x = y))) := jo_of op_eq ha hb fun H Q q => ⟨rfl, by simpa using q⟩
theorem jo_neS (ha : JV X σ a G (.str x)) (hb : JV X σ b G (.str y)) : JO X σ .NotEq a b G (.bl (!decide (x = y))) := jo_of op_ne ha hb fun H Q q => ⟨rfl, by simpa using q⟩
theorem DxAll.ofStrs {G : Hp} : ∀ (ys : List Str), DxAll G (ys.map V.str) (ys.map eS)
  | [] => .nil
  | y :: ys => .cons (.str y) (DxAll.ofStrs ys)
theorem jv_join {ys : List Str} {ap : Pos} (ho : JV X σ o G (.str x)) (ha : JD X σ a G (.list (ys.map eS))) (hl : (ys.map (·.length)).sum + ys.length * x.length ≤ 16777216) (he : NoStar a) (hb : attributeBase o "join" X.env (eval o X.env) = eval o X.env) (hline : (ap.endLine == pos.line) = true) :
    JV X σ (.Call (.Attribute o "join" ap) [a] [] pos) G (.str (Txt.join x ys)) := ⟨fun H eh Q q =>
  ⟨_, pe_join pe_w pe_w (he _ _) hb hline, ho H eh _ fun H1 e1 => ⟨⟨_, rfl⟩, ha H1 (eh.trans e1) _ fun G2 H2 w s p => by
    cases p with
    | @lst b vs _ hb hd =>
      have e := hd.strs
      subst e
      exact ⟨x, b, ys, rfl, rfl, .inl (SqL.of (s.gh _ _ hb)), hl, q H2 (e1.trans s.h)⟩⟩⟩⟩
theorem jn_split {ap : Pos} (ho : JV X σ o G (.str x)) (ha : JV X σ a G (.str y)) (hy : (y.length == 0) = false) (hl : x.length + 2 ≤ sizeLine) (he : NoStar a) (hb : attributeBase o "split" X.env (eval o X.env) = eval o X.env) (hline : (ap.endLine == pos.line) = true) :
    JN X σ (.Call (.Attribute o "split" ap) [a] [] pos) G ((Txt.split x y).map eS) := ⟨fun H eh Q q =>
  ⟨_, pe_split pe_w pe_w (he _ _) hb hline, ho H eh _ fun H1 e1 => ⟨⟨_, rfl⟩, ha H1 (eh.trans e1) _ fun H2 e2 => ⟨x, y, rfl, rfl, hy, hl, fun p hp =>
    jn_new eh (.flat eh (e1.trans e2)) hp (DxAll.ofStrs _) q⟩⟩⟩⟩
/-- x[::-1] -/
theorem jn_rev {ds : List PyData} {k : Nat} {p1 p2 p3 : Pos} (ha : JD X σ a G (.list ds)) : JN X σ (.Subscript a (.Slice none none (some (.UnaryOp .USub (.Constant (.int 1) k p1) p2)) p3) pos) G ds.reverse := ⟨fun H eh Q q =>
  ⟨_, pe_revL pe_w, ha H eh _ fun G1 H1 w s p => by
    cases p with
    | @lst b vs _ hb hd => exact ⟨b, vs, rfl, SqL.of (s.gh _ _ hb), fun p hp => jn_new eh s hp (hd.rev) q⟩⟩⟩
end
section
variable {X : Cx} {σ : L2.St} {st : Stmt} {rest body orelse : List Stmt} {D : Ends} {H : Hp} {h₀ : ExceptHandler} {hs : List ExceptHandler} {pos : Pos}
/-- try: what raises nothing / else -/
theorem b_try (h : wSs X.nox body { D with nx := wSs X orelse { D with nx := wSs X rest D } } σ H) : wSs X (.Try body (h₀ :: hs) orelse [] pos :: rest) D σ H :=
  b_cons ⟨_, ps_try_thru pss_w pss_w, h⟩
end
end TP

set_option Elab.async false
set_option linter.all false
set_option maxRecDepth 100000
set_option maxHeartbeats 2000000
namespace TP
open PySem PySem.Spec PyProof.Rows L2
open Evl (Ex)
open PySem.W (EachIs)
/-! ### sorted(a list of data that are alike) -/
theorem each_dx {β : Type} {enc : β → PyData} {G : Hp} : ∀ {bs : List β} {xs : List V} {vs : List Value}, Vals xs vs → DxAll G xs (bs.map enc) → EachIs (fun v b => ∃ x, RelV x v ∧ Dx G x (enc b)) vs bs
  | [], _, _, r, h => by
    rw [List.map_nil] at h
    cases h
    cases r
    exact .nil
  | b :: bs, _, _, r, h => by
    rw [List.map_cons] at h
    cases h with
    | cons h1 h2 =>
      cases r with
      | cons r1 r2 => exact .cons ⟨_, r1, h1⟩ (each_dx r2 h2)
theorem dx_each {β : Type} {enc : β → PyData} {G : Hp} {bs : List β} {vs : List Value} (h : EachIs (fun v b => ∃ x, RelV x v ∧ Dx G x (enc b)) vs bs) : ∃ xs, Vals xs vs ∧ DxAll G xs (bs.map enc) := by
  induction h with
  | nil => exact ⟨[], .nil, .nil⟩
  | cons h1 h2 ih =>
    obtain ⟨x, r, d⟩ := h1
    obtain ⟨xs, rs, ds⟩ := ih
    exact ⟨x :: xs, .cons r rs, .cons d ds⟩
def rSortedD {β : Type} (enc : β → PyData) (bs : List β) : List V → Hp → VK → Prop := fun vs H Q => ∃ (a : Addr) (xs : List V) (G : Hp), vs = [.ref a] ∧ Ex G H ∧ H a = some (.lst xs) ∧ DxAll G xs (bs.map enc) ∧
  ∀ (p : Addr) (zs : List V), H p = none → DxAll G zs ((bs.mergeSort (PySem.W.dataLe false enc)).map enc) → Q (.ref p) (upd H p (.lst zs))
theorem cr_sortedD {X : Cx} {β : Type} {enc : β → PyData} {bs : List β} (hal : PySem.W.AllAlike (bs.map enc)) (hk : PySem.W.Sortable (bs.map enc)) (hu : X.A.units + 64 < cLine) (hd : ∀ b, b ∈ bs → (enc b).depth ≤ 60) : CallR X (.builtin "sorted") (rSortedD enc bs) := by
  intro pins s σ H vs us Q I r h
  obtain ⟨a, xs, G, rfl, eg, ha, dx, q⟩ := h
  obtain ⟨its, rv, pl, hz⟩ := I.list (SqL.of ha)
  rw [Vals.ref1 r]
  have hl : bs.length = xs.length := by rw [dx.length, List.length_map]
  have e := each_dx rv dx
  have er : EachIs (fun v b => ∃ as, PySem.Reads s.heap v (enc b) as) its bs := e.mono fun v b ⟨x, r, d⟩ => Dp.reads I _ _ _ (d.mono eg).dp r
  refine PySem.W.sorted_data pl.isList e er hal hk (by omega) (fun b hb => by have := hd b hb; omega) fun out hol eo => ?_
  obtain ⟨ep, he'⟩ := PyProof.Rows.sortedAll_at s.heap its out.toArray
  obtain ⟨zs, rz, dz⟩ := dx_each eo
  have hlen : zs.length ≤ sizeLine := by rw [rz.length, hol]; omega
  exact ⟨.ref _, upd H (s.heap.objs.size + 1) (.lst zs), I.laid (t' := s.toks) (fun _ _ => PyProof.Rows.sortedAll_old) (Nat.le_succ _) ⟨hlen, out, ep, rz, he'⟩, rfl, q _ zs (I.hok.fresh (Nat.le_succ _)) dz⟩
section
variable {X : Cx} {σ : L2.St} {e o a b c : Expr} {es : List Expr} {G : Hp} {pos : Pos} {x : Str} {D : Ends} {rest : List Stmt} {G0 H0 H : Hp} {os : List (Addr × HO)}
theorem boot_sorted : bootBuiltins "sorted" = some (.builtin "sorted") := by decide +kernel
/-- sorted(xs) -/
theorem jn_sorted {β : Type} {enc : β → PyData} {bs : List β} {p : Pos} (hm : X.mg "sorted" = none) (ha : JD X σ a G (.list (bs.map enc))) (hal : PySem.W.AllAlike (bs.map enc)) (hk : PySem.W.Sortable (bs.map enc)) (hu : X.A.units + 64 < cLine) (hd : ∀ b, b ∈ bs → (enc b).depth ≤ 60) (hg : Gl X "sorted") (he : NoStar a) :
    JN X σ (.Call (.Name "sorted" p) [a] [] pos) G ((bs.mergeSort (PySem.W.dataLe false enc)).map enc) := ⟨fun H eh Q q =>
  ⟨_, pe_callB (cr_sortedD hal hk hu hd) hg hm boot_sorted (pa_cons pe_w pa_nil (he _ _)) (he := he _ _), ha H eh _ fun G1 H1 x s1 p1 => by
    cases p1 with
    | lst h1 d1 => exact ⟨_, _, G1, rfl, s1.gh, s1.gh _ _ h1, d1, fun p zs hp dz => jn_new eh s1 hp dz q⟩⟩⟩
theorem alike_N (x y : Nat) : PySem.W.alike (eN x) (eN y) = true := by simp [PySem.W.alike]
theorem alike_P (x y : Nat × Nat) : PySem.W.alike (eP x) (eP y) = true := by simp [PySem.W.alike, PySem.W.alikeAll]
theorem alike_map {α : Type} {f : α → PyData} (h : ∀ x y, PySem.W.alike (f x) (f y) = true) : ∀ xs ys : List α, PySem.W.alikeAll (xs.map f) (ys.map f) = true
  | [], _ => by simp [PySem.W.alikeAll]
  | _ :: _, [] => by simp [PySem.W.alikeAll]
  | x :: xs, y :: ys => by
    rw [List.map_cons, List.map_cons, PySem.W.alikeAll, h x y, alike_map h xs ys]
    rfl
theorem alike_Ps (x y : List (Nat × Nat)) : PySem.W.alike (ePs x) (ePs y) = true := by
  rw [PySem.W.alike]
  exact alike_map alike_P x y
theorem jn_sortedN {ns : List Nat} {p : Pos} (hm : X.mg "sorted" = none) (ha : JD X σ a G (eNs ns)) (hu : X.A.units + 64 < cLine) (hg : Gl X "sorted") (he : NoStar a) :
    JN X σ (.Call (.Name "sorted" p) [a] [] pos) G ((ns.mergeSort (PySem.W.dataLe false eN)).map eN) :=
  jn_sorted hm ha (.of alike_N) (.others fun b => ⟨by simp, fun xs z => by cases z⟩) hu (fun b _ => Nat.le_trans (sh_N (n := 0) b).2 (by decide)) hg he
theorem jn_sortedPs {ns : List (List (Nat × Nat))} {p : Pos} (hm : X.mg "sorted" = none) (ha : JD X σ a G (ePss ns)) (hu : X.A.units + 64 < cLine) (hg : Gl X "sorted") (he : NoStar a) :
    JN X σ (.Call (.Name "sorted" p) [a] [] pos) G ((ns.mergeSort (PySem.W.dataLe false ePs)).map ePs) :=
  jn_sorted hm ha (.of alike_Ps) (.others fun b => ⟨by simp, fun xs z => by cases z⟩) hu (fun b _ => Nat.le_trans (sh_Ps b).2 (by decide)) hg he
/-! ### in a pair -/
theorem dxN {v : V} {n : Nat} (h : Dx G v (eN n)) : v = .int (n : Int) := h.int_inv
theorem jo_inP {n : Nat} {p : Nat × Nat} (ha : JV X σ a G (.int (n : Int))) (hb : JD X σ b G (eP p)) : JO X σ .In a b G (.bl (decide (n = p.1) || decide (n = p.2))) := ⟨_, op_in_seq, fun H eh Q q =>
  ha H eh _ fun H1 e1 => hb H1 (eh.trans e1) _ fun G2 H2 y s2 p2 => by
    cases p2 with
    | tup h1 d1 =>
      cases d1 with
      | cons a1 d1 =>
        cases d1 with
        | cons a2 d1 =>
          cases d1
          cases a1.int_inv
          cases a2.int_inv
          refine ⟨_, _, rfl, .inr (SqT.of (s2.gh _ _ h1)), rfl, rfl, ?_⟩
          have e : inV (V.int (n : Int)) [V.int (p.1 : Int), V.int (p.2 : Int)] = (decide (n = p.1) || decide (n = p.2)) := by
            simp only [inV, List.any_cons, List.any_nil, Bool.or_false, eqV]
            congr 1
            · by_cases z : n = p.1
              · subst z; simp
              · rw [decide_eq_false z]; exact beq_eq_false_iff_ne.mpr (fun q => z (by omega))
            · by_cases z : n = p.2
              · subst z; simp
              · rw [decide_eq_false z]; exact beq_eq_false_iff_ne.mpr (fun q => z (by omega))
          simp only [Bool.false_eq_true, if_false]
          rw [e]
          exact q H2 (e1.trans s2.h)⟩
/-! ### dicts of numbers -/
/-- at v: a dict that holds, at each number, what f says -/
def DictAt (H : Hp) (v : V) (f : Nat → Option Nat) : Prop := ∃ a kvs, v = .ref a ∧ H a = some (.dK kvs) ∧ ∀ x : Nat, valV kvs (Sum.inl (x : Int)) = (f x).map fun y => V.int (y : Int)
theorem DictAt.mono {H H' : Hp} {v : V} {f : Nat → Option Nat} (e : Ex H H') (h : DictAt H v f) : DictAt H' v f := let ⟨a, kvs, h1, h2, h3⟩ := h; ⟨a, kvs, h1, e _ _ h2, h3⟩
theorem valV_put {kvs : List (Key × V)} {k k' : Key} {v : V} : valV (putK kvs k v) k' = if k = k' then some v else valV kvs k' := by
  unfold putK
  split
  · rename_i hb
    induction kvs with
    | nil => simp at hb
    | cons p r ih =>
      rw [List.map_cons]
      by_cases e : p.1 = k
      · rw [if_pos e]
        by_cases e2 : k = k'
        · rw [if_pos e2, valV_pos (by rw [← e2]; exact e)]
        · rw [if_neg e2]
          have e3 : ¬ p.1 = k' := fun z => e2 (e.symm.trans z)
          rw [valV_neg (p := (p.1, v)) e3, valV_neg e3]
          by_cases hr : (r.any fun kv => decide (kv.1 = k)) = true
          · rw [ih hr, if_neg e2]
          · have : r.map (fun kv => if kv.1 = k then (kv.1, v) else kv) = r := by
              refine (List.map_congr_left fun x hx => ?_).trans (List.map_id r)
              rw [if_neg (fun z => hr (List.any_eq_true.mpr ⟨x, hx, decide_eq_true z⟩))]
              rfl
            rw [this]
      · rw [if_neg e]
        have hr : (r.any fun kv => decide (kv.1 = k)) = true := by
          rw [List.any_cons, decide_eq_false e, Bool.false_or] at hb
          exact hb
        by_cases e3 : p.1 = k'
        · rw [valV_pos e3, valV_pos e3, if_neg (fun z => e (e3.trans z.symm))]
        · rw [valV_neg e3, valV_neg e3, ih hr]
  · rename_i hb
    unfold valV
    rw [List.find?_append]
    by_cases e : k = k'
    · subst e
      rw [if_pos rfl]
      have : kvs.find? (fun kv => decide (kv.1 = k)) = none := by
        rw [List.find?_eq_none]
        intro x hx z
        exact hb (List.any_eq_true.mpr ⟨x, hx, z⟩)
      rw [this]
      simp
    · rw [if_neg e]
      simp [e]
/-- x = {} -/
theorem b_setDict {n : Nat} {p q r : Pos} (h : Hs G0 H0 G H os) (hN : X.N.Nodup) (hi : X.N[n]? = some x) (hx : Loc X.env.scope x) (hs : swapsWith (.Dict [] [] r) (some (.Name x p)) q.line X.env = pure false) (hf : X.fn x = true ∨ X.env.scope.names.lookup x = some .local)
    (k : ∀ H' a, Hs G0 H0 G H' ((a, .dK []) :: os) → wSs X rest D (σ.set n (some (.ref a))) H') : wSs X (.Assign [.Name x p] (.Dict [] [] r) q :: rest) D σ H :=
  b_cons ⟨_, ps_set hN hi hx pe_dnewK hs hf, fun a ha => k _ a (h.new ha)⟩
/-- x[i] = e, x one's own dict -/
theorem b_putDict {n m y : Nat} {p q r : Pos} {l : Addr} {kvs : List (Key × V)} (hu : X.A.units + 1 < cLine) (h : Hs G0 H0 G H ((l, .dK kvs) :: os)) (he : JV X σ e G (.int (y : Int))) (hs : σ[n]? = some (some (.ref l))) (hN : X.N[n]? = some x) (hv : Vis X.env.scope x) (hi : JV X σ a G (.int (m : Int))) (hm : kvs.length < 100000)
    (hd : (x == ("__debug__" : Str)) = false) (hcd : (x == ("__classdict__" : Str)) = false)
    (hsw : swapsWithSole [.Subscript (.Name x p) a q] e r.line X.env = pure false) (hw : swappedStores [.Subscript (.Name x p) a q] e X.env = pure none) (h1 : (assignEach [.Subscript (.Name x p) a q] X.env).map (·.2) = [assign (.Subscript (.Name x p) a q) X.env])
    (hpl : PG X (.Subscript (.Name x p) a q) (gSub (wE X (.Name x p)) (wE X a) rSetD))
    (k : ∀ H', Hs G0 H0 G H' ((l, .dK (putK kvs (Sum.inl (m : Int)) (.int (y : Int)))) :: os) → wSs X rest D σ H') : wSs X (.Assign [.Subscript (.Name x p) a q] e r :: rest) D σ H :=
  b_asgW hsw hw h1 (he H h.ex _ fun H1 e1 => ⟨_, hpl, by
    have g1 := h.flat e1
    refine we_var hs hN hv hd hcd ?_
    refine hi H1 g1.ex _ fun H2 e2 => ?_
    have g2 := g1.flat e2
    exact (show ∃ a H', V.ref l = .ref a ∧ DPut H2 a (V.int (m : Int)) (V.int (y : Int)) H' ∧ wSs X rest D σ H' from ⟨l, _, rfl, DPut.k (k := Sum.inl (m : Int)) g2.at0 (Evl.sz_lt hm), k _ g2.put0⟩)⟩)
/-- d[i] -/
theorem jv_ixDict {f : Nat → Option Nat} {m y : Nat} {v : V} (hu : X.A.units + 1 < cLine) (ha : JV X σ a G v) (hd : DictAt G v f) (hb : JV X σ b G (.int (m : Int))) (hf : f m = some y) (hs : NoSl b) : JV X σ (.Subscript a b pos) G (.int (y : Int)) := ⟨fun H eh Q q => by
  obtain ⟨l, kvs, rfl, h1, h2⟩ := hd
  refine ⟨_, pe_dget hu pe_w pe_w hs, ha H eh _ fun H1 e1 => hb H1 (eh.trans e1) _ fun H2 e2 => ⟨l, _, rfl, ?_, q H2 (e1.trans e2)⟩⟩
  have := DGet.k (k := Sum.inl (m : Int)) (((eh.trans e1).trans e2) _ _ h1)
  rw [h2, hf] at this
  exact this⟩
end
end TP

set_option Elab.async false
set_option linter.all false
set_option maxRecDepth 100000
set_option maxHeartbeats 2000000
namespace TP
open PySem PySem.Spec PyProof.Rows L2
open Evl (Ex)
/-! ### what is new, with parts that are fixed: F what is new, G' what is fixed -/
structure JPH (X : Cx) (σ : L2.St) (e : Expr) (G : Hp) (P : Hp → Hp → V → Prop) : Prop where
  run : ∀ H, Ex G H → ∀ Q : VK, (∀ G' H' v F, Stp G H G' H' → Ex F G' → (∀ a, F a ≠ none → H a = none) → P F G' v → Q v H') → wE X e σ H Q
def spOfH {ι : Type} (pre : ι → Prop) (Ps : ι → List (Hp → V → Prop)) (R : ι → Hp → Hp → V → Prop) : Sp := fun vs H Q _ =>
  ∃ i G, Ex G H ∧ pre i ∧ Al G (Ps i) vs ∧ ∀ G' H' v F, Stp G H G' H' → Ex F G' → (∀ a, F a ≠ none → H a = none) → R i F G' v → Q v H'
section
variable {P : Program} {w : World} {K : PySem.W.Frag} {mg : Str → Option Value} {base : Heap}
theorem fun_okH {ι : Type} {pre : ι → Prop} {Ps : ι → List (Hp → V → Prop)} {R : ι → Hp → Hp → V → Prop} {x qual : Str} {st : Stmt} {f : Addr} {fd : FuncData} {N ps : List Str} {k : Nat} (F : Fun K x qual st f fd) (S : FnScope N ps (defScope st)) (hl : ∀ i, (Ps i).length = ps.length)
    (hb : ∀ (cdv : Value) (A : Around) (outer : List Env) (s : Shared) (H : Hp) (vs : List V) (Q : VK) (E : XK) (i : ι) (G : Hp), Room k (A.deeper (envOfC qual (defScope st) s.heap.objs.size f cdv)) → pre i → Al G (Ps i) vs → Hs G H G H [] →
      (∀ G' H' v F, Stp G H G' H' → Ex F G' → (∀ a, F a ≠ none → H a = none) → R i F G' v → Q v H') →
      wSs (cxOf CX0 P w K mg base N qual (defScope st) f cdv A outer s H E).nox (defBody st) { nx := fun _ H' => Q .non H', rt := Q } (start N vs) H) : FnOk P w K mg base CX0 (k + 1) f fd ps (spOfH pre Ps R) := by
  refine F.ok S (fun vs H Q E ⟨i, G, _, _, al, _⟩ => al.length.trans (hl i)) fun cdv A outer s H vs Q E hr ⟨i, G, eh, hp, al, k⟩ => ?_
  exact hb cdv A outer s H vs Q E i G hr hp al (.nil eh) k
end
section
variable {X : Cx} {σ : L2.St} {e o a b c : Expr} {es : List Expr} {G G0 H0 H : Hp} {pos : Pos} {x : Str} {k : Nat} {ι : Type} {pre : ι → Prop} {Ps : ι → List (Hp → V → Prop)} {rest : List Stmt} {D : Ends} {os : List (Addr × HO)} {P0 : Hp → V → Prop} {PP : Hp → Hp → V → Prop}
theorem jh_call {R : ι → Hp → Hp → V → Prop} {p : Pos} (F : Df X.prog X.w X.K X.mg X.base x k (spOfH pre Ps R)) (hr : Room k X.A) (hg : Gl X x) (i : ι) (hp : pre i) (ha : JA X σ (e :: es) G (fun G vs => Al G (Ps i) vs)) (hs : NoStar e) (hdb : (x == ("__debug__" : Str)) = false)
    (hpl : (backTo pos (starEach es X.env)).any (·.1) = false) : JPH X σ (.Call (.Name x p) (e :: es) [] pos) G (R i) := ⟨fun H eh Q q => by
  obtain ⟨f, fd, ps, hf, hm, hk, hb⟩ := F
  refine ⟨_, pe_call hf hr hg hm hk hb .nil pass0 pa_w hdb (hs _ _) hpl, ha H eh _ fun G1 H1 vs s1 al => ?_⟩
  rw [List.append_nil]
  exact ⟨i, G1, s1.gh, hp, al, fun G2 H2 v F s2 eF fr r => q G2 H2 v F (s1.trans s2) eF (fun a ha => Evl.fresh_back s1.h (fr a ha)) r⟩⟩
/-- a new instance, of one argument: what it holds is told by what the argument is found to be -/
theorem jh_make1 {R : ι → Hp → List (Str × V) → Prop} {C : Addr} {p : Pos} (F : Mkr X.prog X.w X.K X.mg X.base C k (spMk C pre Ps R)) (hr : Room (k + 1) X.A) (hg : Gl X x) (hm : X.mg x = some (.ref C)) (ha : JP X σ e G P0) (hs : NoStar e) (hdb : (x == ("__debug__" : Str)) = false) (hpl : (backTo pos (starEach [] X.env)).any (·.1) = false)
    (hi : ∀ G1 u, Ex G G1 → P0 G1 u → ∃ i, pre i ∧ Al G1 (Ps i) [u] ∧ ∀ F F' G' a dx fs, Ex G1 G' → Ex F F' → R i F fs → F' a = some (.ins C dx fs) → PP F' G' (.ref a)) :
    JPH X σ (.Call (.Name x p) [e] [] pos) G PP := ⟨fun H eh Q q => by
  obtain ⟨f, fd, ps, hf, mk, hb⟩ := F
  refine ⟨_, pe_make mk hf hr hg hm hb .nil pass0 (pa_cons pe_w pa_nil (hs _ _)) hdb (hs _ _) hpl, ha H eh _ fun G1 H1 u s1 pu xx dx hx hdx ne => ?_⟩
  rw [List.append_nil]
  obtain ⟨i, hp, al, hR⟩ := hi G1 u s1.g pu
  refine ⟨i, G1, H1, xx, dx, [u], rfl, made_hs s1.gh hx hdx ne, hp, al, fun G' H' fs F h2 eF fr r => ⟨rfl, ?_⟩⟩
  obtain ⟨hf2, e2⟩ := h2.fix
  have o0 := h2.own _ List.mem_cons_self
  have FD : F xx = none := by
    cases z : F xx with
    | none => rfl
    | some o =>
      have := eF xx o z
      rw [o0.1] at this
      cases this
  refine q (upd G' xx (.ins C dx fs)) H' _ (upd F xx (.ins C dx fs)) (s1.trans hf2.st) (fun b o e => ?_) (fun b hb => ?_) (hR F _ _ xx dx fs (h2.st.g.trans e2) (Ex.new FD) r upd_same)
  · by_cases z : b = xx
    · subst z; rw [upd_same] at e ⊢; exact e
    · rw [upd_ne z] at e ⊢; exact eF b o e
  · by_cases z : b = xx
    · subst z; exact Evl.fresh_back s1.h hx
    · rw [upd_ne z] at hb; exact Evl.fresh_back s1.h (fr b hb)⟩
theorem b_retH {q : Pos} (h : Hs G0 H0 G H os) (he : JPH X σ e G PP) (k : ∀ G' H' v F, Stp G H G' H' → Ex F G' → (∀ a, F a ≠ none → H a = none) → PP F G' v → D.rt v H') : wSs X (.Return (some e) q :: rest) D σ H :=
  b_cons ⟨_, ps_ret pe_w, he.run H h.ex _ k⟩
/-- x = e -/
theorem b_setH {Ge : Hp} {n : Nat} {p q : Pos} (h : Hs G0 H0 G H os) (eg : Ex Ge H) (he : JPH X σ e Ge PP) (hN : X.N.Nodup) (hi : X.N[n]? = some x) (hx : Loc X.env.scope x) (hs : swapsWith e (some (.Name x p)) q.line X.env = pure false) (hf : X.fn x = true ∨ X.env.scope.names.lookup x = some .local)
    (k : ∀ G' H' v F, Stp Ge H G' H' → Ex F G' → (∀ a, F a ≠ none → H a = none) → PP F G' v → wSs X rest D (σ.set n (some v)) H') : wSs X (.Assign [.Name x p] e q :: rest) D σ H :=
  b_setW hN hi hx hs hf (he.run H eg _ fun G1 H1 v F s eF fr pv => k G1 H1 v F s eF fr pv)
/-- list(xs), xs a list of values -/
theorem jf_listV {vs : List V} {p : Pos} (hm : X.mg "list" = none) (ha : JP X σ a G (fun G v => ∃ l, v = .ref l ∧ G l = some (.lst vs))) (hg : Gl X "list") (hb : bootBuiltins "list" = some (.type "list")) (he : NoStar a) : JPF X σ (.Call (.Name "list" p) [a] [] pos) G (fun F v => ∃ l, v = .ref l ∧ F l = some (.lst vs)) := ⟨fun H eh Q q =>
  ⟨_, pe_callTy call_list_of hg hm hb (pa_cons pe_w pa_nil (he _ _)) (he := he _ _), ha.run H eh _ fun G1 H1 x s1 ⟨l, ex, hl⟩ => by
    subst ex
    refine ⟨l, vs, rfl, .inl (SqL.of (s1.gh _ _ hl)), fun q1 hn => ?_⟩
    refine q (upd G1 q1 (.lst vs)) _ _ (fun b => if b = q1 then some (HO.lst vs) else none) (s1.trans (Stp.new s1.gh hn)) (fun b o e => ?_) (fun b hb => ?_) ⟨q1, rfl, by simp⟩
    · by_cases z : b = q1
      · subst z; simp at e; subst e; exact upd_same
      · simp [z] at e
    · by_cases z : b = q1
      · subst z; exact Evl.fresh_back s1.h hn
      · simp [z] at hb⟩⟩
end
end TP

set_option Elab.async false
set_option linter.all false
set_option maxRecDepth 100000
set_option maxHeartbeats 2000000
namespace TP
open PySem PySem.Spec PyProof.Rows L2
open Evl (Ex)
def top (i : Nat) : Stmt := PySem.Challenge.pw_tentpairs_k06_texts_misread.main.body.getD i (.Pass ⟨0, 0, 0, 0⟩)
abbrev s__wall : Stmt := top 0
abbrev n__wall : List Str := ["k"]
theorem sc__wall : FnScope n__wall ["k"] (defScope s__wall) := ⟨rfl, rfl, rfl, by decide +kernel, rfl, by decide +kernel, by decide +kernel⟩
-- slots of _wall: 0 k
abbrev s_NoneSteady___init__ : Stmt := inClass (top 6) 0
abbrev n_NoneSteady___init__ : List Str := ["self", "rings"]
theorem sc_NoneSteady___init__ : FnScope n_NoneSteady___init__ ["self", "rings"] (defScope s_NoneSteady___init__) := ⟨rfl, rfl, rfl, by decide +kernel, rfl, by decide +kernel, by decide +kernel⟩
-- slots of NoneSteady___init__: 0 self 1 rings
abbrev s_BadText___init__ : Stmt := inClass (top 7) 0
abbrev n_BadText___init__ : List Str := ["self", "row"]
theorem sc_BadText___init__ : FnScope n_BadText___init__ ["self", "row"] (defScope s_BadText___init__) := ⟨rfl, rfl, rfl, by decide +kernel, rfl, by decide +kernel, by decide +kernel⟩
-- slots of BadText___init__: 0 self 1 row
abbrev s_within : Stmt := top 10
abbrev n_within : List Str := ["number", "low", "high"]
theorem sc_within : FnScope n_within ["number", "low", "high"] (defScope s_within) := ⟨rfl, rfl, rfl, by decide +kernel, rfl, by decide +kernel, by decide +kernel⟩
-- slots of within: 0 number 1 low 2 high
abbrev s_Camp___init__ : Stmt := inClass (top 11) 0
abbrev n_Camp___init__ : List Str := ["self", "lists", "camper", "told", "one"]
theorem sc_Camp___init__ : FnScope n_Camp___init__ ["self", "lists"] (defScope s_Camp___init__) := ⟨rfl, rfl, rfl, by decide +kernel, rfl, by decide +kernel, by decide +kernel⟩
-- slots of Camp___init__: 0 self 1 lists 2 camper 3 told 4 one
abbrev s_Camp_lists : Stmt := inClass (top 11) 1
abbrev n_Camp_lists : List Str := ["self", "one"]
theorem sc_Camp_lists : FnScope n_Camp_lists ["self"] (defScope s_Camp_lists) := ⟨rfl, rfl, rfl, by decide +kernel, rfl, by decide +kernel, by decide +kernel⟩
-- slots of Camp_lists: 0 self 1 one
abbrev s_Camp_camper : Stmt := inClass (top 11) 2
abbrev n_Camp_camper : List Str := ["self", "at"]
theorem sc_Camp_camper : FnScope n_Camp_camper ["self", "at"] (defScope s_Camp_camper) := ⟨rfl, rfl, rfl, by decide +kernel, rfl, by decide +kernel, by decide +kernel⟩
-- slots of Camp_camper: 0 self 1 at
abbrev s_Camp_would : Stmt := inClass (top 11) 3
abbrev n_Camp_would : List Str := ["self", "one", "other"]
theorem sc_Camp_would : FnScope n_Camp_would ["self", "one", "other"] (defScope s_Camp_would) := ⟨rfl, rfl, rfl, by decide +kernel, rfl, by decide +kernel, by decide +kernel⟩
-- slots of Camp_would: 0 self 1 one 2 other
abbrev s_Camp_rather : Stmt := inClass (top 11) 4
abbrev n_Camp_rather : List Str := ["self", "camper", "one", "other"]
theorem sc_Camp_rather : FnScope n_Camp_rather ["self", "camper", "one", "other"] (defScope s_Camp_rather) := ⟨rfl, rfl, rfl, by decide +kernel, rfl, by decide +kernel, by decide +kernel⟩
-- slots of Camp_rather: 0 self 1 camper 2 one 3 other
abbrev s_written : Stmt := top 14
abbrev n_written : List Str := ["camp", "rows", "camper", "other"]
theorem sc_written : FnScope n_written ["camp"] (defScope s_written) := ⟨rfl, rfl, rfl, by decide +kernel, rfl, by decide +kernel, by decide +kernel⟩
-- slots of written: 0 camp 1 rows 2 camper 3 other
abbrev s_list_in : Stmt := top 15
abbrev n_list_in : List Str := ["row", "camper", "words", "word", "found"]
theorem sc_list_in : FnScope n_list_in ["row", "camper"] (defScope s_list_in) := ⟨rfl, rfl, rfl, by decide +kernel, rfl, by decide +kernel, by decide +kernel⟩
-- slots of list_in: 0 row 1 camper 2 words 3 word 4 found
abbrev s_read : Stmt := top 16
abbrev n_read : List Str := ["text", "rows", "lists", "camper", "told", "camp"]
theorem sc_read : FnScope n_read ["text"] (defScope s_read) := ⟨rfl, rfl, rfl, by decide +kernel, rfl, by decide +kernel, by decide +kernel⟩
-- slots of read: 0 text 1 rows 2 lists 3 camper 4 told 5 camp
abbrev s_L_cell_at : Stmt := top 18
abbrev n_L_cell_at : List Str := ["_law_script", "_law_k"]
theorem sc_L_cell_at : FnScope n_L_cell_at ["_law_script", "_law_k"] (defScope s_L_cell_at) := ⟨rfl, rfl, rfl, by decide +kernel, rfl, by decide +kernel, by decide +kernel⟩
-- slots of L_cell_at: 0 _law_script 1 _law_k
abbrev s_L_draw : Stmt := top 19
abbrev n_L_draw : List Str := ["_law_cell", "_law_k", "_law_many", "_law_primes", "_law_blend"]
theorem sc_L_draw : FnScope n_L_draw ["_law_cell", "_law_k", "_law_many"] (defScope s_L_draw) := ⟨rfl, rfl, rfl, by decide +kernel, rfl, by decide +kernel, by decide +kernel⟩
-- slots of L_draw: 0 _law_cell 1 _law_k 2 _law_many 3 _law_primes 4 _law_blend
abbrev s_L_lists : Stmt := top 20
abbrev n_L_lists : List Str := ["_law_script", "_law_first", "_law_cell", "_law_other_here", "_law_many", "_law_kind", "_law_lists_here", "_law_camper", "_law_left", "_law_one", "_law_told", "_law_ring", "_law_first_two", "_law_shift", "_law_turned"]
theorem sc_L_lists : FnScope n_L_lists ["_law_script", "_law_first"] (defScope s_L_lists) := ⟨rfl, rfl, rfl, by decide +kernel, rfl, by decide +kernel, by decide +kernel⟩
-- slots of L_lists: 0 _law_script 1 _law_first 2 _law_cell 3 _law_other_here 4 _law_many 5 _law_kind 6 _law_lists_here 7 _law_camper 8 _law_left 9 _law_one 10 _law_told 11 _law_ring 12 _law_first_two 13 _law_shift 14 _law_turned
abbrev s_L_would : Stmt := top 21
abbrev n_L_would : List Str := ["_law_lists_here", "_law_one", "_law_other_here"]
theorem sc_L_would : FnScope n_L_would ["_law_lists_here", "_law_one", "_law_other_here"] (defScope s_L_would) := ⟨rfl, rfl, rfl, by decide +kernel, rfl, by decide +kernel, by decide +kernel⟩
-- slots of L_would: 0 _law_lists_here 1 _law_one 2 _law_other_here
abbrev s_L_rather : Stmt := top 22
abbrev n_L_rather : List Str := ["_law_lists_here", "_law_camper", "_law_one", "_law_other_here"]
theorem sc_L_rather : FnScope n_L_rather ["_law_lists_here", "_law_camper", "_law_one", "_law_other_here"] (defScope s_L_rather) := ⟨rfl, rfl, rfl, by decide +kernel, rfl, by decide +kernel, by decide +kernel⟩
-- slots of L_rather: 0 _law_lists_here 1 _law_camper 2 _law_one 3 _law_other_here
abbrev s_L_open : Stmt := top 23
abbrev n_L_open : List Str := ["_law_lists_here", "_law_found", "_law_one", "_law_other_here"]
theorem sc_L_open : FnScope n_L_open ["_law_lists_here"] (defScope s_L_open) := ⟨rfl, rfl, rfl, by decide +kernel, rfl, by decide +kernel, by decide +kernel⟩
-- slots of L_open: 0 _law_lists_here 1 _law_found 2 _law_one 3 _law_other_here
abbrev s_L_broken : Stmt := top 24
abbrev n_L_broken : List Str := ["_law_lists_here", "_law_have_here", "_law_found", "_law_one", "_law_other_here", "_law_first"]
theorem sc_L_broken : FnScope n_L_broken ["_law_lists_here", "_law_have_here"] (defScope s_L_broken) := ⟨rfl, rfl, rfl, by decide +kernel, rfl, by decide +kernel, by decide +kernel⟩
-- slots of L_broken: 0 _law_lists_here 1 _law_have_here 2 _law_found 3 _law_one 4 _law_other_here 5 _law_first
abbrev s_L_have : Stmt := top 25
abbrev n_L_have : List Str := ["_law_lists_here", "_law_pairs", "_law_have_here", "_law_one", "_law_other_here", "_law_alike"]
theorem sc_L_have : FnScope n_L_have ["_law_lists_here", "_law_pairs"] (defScope s_L_have) := ⟨rfl, rfl, rfl, by decide +kernel, rfl, by decide +kernel, by decide +kernel⟩
-- slots of L_have: 0 _law_lists_here 1 _law_pairs 2 _law_have_here 3 _law_one 4 _law_other_here 5 _law_alike
abbrev s_L_steady : Stmt := top 26
abbrev n_L_steady : List Str := ["_law_lists_here", "_law_pairs", "_law_have_here"]
theorem sc_L_steady : FnScope n_L_steady ["_law_lists_here", "_law_pairs"] (defScope s_L_steady) := ⟨rfl, rfl, rfl, by decide +kernel, rfl, by decide +kernel, by decide +kernel⟩
-- slots of L_steady: 0 _law_lists_here 1 _law_pairs 2 _law_have_here
abbrev s_L_good : Stmt := top 27
abbrev n_L_good : List Str := ["_law_lists_here", "_law_rings", "_law_every", "_law_ring", "_law_odd", "_law_last", "_law_k", "_law_here"]
theorem sc_L_good : FnScope n_L_good ["_law_lists_here", "_law_rings"] (defScope s_L_good) := ⟨rfl, rfl, rfl, by decide +kernel, rfl, by decide +kernel, by decide +kernel⟩
-- slots of L_good: 0 _law_lists_here 1 _law_rings 2 _law_every 3 _law_ring 4 _law_odd 5 _law_last 6 _law_k 7 _law_here
abbrev s_L_refused : Stmt := top 28
abbrev n_L_refused : List Str := ["_law_text", "error", "_law_others"]
theorem sc_L_refused : FnScope n_L_refused ["_law_text"] (defScope s_L_refused) := ⟨rfl, rfl, rfl, by decide +kernel, rfl, by decide +kernel, by decide +kernel⟩
-- slots of L_refused: 0 _law_text 1 error 2 _law_others
abbrev s_L_row_in : Stmt := top 29
abbrev n_L_row_in : List Str := ["_law_row", "_law_camper", "_law_found", "_law_k"]
theorem sc_L_row_in : FnScope n_L_row_in ["_law_row", "_law_camper"] (defScope s_L_row_in) := ⟨rfl, rfl, rfl, by decide +kernel, rfl, by decide +kernel, by decide +kernel⟩
-- slots of L_row_in: 0 _law_row 1 _law_camper 2 _law_found 3 _law_k
abbrev s_L_due : Stmt := top 30
abbrev n_L_due : List Str := ["_law_text", "_law_rows", "_law_greatest", "_law_camper", "_law_found"]
theorem sc_L_due : FnScope n_L_due ["_law_text"] (defScope s_L_due) := ⟨rfl, rfl, rfl, by decide +kernel, rfl, by decide +kernel, by decide +kernel⟩
-- slots of L_due: 0 _law_text 1 _law_rows 2 _law_greatest 3 _law_camper 4 _law_found
abbrev s_L_right : Stmt := top 31
abbrev n_L_right : List Str := ["_law_text", "_law_due_here"]
theorem sc_L_right : FnScope n_L_right ["_law_text"] (defScope s_L_right) := ⟨rfl, rfl, rfl, by decide +kernel, rfl, by decide +kernel, by decide +kernel⟩
-- slots of L_right: 0 _law_text 1 _law_due_here
abbrev s_L_other : Stmt := top 32
abbrev n_L_other : List Str := ["_law_text", "_law_cell", "_law_k", "_law_at", "_law_sign", "_law_way"]
theorem sc_L_other : FnScope n_L_other ["_law_text", "_law_cell", "_law_k"] (defScope s_L_other) := ⟨rfl, rfl, rfl, by decide +kernel, rfl, by decide +kernel, by decide +kernel⟩
-- slots of L_other: 0 _law_text 1 _law_cell 2 _law_k 3 _law_at 4 _law_sign 5 _law_way
abbrev s_law : Stmt := top 33
abbrev n_law : List Str := ["_law_script", "_law_text", "_law_cell", "_law_few", "_law_other_here", "_law_k", "_law_thing"]
theorem sc_law : FnScope n_law ["_law_script"] (defScope s_law) := ⟨rfl, rfl, rfl, by decide +kernel, rfl, by decide +kernel, by decide +kernel⟩
-- slots of law: 0 _law_script 1 _law_text 2 _law_cell 3 _law_few 4 _law_other_here 5 _law_k 6 _law_thing
end TP

set_option Elab.async false
set_option linter.all false
set_option maxRecDepth 100000
set_option maxHeartbeats 2000000
namespace TP
open PySem PySem.Spec PyProof.Rows L2
open Evl (Ex)
/-! ### defs that raise -/
def DfX (P : Program) (w : World) (K : PySem.W.Frag) (mg : Str → Option Value) (base : Heap) (x : Str) (k : Nat) (sp : Sp) : Prop :=
  ∃ f fd ps, FnOk P w K mg base (L2.CX P w) k f fd ps sp ∧ mg x = some (.ref f) ∧ PySem.W.keepIn K (.ref f) = true ∧ Binds K fd ps []
def MtX (P : Program) (w : World) (K : PySem.W.Frag) (mg : Str → Option Value) (base : Heap) (C : Addr) (m : Str) (k : Nat) (sp : Sp) : Prop :=
  ∃ f fd ps, FnOk P w K mg base (L2.CX P w) k f fd ps sp ∧ Meth K C m f ∧ Binds K fd ps []
def MkrX (P : Program) (w : World) (K : PySem.W.Frag) (mg : Str → Option Value) (base : Heap) (C : Addr) (k : Nat) (sp : Sp) : Prop :=
  ∃ f fd ps, FnOk P w K mg base (L2.CX P w) k f fd ps sp ∧ Mk K C f ∧ Binds K fd ps []
/-- an exception's own dict: none, or one that stands -/
def Dct (n : Bool) (H : Hp) (d : Option Addr) : Prop := if n = true then ∃ dd fs, d = some dd ∧ H dd = some (.xd fs) else d = none
/-- it raises: the class at c, with a dict or without -/
def spR {ι : Type} (pre : ι → Prop) (Ps : ι → List (Hp → V → Prop)) (c : Addr) (n : Bool) : Sp := fun vs H _ E =>
  ∃ i G, Ex G H ∧ pre i ∧ Al G (Ps i) vs ∧ ∀ H' d, Ex H H' → Dct n H' d → E (.ref c) d H'
/-- an __init__ that raises -/
def spRI {ι : Type} (C : Addr) (pre : ι → Prop) (Ps : ι → List (Hp → V → Prop)) (c : Addr) (n : Bool) : Sp := fun vs H _ E =>
  ∃ i G H0 x dx us, vs = .ref x :: us ∧ Hs G H0 G H [(x, .ins C dx []), (dx, .own x)] ∧ pre i ∧ Al G (Ps i) us ∧ ∀ H' d, Ex H0 H' → Dct n H' d → E (.ref c) d H'
section
variable {P : Program} {w : World} {K : PySem.W.Frag} {mg : Str → Option Value} {base : Heap}
theorem fun_okR {ι : Type} {pre : ι → Prop} {Ps : ι → List (Hp → V → Prop)} {c : Addr} {n : Bool} {x qual : Str} {st : Stmt} {f : Addr} {fd : FuncData} {N ps : List Str} {k : Nat} (F : Fun K x qual st f fd) (S : FnScope N ps (defScope st)) (hl : ∀ i, (Ps i).length = ps.length)
    (hb : ∀ (cdv : Value) (A : Around) (outer : List Env) (s : Shared) (H : Hp) (vs : List V) (Q : VK) (E : XK) (i : ι) (G : Hp), Room k (A.deeper (envOfC qual (defScope st) s.heap.objs.size f cdv)) → pre i → Al G (Ps i) vs → Hs G H G H [] →
      (∀ H' d, Ex H H' → Dct n H' d → E (.ref c) d H') →
      wSs (cxOf (L2.CX P w) P w K mg base N qual (defScope st) f cdv A outer s H E) (defBody st) { nx := fun _ H' => Q .non H', rt := Q } (start N vs) H) : FnOk P w K mg base (L2.CX P w) (k + 1) f fd ps (spR pre Ps c n) := by
  refine F.okX S (fun vs H Q E ⟨i, G, _, _, al, _⟩ => al.length.trans (hl i)) fun cdv A outer s H vs Q E hr ⟨i, G, eh, hp, al, k⟩ => ?_
  exact hb cdv A outer s H vs Q E i G hr hp al (.nil eh) k
theorem fun_okRI {ι : Type} {C : Addr} {pre : ι → Prop} {Ps : ι → List (Hp → V → Prop)} {c : Addr} {n : Bool} {x qual : Str} {st : Stmt} {f : Addr} {fd : FuncData} {N ps : List Str} {k : Nat} (F : Fun K x qual st f fd) (S : FnScope N ps (defScope st)) (hl : ∀ i, (Ps i).length + 1 = ps.length)
    (hb : ∀ (cdv : Value) (A : Around) (outer : List Env) (s : Shared) (H : Hp) (us : List V) (Q : VK) (E : XK) (i : ι) (G H0 : Hp) (x dx : Addr), Room k (A.deeper (envOfC qual (defScope st) s.heap.objs.size f cdv)) → pre i → Al G (Ps i) us → Hs G H0 G H [(x, .ins C dx []), (dx, .own x)] →
      (∀ H' d, Ex H0 H' → Dct n H' d → E (.ref c) d H') →
      wSs (cxOf (L2.CX P w) P w K mg base N qual (defScope st) f cdv A outer s H E) (defBody st) { nx := fun _ H' => Q .non H', rt := Q } (start N (.ref x :: us)) H) : FnOk P w K mg base (L2.CX P w) (k + 1) f fd ps (spRI C pre Ps c n) := by
  refine F.okX S (fun vs H Q E ⟨i, G, H0, x, dx, us, e, _, _, al, _⟩ => by rw [e, List.length_cons, al.length]; exact hl i) fun cdv A outer s H vs Q E hr ⟨i, G, H0, x, dx, us, e, h, hp, al, k⟩ => ?_
  subst e
  exact hb cdv A outer s H us Q E i G H0 x dx hr hp al h k
end
/-! ### what the text must say of an exception class without an __init__ of its own -/
structure Own (K : PySem.W.Frag) (mg : Str → Option Value) (x : Str) (c : Addr) : Prop where
  at_ : mg x = some (.ref c)
  ex : PySem.W.excIn K c [.type "ValueError", .type "Exception", .type "BaseException", .type "object"] "ValueError.__new__" = true
  kp : PySem.W.keepIn K (.ref c) = true
  sub : PySem.W.subIn K (.ref c) (.type "BaseException") = some true
  ty : PySem.W.typeIn K (.ref c) = some (.type "type")
section
variable {X : Cx} {σ : L2.St} {e o a b c : Expr} {es : List Expr} {G G0 H0 H : Hp} {pos : Pos} {x : Str} {k : Nat} {ι : Type} {pre : ι → Prop} {Ps : ι → List (Hp → V → Prop)} {rest : List Stmt} {D : Ends} {os : List (Addr × HO)} {W : WX} {C cl : Addr} {n : Bool}
theorem b_raise {m : Str} {j : Nat} {p p2 q : Pos} (hc : X.calm = true) (tk : L2.Takes X W) (O : Own X.K X.mg x cl) (hg : Gl X x) (hd : (x == ("__debug__" : Str)) = false) (h : W (.ref cl) none σ H) :
    wSs X (.Raise (some (.Call (.Name x p) [.Constant (.str m) j p2] [] pos)) none q :: rest) D σ H :=
  b_cons ⟨_, ps_raise hc tk (pmk_own PySem.F.excBase_ValueError O.ex O.at_ O.kp (raises_own O.sub O.ty) hg hd), h⟩
theorem passW (tk : L2.Takes X W) : Passes (L2.CX X.prog X.w) X (fun c d H => ∀ σ : L2.St, σ.length = X.N.length → W c d σ H) :=
  fun pins σ H s e s' I z => tk e s' (L2.XE.of_call I (fun _ _ _ h => h σ I.len) z)
/-- f(e, ..) raises -/
theorem we_callR {p : Pos} {Q : VK} (tk : L2.Takes X W) (F : DfX X.prog X.w X.K X.mg X.base x k (spR pre Ps cl n)) (hr : Room k X.A) (hg : Gl X x) (i : ι) (hp : pre i) (ha : JA X σ (e :: es) G (fun G vs => Al G (Ps i) vs)) (hs : NoStar e) (hdb : (x == ("__debug__" : Str)) = false)
    (hpl : (backTo pos (starEach es X.env)).any (·.1) = false) (eh : Ex G H) (q : ∀ H' d, Ex H H' → Dct n H' d → ∀ σ : L2.St, σ.length = X.N.length → W (.ref cl) d σ H') : wE X (.Call (.Name x p) (e :: es) [] pos) σ H Q := by
  obtain ⟨f, fd, ps, hf, hm, hk, hb⟩ := F
  refine ⟨_, pe_call hf hr hg hm hk hb .nil (passW tk) pa_w hdb (hs _ _) hpl, ha H eh _ fun G1 H1 vs s1 al => ?_⟩
  rw [List.append_nil]
  exact ⟨i, G1, s1.gh, hp, al, fun H' d e z => q H' d (s1.h.trans e) z⟩
/-- o.m(e, ..) raises -/
theorem we_methR {m : Str} {p : Pos} {oa : Addr} {A : List (Str × V)} {pl : Sem Bool} {Q : VK} (tk : L2.Takes X W) (F : MtX X.prog X.w X.K X.mg X.base C m k (spR pre Ps cl n)) (cc : Cls X.K C) (ho : JV X σ o G (.ref oa)) (hi : InsAt G oa C A) (hA : A.lookup m = none) (hr : Room k X.A) (i : ι) (hp : pre i)
    {P0 : Hp → V → Prop} {Ps' : List (Hp → V → Prop)} (hP : Ps i = P0 :: Ps') (h0 : P0 G (.ref oa)) (m0 : Mo P0) (hes : JA X σ (e :: es) G (fun G vs => Al G Ps' vs)) (hs : NoStar e)
    (hpl : (backTo pos (starEach es X.env)).any (·.1) = false)
    (ht : eval (.Call (.Attribute o m p) (e :: es) [] pos) X.env = (do
      let ov ← eval o X.env
      standAt p.atName
      let (f, first) ← holding [ov] (getMethod ov m pl)
      callWith pos f first (backTo pos (starEach (e :: es) X.env)) (backToKw pos (keywordEach [] X.env))))
    (eh : Ex G H) (q : ∀ H' d, Ex H H' → Dct n H' d → ∀ σ : L2.St, σ.length = X.N.length → W (.ref cl) d σ H') : wE X (.Call (.Attribute o m p) (e :: es) [] pos) σ H Q := by
  obtain ⟨f, fd, ps, hf, hm, hb⟩ := F
  obtain ⟨dx, fs, hG, hfs⟩ := hi.ex
  refine ⟨_, pe_meth pe_w cc hm hf hr hb .nil (passW tk) pa_w (hs _ _) hpl ht, ho H eh _ fun H1 e1 => ⟨oa, dx, fs, rfl, e1 _ _ (eh _ _ hG), (hfs m).trans hA, ?_⟩⟩
  refine hes H1 (eh.trans e1) _ fun G2 H2 vs s2 al => ?_
  rw [List.append_nil]
  exact ⟨i, G2, s2.gh, hp, by rw [hP]; exact ⟨m0 _ _ _ s2.g h0, al⟩, fun H' d e z => q H' d ((e1.trans s2.h).trans e) z⟩
/-- C(e, ..) raises -/
theorem we_makeR {p : Pos} {Q : VK} (tk : L2.Takes X W) (F : MkrX X.prog X.w X.K X.mg X.base C k (spRI C pre Ps cl n)) (hr : Room (k + 1) X.A) (hg : Gl X x) (hm : X.mg x = some (.ref C)) (i : ι) (hp : pre i) (ha : JA X σ (e :: es) G (fun G vs => Al G (Ps i) vs)) (hs : NoStar e) (hdb : (x == ("__debug__" : Str)) = false)
    (hpl : (backTo pos (starEach es X.env)).any (·.1) = false) (eh : Ex G H) (q : ∀ H' d, Ex H H' → Dct n H' d → ∀ σ : L2.St, σ.length = X.N.length → W (.ref cl) d σ H') : wE X (.Call (.Name x p) (e :: es) [] pos) σ H Q := by
  obtain ⟨f, fd, ps, hf, mk, hb⟩ := F
  refine ⟨_, pe_make mk hf hr hg hm hb .nil (passW tk) pa_w hdb (hs _ _) hpl, ha H eh _ fun G1 H1 vs s1 al xx dx hx hdx ne => ?_⟩
  rw [List.append_nil]
  exact ⟨i, G1, H1, xx, dx, vs, rfl, made_hs s1.gh hx hdx ne, hp, al, fun H' d e z => q H' d (s1.h.trans e) z⟩
/-! ### try -/
/-- the suite of an except clause, read as widely as may be -/
def tSuite (X : Cx) (sts : List Stmt) : Addr → Value → Option Addr → TS := fun a cls d D σ H => ∀ oe pn, Zc cls d oe → (∃ vs, oe.data = .fields vs) → wSs (X.suite a ((a, oe) :: pn)) sts D σ H
theorem b_tryAs {y nm : Str} {c : Value} {i : Nat} {body suite : List Stmt} {b₀ : Stmt} {np pos' q : Pos} {Wout : WX} (hs : X.stack = X.env :: X.outer) (hf : X.env.frame = some X.env.locals) (hN : X.N.Nodup) (hi : X.N[i]? = some nm) (hln : X.env.kindOf nm = some .local) (hc : Names X y c) (tk : L2.Takes X Wout)
    (h : ∀ pn xe, L2.Takes (X.tr pn xe) (wAs X.K c i (tSuite X (b₀ :: suite)) Wout { D with nx := wSs X rest D }) → PassesOwn (model X.prog X.w) X.A X.env xe → wSs (X.tr pn xe) body { D with nx := wSs X rest D } σ H) :
    wSs X (.Try body [.ExceptHandler (some (.Name y np)) (some nm) (b₀ :: suite) pos'] [] [] q :: rest) D σ H :=
  b_cons ⟨_, ps_try_as (tb := fun W D σ H => ∀ pn xe, L2.Takes (X.tr pn xe) W → PassesOwn (model X.prog X.w) X.A X.env xe → wSs (X.tr pn xe) body D σ H) hs hf hN hi hln hc tk
    (fun W pn xe tk hp => ⟨fun pins s σ H D I z => pss_w.run pins s σ H D I (z pn xe tk hp)⟩)
    (fun a oe cls d pn hz hv => ⟨fun pins s σ H D I z => pss_w.run pins s σ H D I (z oe pn hz hv)⟩), h⟩
end
/-! ### the handled exception, asked what it is -/
structure ExcK (K : PySem.W.Frag) (C : Addr) : Prop where
  cl : (PySem.W.clsIn K C).isSome = true
  ga : PySem.W.findIn K (.ref C) "__getattribute__" = some (some (.builtin "BaseException.__getattribute__"))
  gt : PySem.W.findIn K (.ref C) "__getattr__" = some none
  sub : PySem.W.subIn K (.ref C) (.type "BaseException") = some true
  ca : PySem.W.findIn K (.ref C) "__class__" = some (some (.builtin "object.__class__"))
  hn : PySem.W.specialIn K (.builtin "object.__class__") "__get__" = some (some (.builtin "getset_descriptor.__get__"))
  tk : PySem.W.takesIn K (.builtin "object.__class__") = some true
  hm : PySem.W.mroIn K C (.type "object") = some true
section
variable {X : Cx} {σ : L2.St} {a : Expr} {G : Hp} {pos : Pos} {D x : Addr} {oe : Obj} {d : Option Addr} {n : Bool}
def rIsX (K : PySem.W.Frag) (D a : Addr) (n : Bool) (d : Option Addr) : List V → Hp → VK → Prop := fun xs H Q => ∃ (c : V) (cv : Value) (b : Bool), xs = [.ref a, c] ∧ (∀ u, RelV c u → u = cv) ∧ PySem.W.kitOne K (.ref D) cv = some b ∧ Dct n H d ∧ Q (.bl b) H
theorem call_isX (C : ExcK X.K D) (hp : (x, oe) ∈ X.pn) (hz : Zc (.ref D) d oe) (hv : ∃ vs, oe.data = .fields vs) : CallR X (.builtin "isinstance") (rIsX X.K D x n d) := by
  intro pins s σ H xs us Q I r ⟨c, cv, b, ex, hcv, hk, hd, q⟩
  subst ex
  cases r with
  | cons rx rr =>
  cases rr with
  | cons rt rr =>
  cases rr
  cases rx
  cases hcv _ rt
  have hget := (I.pin (x, oe) (List.mem_append_left _ hp)).1
  have nc : PySem.W.notCls oe = true := by
    obtain ⟨vs, hv⟩ := hv
    unfold PySem.W.notCls
    rw [hv] <;> rfl
  have J : ∃ od, PySem.W.InstAt s.heap x oe D od := by
    cases n with
    | false =>
      have hd : d = none := hd
      exact ⟨none, hget, hz.1, nc, by rw [hz.2, hd]; trivial⟩
    | true =>
      obtain ⟨dd, fs, e1, e2⟩ : ∃ dd fs, d = some dd ∧ H dd = some (.xd fs) := hd
      obtain ⟨mA, ⟨od, _, _, e3, _⟩, _⟩ : ObjOk X.prog X.w H s.heap dd (.xd fs) := I.hok dd _ e2
      exact ⟨some od, hget, hz.1, nc, by rw [hz.2, e1]; exact e3⟩
  obtain ⟨od, J⟩ := J
  exact PySem.W.kia_one (PySem.W.kitx_exc C.cl C.ga C.gt C.sub C.ca C.hn C.tk C.hm) I.kIn J hk (fun z => nomatch z) fun tk => ⟨.bl b, H, I.kept (t' := tk) fun _ _ z => z, rfl, q⟩
theorem Dct.mono {H H' : Hp} (e : Ex H H') (h : Dct n H d) : Dct n H' d := by
  cases n with
  | false => exact h
  | true => exact let ⟨dd, fs, h1, h2⟩ := h; ⟨dd, fs, h1, e _ _ h2⟩
theorem jv_isX {T : Str} {c : Addr} {r : Bool} {p p2 : Pos} (C : ExcK X.K D) (hp : (x, oe) ∈ X.pn) (hz : Zc (.ref D) d oe) (hv : ∃ vs, oe.data = .fields vs) (hd : Dct n G d) (hm : X.mg "isinstance" = none) (hT : X.mg T = some (.ref c)) (ha : JV X σ a G (.ref x)) (hk : PySem.W.kitOne X.K (.ref D) (.ref c) = some r)
    (hg : Gl X "isinstance") (hg2 : Gl X T) (he : NoStar a) (hdd : (T == ("__debug__" : Str)) = false) : JV X σ (.Call (.Name "isinstance" p) [a, .Name T p2] [] pos) G (.bl r) := ⟨fun H eh Q q =>
  ⟨_, pe_callB (call_isX C hp hz hv) hg hm boot_isi (pa_cons pe_w (pa_cons (pe_glob hg2 hT (v := .ref c) rfl hdd) pa_nil rfl) (he _ _)) (he := he _ _), ha H eh _ fun H1 e1 =>
    ⟨.ref c, .ref c, r, rfl, fun u z => z, hk, hd.mono (eh.trans e1), q H1 e1⟩⟩⟩
theorem jv_isXT {T : Str} {Ty : String} {r : Bool} {p p2 : Pos} (hbT : bootBuiltins T = some (.type Ty)) (C : ExcK X.K D) (hp : (x, oe) ∈ X.pn) (hz : Zc (.ref D) d oe) (hv : ∃ vs, oe.data = .fields vs) (hd : Dct n G d) (hm : X.mg "isinstance" = none) (hT : X.mg T = none) (ha : JV X σ a G (.ref x)) (hk : PySem.W.kitOne X.K (.ref D) (.type Ty) = some r)
    (hg : Gl X "isinstance") (hg2 : Gl X T) (he : NoStar a) (hn : T ≠ "__name__") (hdd : (T == ("__debug__" : Str)) = false) : JV X σ (.Call (.Name "isinstance" p) [a, .Name T p2] [] pos) G (.bl r) := ⟨fun H eh Q q =>
  ⟨_, pe_callB (call_isX C hp hz hv) hg hm boot_isi (pa_cons pe_w (pa_cons (pe_bltn hg2 hT hbT (v := .ty Ty) rfl hn hdd) pa_nil rfl) (he _ _)) (he := he _ _), ha H eh _ fun H1 e1 =>
    ⟨.ty Ty, .type Ty, r, rfl, fun u z => z, hk, hd.mono (eh.trans e1), q H1 e1⟩⟩⟩
end
end TP

set_option Elab.async false
set_option linter.all false
set_option maxRecDepth 100000
set_option maxHeartbeats 2000000
namespace TP
open PySem PySem.Spec PyProof.Rows L2
open Evl (Ex)
/-! ### an exception class that sets fields: B.__init__(self, m); self.f = e -/
/-- the base, at B, as it is read: its __init__ is ValueError's -/
structure Bas (K : PySem.W.Frag) (mg : Str → Option Value) (x : Str) (B : Addr) (mc : Value) : Prop where
  at_ : mg x = some (.ref B)
  rd : PySem.W.readsIn K B mc = true
  ga : PySem.W.specialIn K (.ref B) "__getattribute__" = some (some (.builtin "type.__getattribute__"))
  ini : PySem.W.findCls K (.ref B) mc "__init__" = some (.val (.builtin "ValueError.__init__"))
section
variable {X : Cx} {e : Expr} {es : List Expr} {ta : TA} {x : Str} {B : Addr} {mc : Value} {p1 p2 pos : Pos}
theorem pe_basInit {pl : Sem Bool} (Z : Bas X.K X.mg x B mc) (hg : Gl X x) (hdb : (x == ("__debug__" : Str)) = false) (ha : PA X (e :: es) ta)
    (ht : eval (.Call (.Attribute (.Name x p1) "__init__" p2) (e :: es) [] pos) X.env = (do
      let ov ← eval (.Name x p1) X.env
      standAt p2.atName
      let (f, first) ← holding [ov] (getMethod ov "__init__" pl)
      callWith pos f first (backTo pos (starEach (e :: es) X.env)) (backToKw pos (keywordEach [] X.env))))
    (hst : starEach (e :: es) X.env = (false, eval e X.env) :: starEach es X.env) (hpl : (backTo pos (starEach es X.env)).any (·.1) = false) :
    PE X (.Call (.Attribute (.Name x p1) "__init__" p2) (e :: es) [] pos) (tVeI X.K ta) := ⟨fun pins s σ H Q I h => by
  refine PySem.W.methodCall_KW (ld_glob I hg Z.at_ (PySem.W.method_cls I.kIn Z.ga (PySem.W.cls_value I.kIn Z.rd Z.ini (by decide +kernel) ?_)) hdb) ht
  refine PyProof.Rows.callWith_method1 (thn (ha.run pos pins _ σ H _ (I.tok _) h) fun us s1 ⟨vs, H1, I1, rvs, o, C, ws, evs, hws, T, eo, q⟩ => ?_) hst hpl
  cases evs
  cases rvs with
  | cons ro rws =>
  cases ro
  exact oinit_ok T I1 eo (by rw [← Paired.length rws, sizeLine_eq]; omega) fun s2 I2 => ⟨.non, H1, I2, rfl, q⟩⟩
end
/-- its __init__ -/
def spXI (C : Addr) (f : Str) : Sp := fun vs H Q _ => ∃ a v, vs = [.ref a, v] ∧ H a = some (exo a C none) ∧ ∀ dx, H dx = none → dx ≠ a → Q .non (upd (upd H dx (exd dx [(f, v)])) a (exo a C (some dx)))
/-- what the text says of the class | what its __init__ keeps -/
structure OwnX (P : Program) (w : World) (K : PySem.W.Frag) (mg : Str → Option Value) (base : Heap) (x : Str) (C : Addr) (f : Str) : Prop where
  at_ : mg x = some (.ref C)
  o : OexC K C
  nf : PySem.W.findIn K (.ref C) f = some none
  ini : ∃ fI fd ps, PySem.W.findIn K (.ref C) "__init__" = some (some (.ref fI)) ∧ PySem.W.typeIn K (.ref fI) = some (.type "function") ∧ FnOk P w K mg base CX0 1 fI fd ps (spXI C f) ∧ Binds K fd ps []
section
variable {X : Cx} {σ : L2.St} {e : Expr} {G H : Hp} {pos : Pos} {x f : Str} {rest : List Stmt} {D : Ends} {W : WX} {C : Addr}
/-- raise C(e) -/
theorem b_raiseX {p q : Pos} {P : Hp → V → Prop} (hc : X.calm = true) (tk : L2.Takes X W) (O : OwnX X.prog X.w X.K X.mg X.base x C f) (hr : Room 2 X.A) (hg : Gl X x) (hdb : (x == ("__debug__" : Str)) = false) (eh : Ex G H) (he : JP X σ e G P) (hs : NoStar e) (hpl : (backTo pos (starEach [] X.env)).any (·.1) = false)
    (h : ∀ G' H' dd v, Ex H H' → Ex G' H' → P G' v → H' dd = some (.xd [(f, v)]) → W (.ref C) (some dd) σ H') : wSs X (.Raise (some (.Call (.Name x p) [e] [] pos)) none q :: rest) D σ H := by
  obtain ⟨fI, fd, ps, i1, i2, F, hb⟩ := O.ini
  refine b_cons ⟨_, ps_raise hc tk (pmk_oex O.o i1 i2 F hr hb .nil pass0 hg O.at_ (pa_cons pe_w pa_nil (hs _ _)) hdb (hs _ _) hpl), he H eh _ fun G1 H1 v s1 pv => ⟨Nat.le_of_ble_eq_true rfl, fun a na => ⟨a, v, rfl, upd_same, fun dx nd ne => ⟨rfl, dx, [(f, v)], upd_same, ?_, ?_, ?_⟩⟩⟩⟩
  · rw [upd_ne ne, upd_same]
  · rw [upd_ne ne] at nd; exact nd
  · have nd1 : H1 dx = none := by rw [upd_ne ne] at nd; exact nd
    have e1 : Ex H1 (upd (L2.del (upd (upd (upd H1 a (exo a C none)) dx (exd dx [(f, v)])) a (exo a C (some dx))) a) dx (.xd [(f, v)])) := fun b o hb => by
      have h1 : b ≠ a := fun z => by subst z; rw [na] at hb; cases hb
      have h2 : b ≠ dx := fun z => by subst z; rw [nd1] at hb; cases hb
      rw [upd_ne h2, L2.del_ne h1, upd_ne h1, upd_ne h2, upd_ne h1]
      exact hb
    exact h G1 _ dx v (s1.h.trans e1) (s1.gh.trans e1) pv upd_same
end
/-! ### a def that is handed the exception which is handled -/
structure FnE (P : Program) (w : World) (K : PySem.W.Frag) (mg : Str → Option Value) (base : Heap) (k : Nat) (f : Addr) (fd : FuncData) (ps : List Str) (sp : Addr × Obj → Sp) : Prop where
  len : ∀ p vs H Q E, sp p vs H Q E → vs.length = ps.length
  go : ∀ (p : Addr × Obj) (A : Around) (outer : List Env) (s : Shared) (H : Hp) (us : List Value) (vs : List V) (Q : VK), L2H.RoomH k A → L2H.PinOk outer H s p → Env0 P w K mg base A outer s H → BindsTo s fd ⟨us, []⟩ (ps.zip us) → Vals vs us → sp p vs H Q (fun _ _ _ => False) →
    codeAny (model P w) A (.call (.ref f) ⟨us, []⟩) (CR CX0 outer P w H s Q fun _ _ _ => False) s
theorem fun_okE {P : Program} {w : World} {K : PySem.W.Frag} {mg : Str → Option Value} {base : Heap} {x qual : Str} {st : Stmt} {f : Addr} {fd : FuncData} {N ps : List Str} {k : Nat} {sp : Addr × Obj → Sp} (F : Fun K x qual st f fd) (S : FnScope N ps (defScope st)) (hl : ∀ p vs H Q E, sp p vs H Q E → vs.length = ps.length)
    (hb : ∀ (cdv : Value) (p : Addr × Obj) (A : Around) (outer : List Env) (s : Shared) (H : Hp) (vs : List V) (Q : VK), L2H.RoomH k (A.deeper (envOfC qual (defScope st) s.heap.objs.size f cdv)) → sp p vs H Q (fun _ _ _ => False) →
      wSs (L2H.cxH CX0 P w K mg base N qual (defScope st) f cdv A outer s H (fun _ _ _ => False) p) (defBody st) { nx := fun _ H' => Q .non H', rt := Q } (start N vs) H) : FnE P w K mg base (k + 1) f fd ps sp := by
  obtain ⟨oc, od, kV, doc, pm, an, cdv, ct, osl, rfl, lk, hcd⟩ := F.ex
  refine ⟨hl, fun p A outer s H us vs Q hr hpin e0 bt r hsp => ?_⟩
  have kin : K.In s.heap := e0.mod.kin.keeps fun b o e => (e0.bs b o e).1
  have hvl := hl _ _ _ _ _ hsp
  have dep : A.depth < recursionLimit := by have := hr.dp; omega
  refine codeAny_call_function dep (kin _ _ lk) rfl S.co S.gen rfl (PySem.W.codeRec_of kin hcd) (bt _ _ _ _ (wpAny_newFunctionEnv_cells S.kind (fun ⟨y, v⟩ hy => ?_) fun env he s1 ic => ?_))
  · exact (S.par y (List.of_mem_zip hy).1).imp id fun q => ⟨q, PySem.W.cellsFrom_some _ _ _ (.inl q)⟩
  · subst he
    have nl : s.heap.NoLimit := e0.mod.nolimit.keeps fun b o e => (e0.bs b o e).1
    refine ⟨nl.keeps ic.toInCall.keep, codeAny_func ?_⟩
    have I := L2H.inv_startH (CX := CX0) (K := K) (mg := mg) (base := base) (E := fun _ _ _ => False) S hpin e0 hvl r ic
    obtain ⟨t, ht, hq⟩ := hb cdv p A outer s H vs Q (hr.deeper _) hsp
    refine wpAny_mono (ht.run [] s1 _ H _ I hq) (fun fl s2 z => ?_) fun _ _ z => z
    cases fl with
    | brk => exact (let ⟨_, _, _, q⟩ := z; False.elim q)
    | cont => exact (let ⟨_, _, _, q⟩ := z; False.elim q)
    | next => exact (let ⟨_, H2, J, q⟩ := z; ⟨V.non, H2, J.os, J.bare, J.base, J.hok, rfl, q⟩)
    | ret u => exact (let ⟨v, _, H2, J, rv, q⟩ := z; ⟨v, H2, J.os, J.bare, J.base, J.hok, rv, q⟩)
/-- f(e), in the suite -/
theorem we_callE {X : Cx} {σ : L2.St} {G H : Hp} {e : Expr} {k : Nat} {f : Addr} {fd : FuncData} {ps : List Str} {sp : Addr × Obj → Sp} {x : Str} {q pos : Pos} {p : Addr × Obj} {Q : VK} {v : V} (F : FnE X.prog X.w X.K X.mg X.base k f fd ps sp) (hr : L2H.RoomH k X.A) (hp : p ∈ X.pn) (hg : Gl X x) (hm : X.mg x = some (.ref f)) (hk : PySem.W.keepIn X.K (.ref f) = true) (hb : Binds X.K fd ps [])
    (ha : JV X σ e G v) (eh : Ex G H) (hdb : (x == ("__debug__" : Str)) = false) (hs : NoStar e) (hpl : (backTo pos (starEach [] X.env)).any (·.1) = false) (hq : ∀ H', Ex H H' → sp p [v] H' Q (fun _ _ _ => False)) : wE X (.Call (.Name x q) [e] [] pos) σ H Q := by
  refine ⟨fun σ H Q => wA X [e] σ H fun vs H1 => sp p vs H1 Q (fun _ _ _ => False), ⟨fun pins s σ H Q I h => ?_⟩, ⟨_, pa_cons pe_w pa_nil (hs _ _), ha H eh _ fun H1 e1 => hq H1 e1⟩⟩
  refine wpAny_Call_Name_kw (ld_glob I hg hm (PySem.W.callWith_K (h₀ := X.base) I.ok.mod.kin hk (thn (pa_w.run pos pins s σ H _ I h) fun us s1 ⟨vs, H1, I1, r, z⟩ => ⟨I1.kIn, wpAny_call ?_⟩) (hs _ _) hpl) hdb)
  have nus : us.length = ps.length := r.length.symm.trans (F.len _ _ _ _ _ z)
  have bt := hb s1 us I1.kIn (by rw [List.append_nil]; exact nus)
  rw [List.append_nil] at bt
  obtain ⟨g1, g2, g3, g4, g5⟩ := I1.pin p (List.mem_append_left _ hp)
  have pin : L2H.PinOk X.stack H1 s1 p := ⟨g1, g2, fun hm => (List.mem_cons.mp (I1.stkSub p.1 hm)).elim g3 g4, g5⟩
  refine codeAny_mono (F.go p X.A X.stack s1 H1 us vs Q hr pin I1.env0 bt r z) fun res s2 hc => ?_
  match res, hc with
  | .ok (.ret u), hc => exact I1.after hc
  | .ok .next, hc => exact False.elim hc
  | .ok .brk, hc => exact False.elim hc
  | .ok .cont, hc => exact False.elim hc
  | .error er, hc => exact False.elim hc
end TP

set_option Elab.async false
set_option linter.all false
set_option maxRecDepth 100000
set_option maxHeartbeats 2000000
namespace TP
open PySem PySem.Spec PyProof.Rows L2
open Evl (Ex)
section
variable {P : Program} {w : World} {K : PySem.W.Frag} {mg : Str → Option Value} {base h : Heap} {C : Addr} {x q : Str} {st : Stmt}
theorem Gf.dfX {k : Nat} {sp : Sp} (ps : List Str) (g : Gf K x st) (X : K.In h) (G : h.Ns mainGlobals mg) (ok : ∀ f fd, Fun K x x st f fd → FnOk P w K mg base (L2.CX P w) k f fd ps sp)
    (hb : ∀ (kV doc pm : Value) (an : Option Addr) (cdv ct : Value) (us : List Value), us.length = ps.length → bindArgs (PySem.W.fnOf x x (defArgs st) (defBody st) (defScope st) .none kV doc pm an cdv ct) ⟨us, []⟩ = pure (ps.zip us)) : DfX P w K mg base x k sp :=
  let ⟨f, fd, a, F⟩ := g
  ⟨f, fd, ps, ok f fd F, PySem.W.mg_of X G a, F.kp, F.binds hb⟩
theorem Gf.dfE {k : Nat} {sp : Addr × Obj → Sp} (ps : List Str) (g : Gf K x st) (X : K.In h) (G : h.Ns mainGlobals mg) (ok : ∀ f fd, Fun K x x st f fd → FnE P w K mg base k f fd ps sp)
    (hb : ∀ (kV doc pm : Value) (an : Option Addr) (cdv ct : Value) (us : List Value), us.length = ps.length → bindArgs (PySem.W.fnOf x x (defArgs st) (defBody st) (defScope st) .none kV doc pm an cdv ct) ⟨us, []⟩ = pure (ps.zip us)) : ∃ f fd ps, FnE P w K mg base k f fd ps sp ∧ mg x = some (.ref f) ∧ PySem.W.keepIn K (.ref f) = true ∧ Binds K fd ps [] :=
  let ⟨f, fd, a, F⟩ := g
  ⟨f, fd, ps, ok f fd F, PySem.W.mg_of X G a, F.kp, F.binds hb⟩
theorem Gm.mtX {k : Nat} {sp : Sp} (ps : List Str) (g : Gm K C x q st) (ok : ∀ f fd, Fun K x q st f fd → FnOk P w K mg base (L2.CX P w) k f fd ps sp)
    (hb : ∀ (kV doc pm : Value) (an : Option Addr) (cdv ct : Value) (us : List Value), us.length = ps.length → bindArgs (PySem.W.fnOf x q (defArgs st) (defBody st) (defScope st) .none kV doc pm an cdv ct) ⟨us, []⟩ = pure (ps.zip us)) : MtX P w K mg base C x k sp :=
  let ⟨f, fd, a, F⟩ := g
  ⟨f, fd, ps, ok f fd F, a, F.binds hb⟩
theorem Gm.mkrX {k : Nat} {sp : Sp} (ps : List Str) (g : Gm K C "__init__" q st) (mk : PySem.W.makesIn K C = true) (kc : PySem.W.keepIn K (.ref C) = true) (ok : ∀ f fd, Fun K "__init__" q st f fd → FnOk P w K mg base (L2.CX P w) k f fd ps sp)
    (hb : ∀ (kV doc pm : Value) (an : Option Addr) (cdv ct : Value) (us : List Value), us.length = ps.length → bindArgs (PySem.W.fnOf "__init__" q (defArgs st) (defBody st) (defScope st) .none kV doc pm an cdv ct) ⟨us, []⟩ = pure (ps.zip us)) : MkrX P w K mg base C k sp :=
  let ⟨f, fd, a, F⟩ := g
  ⟨f, fd, ps, ok f fd F, ⟨mk, a.at_, a.fn, kc⟩, F.binds hb⟩
theorem Gm.ownX {y f : Str} (ps : List Str) (g : Gm K C "__init__" q st) (at_ : mg y = some (.ref C)) (o : OexC K C) (nf : PySem.W.findIn K (.ref C) f = some none) (ok : ∀ fI fd, Fun K "__init__" q st fI fd → FnOk P w K mg base CX0 1 fI fd ps (spXI C f))
    (hb : ∀ (kV doc pm : Value) (an : Option Addr) (cdv ct : Value) (us : List Value), us.length = ps.length → bindArgs (PySem.W.fnOf "__init__" q (defArgs st) (defBody st) (defScope st) .none kV doc pm an cdv ct) ⟨us, []⟩ = pure (ps.zip us)) : OwnX P w K mg base y C f :=
  let ⟨fI, fd, a, F⟩ := g
  ⟨at_, o, nf, fI, fd, ps, a.at_, beq_iff_eq.mp a.fn, ok fI fd F, F.binds hb⟩
theorem kit_eq {a : Addr} : PySem.W.kitOne K (.ref a) (.ref a) = some true := if_pos (beq_self_eq_true _)
theorem kit_cl {a b : Addr} {r : Bool} (h1 : (Value.ref a == Value.ref b) = false) (h2 : PySem.W.isClsIn K b = true) (h3 : PySem.W.typeIn K (.ref b) = some (.type "type")) (h4 : PySem.W.subIn K (.ref a) (.ref b) = some r) : PySem.W.kitOne K (.ref a) (.ref b) = some r := by
  have h5 : (PySem.W.clsIn K b).isSome = true := h2
  have e : PySem.W.kitCls K (.ref a) (.ref b) = some r := by
    show (if ((PySem.W.clsIn K b).isSome && PySem.W.typeIn K (.ref b) == some (.type "type")) = true then PySem.W.subIn K (.ref a) (.ref b) else none) = some r
    rw [h5, h3, if_pos (by rw [Bool.true_and]; exact beq_self_eq_true _)]
    exact h4
  unfold PySem.W.kitOne
  rw [h1, e]
  rfl
theorem kit_ve {a : Addr} {T : String} (hT : PySem.W.kitMeta T = true) (h4 : PySem.W.subIn K (.ref a) (.type T) = some true) : PySem.W.kitOne K (.ref a) (.type T) = some true := by
  have e : PySem.W.kitCls K (.ref a) (.type T) = some true := by
    show (if PySem.W.kitMeta T = true then PySem.W.subIn K (.ref a) (.type T) else none) = some true
    rw [if_pos hT]
    exact h4
  unfold PySem.W.kitOne
  rw [e, if_neg (by intro z; cases (beq_iff_eq.mp z))]
end
end TP

set_option Elab.async false
set_option linter.all false
set_option maxRecDepth 100000
set_option maxHeartbeats 2000000
namespace TP
open PySem PySem.Spec PyProof.Rows L2
open Evl (Ex)
/-! ### an exception that stands, its context None, or one whose context is None -/
def Ch (h : Heap) (x : Addr) (y : Option Addr) : Prop := ∃ (ox : Obj) (fx : Array Value), h.get? x = some ox ∧ ox.data = .fields fx ∧ match y with
  | none => fx[2]? = some .none
  | some y => fx[2]? = some (.ref y) ∧ y ≠ x ∧ ∃ (oy : Obj) (fy : Array Value), h.get? y = some oy ∧ oy.data = .fields fy ∧ fy[2]? = some .none
def chFp (x : Addr) (y : Option Addr) : List Addr := x :: y.toList
theorem Ch.keep {h h' : Heap} {x : Addr} {y : Option Addr} (c : Ch h x y) (k : ∀ b ∈ chFp x y, ∀ o, h.get? b = some o → h'.get? b = some o) : Ch h' x y := by
  obtain ⟨ox, fx, e1, e2, e3⟩ := c
  refine ⟨ox, fx, k x List.mem_cons_self _ e1, e2, ?_⟩
  cases y with
  | none => exact e3
  | some y =>
    obtain ⟨e4, e5, oy, fy, e6, e7, e8⟩ := e3
    exact ⟨e4, e5, oy, fy, k y (List.mem_cons_of_mem _ List.mem_cons_self) _ e6, e7, e8⟩
theorem Ch.there {h : Heap} {x : Addr} {y : Option Addr} (c : Ch h x y) : ∀ b ∈ chFp x y, ∃ o, h.get? b = some o := by
  obtain ⟨ox, fx, e1, _, e3⟩ := c
  intro b hb
  rcases List.mem_cons.mp hb with rfl | hb
  · exact ⟨_, e1⟩
  · cases y with
    | none => cases hb
    | some y =>
      obtain ⟨_, _, oy, fy, e6, _⟩ := e3
      rcases List.mem_cons.mp hb with rfl | hb
      · exact ⟨_, e6⟩
      · cases hb
theorem plain_unchain : plainId "proto.unchain" = true := by decide +kernel
section
variable {prog : Program} {w : World} {A : Around} {E : Value → Shared → Prop} {s : Shared} {x a : Addr} {y : Option Addr}
theorem unchain_end {u v : Value} {t : Bool} {ox : Obj} {fx : Array Value} {R : Result → Shared → Prop} (e1 : s.heap.get? x = some ox) (e2 : ox.data = .fields fx) (e3 : fx[2]? = some .none) (q : R (.ok (.ret .none)) s) :
    codeAny (model prog w) A (.builtin "proto.unchain" ⟨[u, .ref x, v, .bool t], []⟩) R s := by
  refine codeAny_builtin HotX.entry_unchain ?_
  show wpAny _ _ (field (.ref x) 2 >>= fun _ => _) _ _ s
  refine wpAny_bind (wpAny_field e1 e2 e3 ?_)
  rw [if_pos (beq_self_eq_true Value.none)]
  first
  | exact wpAny_bind (wpAny_pure (wpAny_pure q))
  | exact wpAny_pure q
theorem ref_beq {b c : Addr} (h : b ≠ c) : (Value.ref b == Value.ref c) = false := Bool.eq_false_iff.mpr fun z => h (Value.ref.inj (beq_iff_eq.mp z))
theorem unchain_any (c : Ch s.heap x y) (n : ∀ b ∈ chFp x y, b ≠ a) {Q : Value → Shared → Prop} (q : Q .none s) :
    wpAny (model prog w) A (holding [Value.ref a] (runValue (.builtin "proto.unchain" ⟨[.ref a, .ref x, .ref x, .bool false], []⟩))) Q E s := by
  obtain ⟨ox, fx, e1, e2, e3⟩ := c
  refine wpAny_holding (wpAny_runValue ?_)
  cases y with
  | none => exact unchain_end e1 e2 e3 q
  | some y =>
    obtain ⟨e4, e5, oy, fy, e6, e7, e8⟩ := e3
    have na : y ≠ a := n y (List.mem_cons_of_mem _ List.mem_cons_self)
    refine codeAny_builtin HotX.entry_unchain ?_
    show wpAny _ _ (field (.ref x) 2 >>= fun _ => _) _ _ s
    refine wpAny_bind (wpAny_field e1 e2 e4 ?_)
    rw [if_neg (show ¬((Value.ref y == Value.none) = true) from Bool.false_ne_true), if_neg (by rw [ref_beq na]; decide), if_neg (by rw [ref_beq e5]; decide)]
    first
    | exact wpAny_bind (wpAny_pure (wpAny_pure ⟨plainId_quiet plain_unchain _, unchain_end e6 e7 e8 q⟩))
    | exact wpAny_pure ⟨plainId_quiet plain_unchain _, unchain_end e6 e7 e8 q⟩
/-- a new exception raised there -/
theorem raiseNew_any {α : Type} {oa : Obj} {fa : Array Value} {Q : α → Shared → Prop} (hh : A.handled = some (.ref x)) (c : Ch s.heap x y) (n : ∀ b ∈ chFp x y, b ≠ a) (ea : s.heap.get? a = some oa) (da : oa.data = .fields fa) (sz : 2 < fa.size)
    (q : E (.ref a) { s with heap := s.heap.update a (Obj.mapFields (·.setIfInBounds 2 (.ref x))) }) : wpAny (model prog w) A (raiseNew (.ref a) : Sem α) Q E s := by
  have nx : (Value.ref x != Value.ref a) = true := HotX.ref_bne (n x List.mem_cons_self)
  unfold raiseNew
  refine wpAny_bind (wpAny_handled ?_)
  rw [hh]
  first
  | (show wpAny _ _ (if (Value.ref x != Value.ref a) = true then _ else _) _ _ _
     rw [if_pos nx]
     first
     | exact wpAny_bind (unchain_any c n (wpAny_bind (HotX.chained ea da sz (wpAny_throw q))))
     | exact wpAny_bind (wpAny_bind (unchain_any c n (HotX.chained ea da sz (wpAny_throw q)))))
  | (refine wpAny_bind ?_
     show wpAny _ _ (if (Value.ref x != Value.ref a) = true then _ else _) _ _ _
     rw [if_pos nx]
     exact wpAny_bind (unchain_any c n (HotX.chained ea da sz (wpAny_throw q))))
/-- a list's iterator at its end -/
theorem listEnd_any {it l : Addr} {i : Nat} {items : Array Value} {Q : Option Value → Shared → Prop} (hh : A.handled = some (.ref x)) (c : Ch s.heap x y) (ni : it ∉ chFp x y) (hit : s.heap.IsListIter it l i) (hl : s.heap.IsList l items) (hx : items[i]? = none)
    (hQ : ∀ h', (∀ b o, b ≠ it → s.heap.get? b = some o → h'.get? b = some o) → Q none { s with heap := h' }) : wpAny (model prog w) A (pyNext (.ref it)) Q E s := by
  obtain ⟨oi, ei, ci, di⟩ := id hit
  obtain ⟨ol, el, _, nl, dl⟩ := hl
  have lt : ∀ b ∈ chFp x y, b < s.heap.objs.size := fun b hb => (c.there b hb).elim fun _ e => Heap.lt_size e
  unfold pyNext
  refine wpAny_bind (wpAny_attempt (wpAny_callSpecial?_slot (name := Str.ofString "__next__") hit.typeIs slot_listiter_next (wpAny_call_entry slot_listiter_next hit.typeIs entry_listiter_next ?_ (args_listiter_next _))))
  show wpAny _ _ (field (.ref it) 0 >>= fun _ => _) _ _ s
  refine wpAny_bind (wpAny_field ei di (x := .ref l) rfl ?_)
  rw [if_neg (show ¬((Value.ref l == Value.none) = true) from fun z => Bool.false_ne_true z)]
  refine wpAny_bind (wpAny_field ei di (x := .int i 0) rfl (wpAny_bind (wpAny_seqItems el dl ?_)))
  simp only [Int.toNat_natCast, hx]
  refine wpAny_bind (wpAny_rule (wpAny_bind (wpAny_setField ei di (by simp) ?_)))
  show wpAny _ _ (newExc (.type "StopIteration") [] >>= fun _ => _) _ _ _
  refine wpAny_bind ?_
  simp only [newExc, newTuple]
  refine wpAny_bind (wpAny_newObj_type (wpAny_bind (m := firstArgMember _ _) (wpAny_of_eq (a := Value.none) (by first | rfl | (simp only [firstArgMember]; rfl)) (wpAny_newObj_type ?_ (by size_fits)))) (by size_fits))
  have up1 : ∀ b o, b ≠ it → s.heap.get? b = some o → (s.heap.update it (Obj.mapFields (·.setIfInBounds 0 Value.none))).get? b = some o := fun b o nb e => by
    rw [Heap.get?_update_other _ _ (Ne.symm nb)]; exact e
  have s1 : (s.heap.update it (Obj.mapFields (·.setIfInBounds 0 Value.none))).objs.size = s.heap.objs.size := by simp [Heap.update]
  refine raiseNew_any hh (c.keep fun b hb o e => Heap.get?_push_of_some _ (Heap.get?_push_of_some _ (up1 b o (fun z => ni (z ▸ hb)) e))) (fun b hb z => ?_) (Heap.get?_push_size _ rfl) rfl (by first | (simp; done) | (simp; omega) | (simp only [Array.size_append]; simp; omega)) ?_
  · have := lt b hb
    rw [z, Heap.size_push, s1] at this
    exact Nat.lt_irrefl _ (Nat.lt_of_succ_lt this)
  refine wpAny_bind (wpAny_isInstance (T := "StopIteration") (b := true) ⟨_, Heap.get?_update_self _ (Heap.get?_push_size _ rfl) rfl, rfl⟩ isSubtype_stop (wpAny_pure (hQ _ fun b o nb e => ?_)))
  have e2 := up1 b o nb e
  rw [Heap.get?_update_other _ _ (Ne.symm (Nat.ne_of_lt (Heap.lt_size (Heap.get?_push_of_some _ e2))))]
  exact Heap.get?_push_of_some _ (Heap.get?_push_of_some _ e2)
end
end TP

set_option Elab.async false
set_option linter.all false
set_option maxRecDepth 100000
set_option maxHeartbeats 2000000
namespace TP
open PySem PySem.Spec PyProof.Rows L2
open Evl (Ex)
/-! ### exceptions of which the context is told: None, or one that stands and whose context is None -/
def Zr (cls : Value) (d : Option Addr) (c : Value) : Obj → Prop := fun o => (o.cls = cls ∧ o.dict = d) ∧ ∀ vs, o.data = .fields vs → vs[2]? = some c
theorem Zr.st {cls : Value} {d : Option Addr} {c : Value} : PXN.Steady1 (Zr cls d c) := fun o v h => by
  refine ⟨⟨PXN.steady_cls o v h.1.1, PXN.steady_dict o v h.1.2⟩, fun fs e => ?_⟩
  obtain ⟨oc, od, dt, sl⟩ := o
  cases dt with
  | fields f0 =>
    have e1 : f0.setIfInBounds 1 v = fs := Data.fields.inj e
    have e2 := h.2 f0 rfl
    rw [← e1]
    first
    | rw [Array.getElem?_setIfInBounds_ne (by decide)]; exact e2
    | simpa [Array.getElem?_setIfInBounds] using e2
  | _ => first | exact Data.noConfusion e | cases e
def Gr (B : Heap) (H : Hp) (c : Value) : Prop := c = .none ∨ ∃ (y : Addr) (oy : Obj) (fy : Array Value), c = .ref y ∧ B.get? y = some oy ∧ H y = none ∧ oy.data = .fields fy ∧ fy[2]? = some .none
/-- in the air -/
def XEr (X : Cx) (W : WX) (u : Value) (s' : Shared) : Prop := ∃ (a : Addr) (B : Heap) (sI : Shared) (pins : List (Addr × Obj)) (σ : L2.St) (H : Hp) (cls : Value) (d : Option Addr) (c : Value),
  u = .ref a ∧ Inv X pins σ H sI ∧ (∀ b o, sI.heap.get? b = some o → b ∉ frs X.stack → B.get? b = some o) ∧ sI.heap.UpToSlots s'.heap ∧ Sky B X.stack a (Zr cls d c) X.env.locals s'.heap ∧ H a = none ∧ s'.os = sI.os ∧ AllBare s'.gens ∧ Gr B H c ∧ W cls d σ H
def TakesR (X : Cx) (W : WX) : Prop := ∀ u s', XEr X W u s' → X.xe u s'
/-- behind a call that let it out -/
def CXr (P : Program) (w : World) (outer : List Env) (H : Hp) (s : Shared) (E : XK) (u : Value) (s' : Shared) : Prop := ∃ (a : Addr) (B : Heap) (H' : Hp) (cls : Value) (d : Option Addr) (c : Value),
  u = .ref a ∧ HandSPX.FlyingZ B outer a (Zr cls d c) s'.heap ∧ HOk P w H' B ∧ UB (frs outer) H H' s.heap B s'.heap ∧ H' a = none ∧ s'.os = s.os ∧ AllBare s'.gens ∧ Gr B H' c ∧ E cls d H'
theorem sky_imp {B : Heap} {l : List Env} {a L : Addr} {Z Z' : Obj → Prop} {h : Heap} (z : ∀ o, Z o → Z' o) (x : Sky B l a Z L h) : Sky B l a Z' L h := by
  rcases x with ⟨h1, h2, h3, oe, vs, h4, h5, h6⟩ | f | ⟨h1, h2, h3, h4⟩
  · exact .inl ⟨h1, h2, h3, oe, vs, h4, z _ h5, h6⟩
  · exact .inr (.inl (L2H.flyingZ_imp z f))
  · exact .inr (.inr ⟨h1, h2, h3, L2H.tracedZ_imp z h4⟩)
section
variable {X : Cx} {W : WX} {pins : List (Addr × Obj)} {σ : L2.St} {H : Hp} {s s' sI : Shared} {E : XK}
theorem XEr.ofN {u : Value} (x : L2N.XE X W u s') : XEr X W u s' := by
  obtain ⟨a, B, sI, pins, σ, H, cls, d, h1, h2, h3, h4, sky, h5, h6, h7, w⟩ := x
  exact ⟨a, B, sI, pins, σ, H, cls, d, .none, h1, h2, h3, h4, sky_imp (fun o z => ⟨⟨z.1, z.2.1⟩, z.2.2⟩) sky, h5, h6, h7, .inl rfl, w⟩
theorem TakesR.n (tk : TakesR X W) : L2N.Takes X W := fun u s' x => tk u s' (XEr.ofN x)
/-- it leaves a frame -/
theorem XEr.leave {A : Around} {E₁ : Value → Shared → Prop} {u : Value} (hA : A.frames = X.A.frames) (hs : X.stack = X.env :: X.outer) (hf : X.env.frame = some X.env.locals) (hex : X.ex = []) (hW : ∀ cls d σ H, W cls d σ H → E cls d H) (x : XEr X W u s') :
    wpAny (model X.prog X.w) A (leaving X.env u) (fun _ s2 => CXr X.prog X.w X.outer X.H_0 X.s_0 E u s2) E₁ s' := by
  obtain ⟨a, B, sI, pins, σ, H, cls, d, c, rfl, I, nb, up, sky, na, eos, ag, gr, q⟩ := x
  have fr : A.frames = some (X.env :: X.outer) := by rw [hA, I.ok.frames, hs]
  have noex : ∀ b, b ∉ X.ex := fun b z => by rw [hex] at z; cases z
  have old : ∀ b o, X.s_0.heap.get? b = some o → b ∉ X.fs → b ∉ frs X.stack := fun b o e n z => by
    rcases List.mem_cons.mp (I.stkSub b z) with z | z
    · subst z
      exact Nat.lt_irrefl _ (Nat.lt_of_lt_of_le (Heap.lt_size e) I.ok.above)
    · exact n z
  have go : ∀ h2, HandSPX.FlyingZ B X.outer a (Zr cls d c) h2 → s'.heap.UpToSlots h2 → CXr X.prog X.w X.outer X.H_0 X.s_0 E (.ref a) { s' with heap := h2 } := fun h2 fl up2 => by
    refine ⟨a, B, H, cls, d, c, rfl, fl, I.inGround nb, ⟨fun b o e n nf => nb b o (I.base.keep b o e n nf (noex b)) (old b o e nf), fun b o e nf => ?_, fun b o e n => I.base.free b o e n (noex b), fun b o e nf => (I.base.there b o e (noex b)).imp fun o2 k => nb b o2 k (old b o e nf), I.base.tups, I.base.frzs, I.base.tbls⟩, na, eos.trans I.os, ag, gr, hW _ _ _ _ q⟩
    obtain ⟨_, o0, e0, nfl⟩ := I.ok.funs.mem nf
    cases e.symm.trans e0
    obtain ⟨t1, k1⟩ := I.base.slot b o e (I.ok.frf b nf) nf (noex b)
    obtain ⟨t2, k2⟩ := up b _ k1 nfl
    obtain ⟨t3, k3⟩ := up2 b _ k2 nfl
    exact ⟨t3, k3⟩
  rw [hs] at sky
  rcases sky with ⟨g1, g2, g3, oe, vs, g4, g5, g6, g7⟩ | g | g
  · exact PXN.leaving_firstZ Zr.st fr g3 hf g4 g1 g2 g6 g7 g5 go
  · exact PXN.leaves_onZ Zr.st fr hf g go
  · exact HandSPX.leaves_heldZ hf g go
/-- a def's wish -/
theorem takesR_of {A : Around} {E₁ : Value → Shared → Prop} (hA : A.frames = X.A.frames) (hs : X.stack = X.env :: X.outer) (hf : X.env.frame = some X.env.locals) (hex : X.ex = [])
    (hx : X.xe = fun e s' => wpAny (model X.prog X.w) A (leaving X.env e) (fun _ s2 => CXr X.prog X.w X.outer X.H_0 X.s_0 E e s2) E₁ s') : TakesR X (fun cls d _ H => E cls d H) := fun u s' x => by
  rw [hx]
  exact XEr.leave hA hs hf hex (fun _ _ _ _ z => z) x
/-- a call's exception -/
theorem XEr.of_call (I : Inv X pins σ H s) (hW : ∀ cls d H', E cls d H' → W cls d σ H') {u : Value} (x : CXr X.prog X.w X.stack H s E u s') : XEr X W u s' := by
  obtain ⟨a, B, H', cls, d, c, rfl, fl, hok, ub, na, eos, ag, gr, q⟩ := x
  obtain ⟨G, in1, in2⟩ := restrict s'.heap fun b => (B.get? b).isSome || decide (b ∈ frs X.stack)
  have stay : B.StaysIn s'.heap := fl.1
  have onB : ∀ b o, B.get? b = some o → G.get? b = some o := fun b o e => (in1 b (by rw [e]; rfl)).trans (stay b o e)
  have onF : ∀ b, b ∈ frs X.stack → G.get? b = s'.heap.get? b := fun b z => in1 b (by rw [decide_eq_true z, Bool.or_true])
  have back : ∀ b o, G.get? b = some o → s'.heap.get? b = some o ∧ ((∃ o', B.get? b = some o') ∨ b ∈ frs X.stack) := fun b o e => by
    by_cases z : ((B.get? b).isSome || decide (b ∈ frs X.stack)) = true
    · rw [in1 b z] at e
      refine ⟨e, ?_⟩
      rcases Bool.or_eq_true_iff.mp z with z | z
      · exact .inl (Option.isSome_iff_exists.mp z)
      · exact .inr (of_decide_eq_true z)
    · rw [in2 b (by simpa using z)] at e
      cases e
  refine ⟨a, B, { s with heap := G, gens := s'.gens, drawn := s'.drawn, toks := s'.toks }, pins, σ, H', cls, d, c, rfl, ?_, fun b o e nf => ?_, Heap.UpToSlots.of_keeps fun b o e => (back b o e).1, .inr (.inl fl), na, eos, ag, gr, hW _ _ _ q⟩
  · refine I.call (ch := []) ⟨fun b o e n nf _ => onB b o (ub.keep b o e n nf), fun b o e n nf _ => (ub.slot b o e nf).imp fun t k => (onF b nf).trans k, fun b o e n _ => ub.free b o e n, fun b o e _ => ?_, ub.tups, ub.frzs, ub.tbls⟩ (hok.kept onB) ag (fun _ z => nomatch z)
    by_cases nf : b ∈ frs X.stack
    · exact (ub.slot b o e nf).elim fun t k => ⟨_, (onF b nf).trans k⟩
    · exact (ub.there b o e nf).imp fun o2 k => onB b o2 k
  · obtain ⟨e1, e2⟩ := back b o e
    rcases e2 with ⟨o2, e2⟩ | e2
    · cases e1.symm.trans (stay b o2 e2)
      exact e2
    · exact absurd e2 nf
theorem passesR (tk : TakesR X W) : Passes (CXr X.prog X.w) X (fun c d H => ∀ σ : L2.St, σ.length = X.N.length → W c d σ H) :=
  fun pins σ H s e s' I z => tk e s' (XEr.of_call I (fun _ _ _ h => h σ I.len) z)
end
/-! ### raise, in a suite -/
section
variable {X : Cx} {W : WX} {e : Expr} {t : L2.St → Hp → XK → Prop} {q : Pos}
theorem ps_raiseR {p : Addr × Obj} (hot : L2H.Hot1 X.A p) (hp : p ∈ X.pn) (tk : TakesR X W) (he : L2N.PMk X e t) : PS X (.Raise (some e) none q) (fun _ σ H => t σ H fun cls d H' => W cls d σ H') := ⟨fun pins s σ H D I h => by
  obtain ⟨hh, f1, p2, p3⟩ := hot
  show wpAny _ _ (do standAt q; raiseStmt X.env (some (do let v ← eval e X.env; standAt q; pure v)) none) _ _ _
  refine wpAny_bind (wpAny_standAt (HotX.raise_made_hot (x1 := p.1) (wpAny_bind (wpAny_mono (he pins s σ H _ I h) (fun u s1 hu => wpAny_bind (wpAny_standAt (wpAny_pure ?_))) fun _ _ z => z))))
  obtain ⟨a, oe, vs, sI, H', cls, d, rfl, J, up, fresh, ea, zn, da, v1, na, eos, ag, rs, w⟩ := hu
  obtain ⟨l1, l2⟩ := rs (model X.prog X.w) s1.heap (J.kIn.keeps up)
  have pin := J.pin p (List.mem_append_left _ hp)
  have pa : p.1 ≠ a := fun z => by have := pin.1; rw [z, fresh] at this; cases this
  have sz : 2 < vs.size := (Array.getElem?_eq_some_iff.mp (zn.2.2 vs da)).1
  have d2 := Obj.data_mapFields da (·.setIfInBounds 2 (Value.ref p.1))
  have v1' : (vs.setIfInBounds 2 (Value.ref p.1))[1]? = some Value.none := by
    first
    | rw [Array.getElem?_setIfInBounds_ne (by decide)]; exact v1
    | simpa [Array.getElem?_setIfInBounds] using v1
  have v2' : (vs.setIfInBounds 2 (Value.ref p.1))[2]? = some (Value.ref p.1) := by simp [Array.getElem?_setIfInBounds, sz]
  have ge := Heap.get?_update_self (Obj.mapFields (·.setIfInBounds 2 (Value.ref p.1))) ea (Obj.isFreed_of_fields d2)
  have keep : ∀ b o, sI.heap.get? b = some o → (s1.heap.update a (Obj.mapFields (·.setIfInBounds 2 (.ref p.1)))).get? b = some o := fun b o z => by
    rw [Heap.get?_update_other _ _ (fun y => by rw [← y, fresh] at z; cases z)]
    exact up b o z
  have pf : p.1 ∉ frs X.stack := fun hm => (List.mem_cons.mp (J.stkSub p.1 hm)).elim pin.2.2.1 pin.2.2.2.1
  refine ⟨a, oe, vs, cls, rfl, ea, zn.1, da, v1, sz, pa, ⟨hh, p.2, f1, up _ _ pin.1, p2, p3⟩, l1, l2, tk _ _ ⟨a, PySem.W.hideAll sI.heap (frs X.stack), sI, pins, σ, H', cls, d, .ref p.1, rfl, J, fun b o e nf => PySem.W.hideAll_get _ e nf, Heap.UpToSlots.of_keeps keep, .inl ⟨fun b o e => keep b o (PySem.W.of_hideAll _ e), ?_, ?_, _, _, ge, ⟨⟨(Obj.cls_mapFields ..).trans zn.1, (HandSPX.dict_mapFields ..).trans zn.2.1⟩, fun fs e => ?_⟩, d2, v1'⟩, na, eos, ag, .inr ⟨p.1, p.2, f1, rfl, PySem.W.hideAll_get _ pin.1 pf, pin.2.1, p2, p3⟩, w⟩⟩
  · cases z : (PySem.W.hideAll sI.heap (frs X.stack)).get? a with
    | none => rfl
    | some o => exact absurd (PySem.W.of_hideAll _ z) (by rw [fresh]; exact nofun)
  · exact Heap.FunFrames.of_keeps (fun b o e _ => ⟨o, keep b o e, rfl⟩) (funFrames_none J.stack fun b z => PySem.W.hideAll_none _ z)
  · cases d2.symm.trans e
    exact v2'⟩
end
end TP

set_option Elab.async false
set_option linter.all false
set_option maxRecDepth 100000
set_option maxHeartbeats 2000000
namespace TP
open PySem PySem.Spec PyProof.Rows L2
open Evl (Ex)
/-! ### an own exception with a field, made where nothing is handled: its context is None -/
section
variable {X : Cx} {C : Addr} {x f : Str} {e : Expr} {ta : TA} {p pos : Pos}
theorem pmkN_own (O : OwnX X.prog X.w X.K X.mg X.base x C f) (hr : Room 2 X.A) (hg : Gl X x) (hdb : (x == ("__debug__" : Str)) = false) (ha : PA X [e] ta) (hst : starEach [e] X.env = (false, eval e X.env) :: starEach [] X.env) (hpl : (backTo pos (starEach [] X.env)).any (·.1) = false) :
    L2N.PMk X (.Call (.Name x p) [e] [] pos) (tMkO C (spXI C f) [] ta) := by
  intro pins s σ H Q I h
  obtain ⟨fI, fd, ps, i1, i2, F, hb⟩ := O.ini
  obtain ⟨nm, q, N, bs, bm, sn, sub, ab, col, dd, k0, k1, k2, k3, k5, hC, hbm⟩ := O.o.cls
  refine wpAny_Call_Name_kw (ld_glob I hg O.at_ (PySem.W.callWith_K (h₀ := X.base) I.ok.mod.kin O.o.kC (thn (ha.run pos pins s σ H _ I h) fun us s1 ⟨vs, H1, I1, rv, nz, w⟩ => ⟨I1.kIn, ?_⟩) hst hpl) hdb)
  obtain ⟨hp, g, dr, tk, os⟩ := s1
  have na : H1 (hp.objs.size + 1) = none := I1.hok.fresh (Nat.le_succ _)
  have want := w (hp.objs.size + 1) na
  rw [List.append_nil] at want
  have kp : ∀ b o, hp.get? b = some o → ((hp.push (PySem.W.kdv_tup us)).push (PySem.HandSPX.excO C hp.objs.size)).get? b = some o := fun b o z => Heap.get?_push_of_some _ (Heap.get?_push_of_some _ z)
  have I2 := I1.laid (t' := tk) (o := exo (hp.objs.size + 1) C none) kp (Nat.le_succ _) (exo_ok (t1 := hp.objs.size) (by heap_get))
  have rv2 : Vals (V.ref (hp.objs.size + 1) :: vs) (Value.ref (hp.objs.size + 1) :: us) := .cons rfl rv
  have lus : us.length ≤ sizeLine := by rw [← Paired.length rv, sizeLine_eq]; omega
  have bt := hb _ (Value.ref (hp.objs.size + 1) :: us) I2.kIn (by rw [List.append_nil, ← rv2.length]; exact F.len _ _ _ _ want)
  rw [List.append_nil] at bt
  show wpAny _ _ (call (.ref C) us) _ _ _
  refine wpAny_call (PySem.HandSPX.call_own PySem.F.excBase_ValueError (fun Y => PySem.HandSPX.refsVE_contains Y bm hbm) (I1.kIn _ _ hC) (PySem.W.looks_findIn I1.kIn i1) (fun self => PySem.W.bind_fn I1.kIn self i2) lus
    (codeAny_mono (F.run _ X.stack _ _ _ _ _ _ _ (hr.make C us []) (I2.env0.make C us []) bt rv2 want) fun res s2 hq => ?_))
  match res, hq with
  | .ok (.ret u), hq =>
    obtain ⟨v, H2, eos, bare, un, ok2, r2, ev, d, fs, ea, ed, nd, w2⟩ := hq
    subst ev
    obtain ⟨h2, g2, d2, t2, os2⟩ := s2
    obtain ⟨t0, G, J, kG, ge, ho, nx⟩ := mk_end0 (d2 := d2) (t2 := t2) I1 (Nat.le_succ _) kp un ok2 eos bare ea ed nd
    exact ⟨r2, _, _, _, ⟨G, g2, d2, t2, os2⟩, _, .ref C, some d, rfl, J, kG, ge, ho, ⟨rfl, rfl, fun fs e => by cases e; rfl⟩, rfl, rfl, nx, rfl, bare, raises_own O.o.exC O.o.tyC, w2⟩
  | .ok .next, hq => exact False.elim hq
  | .ok .brk, hq => exact False.elim hq
  | .ok .cont, hq => exact False.elim hq
  | .error er, hq => exact False.elim hq
end
/-! ### its __init__ where an exception is handled -/
theorem fun_okH2 {P : Program} {w : World} {K : PySem.W.Frag} {mg : Str → Option Value} {base : Heap} {x qual : Str} {st : Stmt} {f : Addr} {fd : FuncData} {N ps : List Str} {k : Nat} {sp : Sp} (F : Fun K x qual st f fd) (S : FnScope N ps (defScope st)) (hl : ∀ vs H Q E, sp vs H Q E → vs.length = ps.length)
    (hb : ∀ (cdv : Value) (A : Around) (outer : List Env) (s : Shared) (H : Hp) (vs : List V) (Q : VK) (E : XK) (p : Addr × Obj), L2H.Hot1 A p → L2H.RoomH k (A.deeper (envOfC qual (defScope st) s.heap.objs.size f cdv)) → sp vs H Q E →
      wSs (L2H.cxH CX0 P w K mg base N qual (defScope st) f cdv A outer s H E p) (defBody st) { nx := fun _ H' => Q .non H', rt := Q } (start N vs) H) : L2H.FnH P w K mg base CX0 (k + 1) f fd ps sp := by
  obtain ⟨oc, od, kV, doc, pm, an, cdv, ct, osl, rfl, lk, hcd⟩ := F.ex
  exact L2H.fn_ofH lk hcd S hl fun A outer s H vs Q E p hot hr hs => hb cdv A outer s H vs Q E p hot hr hs
/-- what the text says of the class, there -/
structure OwnXH (P : Program) (w : World) (K : PySem.W.Frag) (mg : Str → Option Value) (base : Heap) (x : Str) (C : Addr) (f : Str) : Prop where
  at_ : mg x = some (.ref C)
  o : OexC K C
  ini : ∃ fI fd ps, PySem.W.findIn K (.ref C) "__init__" = some (some (.ref fI)) ∧ PySem.W.typeIn K (.ref fI) = some (.type "function") ∧ L2H.FnH P w K mg base CX0 1 fI fd ps (spXI C f) ∧ Binds K fd ps []
theorem Gm.ownXH {P : Program} {w : World} {K : PySem.W.Frag} {mg : Str → Option Value} {base : Heap} {C : Addr} {q y f : Str} {st : Stmt} (ps : List Str) (g : Gm K C "__init__" q st) (at_ : mg y = some (.ref C)) (o : OexC K C) (ok : ∀ fI fd, Fun K "__init__" q st fI fd → L2H.FnH P w K mg base CX0 1 fI fd ps (spXI C f))
    (hb : ∀ (kV doc pm : Value) (an : Option Addr) (cdv ct : Value) (us : List Value), us.length = ps.length → bindArgs (PySem.W.fnOf "__init__" q (defArgs st) (defBody st) (defScope st) .none kV doc pm an cdv ct) ⟨us, []⟩ = pure (ps.zip us)) : OwnXH P w K mg base y C f :=
  let ⟨fI, fd, a, F⟩ := g
  ⟨at_, o, fI, fd, ps, a.at_, beq_iff_eq.mp a.fn, ok fI fd F, F.binds hb⟩
section
variable {X : Cx} {σ : L2.St} {e : Expr} {G H : Hp} {pos : Pos} {x f : Str} {rest : List Stmt} {D : Ends} {W : WX} {C : Addr}
/-- what the making of C(e) leaves: the heap behind, the dict -/
theorem mkO_rest {ta : TA} {v : V} {H1 : Hp} {Q : XK} (h : ∀ H' dd, Ex H1 H' → H' dd = some (.xd [(f, v)]) → Q (.ref C) (some dd) H') :
    ([v] : List V).length ≤ 1000 ∧ ∀ a, H1 a = none → spXI C f (.ref a :: ([v] ++ [])) (upd H1 a (exo a C none)) (fun u H2 => u = .non ∧ ∃ (d : Addr) (fs : List (Str × V)), H2 a = some (exo a C (some d)) ∧ H2 d = some (exd d fs) ∧ H1 d = none ∧ Q (.ref C) (some d) (upd (L2.del H2 a) d (.xd fs))) (fun _ _ _ => False) := by
  refine ⟨Nat.le_of_ble_eq_true rfl, fun a na => ⟨a, v, rfl, upd_same, fun dx nd ne => ⟨rfl, dx, [(f, v)], upd_same, by rw [upd_ne ne, upd_same], by rw [upd_ne ne] at nd; exact nd, h _ dx (fun b o hb => ?_) upd_same⟩⟩⟩
  have nd1 : H1 dx = none := by rw [upd_ne ne] at nd; exact nd
  have h1 : b ≠ a := fun z => by subst z; rw [na] at hb; cases hb
  have h2 : b ≠ dx := fun z => by subst z; rw [nd1] at hb; cases hb
  rw [upd_ne h2, L2.del_ne h1, upd_ne h1, upd_ne h2, upd_ne h1]
  exact hb
/-- raise C(e), nothing handled -/
theorem b_raiseXN {p q : Pos} {P : Hp → V → Prop} (hc : X.calm = true) (tk : L2N.Takes X W) (O : OwnX X.prog X.w X.K X.mg X.base x C f) (hr : Room 2 X.A) (hg : Gl X x) (hdb : (x == ("__debug__" : Str)) = false) (eh : Ex G H) (he : JP X σ e G P) (hs : NoStar e) (hpl : (backTo pos (starEach [] X.env)).any (·.1) = false)
    (h : ∀ G' H' dd v, Ex H H' → Ex G' H' → P G' v → H' dd = some (.xd [(f, v)]) → W (.ref C) (some dd) σ H') : wSs X (.Raise (some (.Call (.Name x p) [e] [] pos)) none q :: rest) D σ H := by
  refine b_cons ⟨_, L2N.ps_raise hc tk (pmkN_own O hr hg hdb (pa_cons pe_w pa_nil (hs _ _)) (hs _ _) hpl), he H eh _ fun G1 H1 v s1 pv => ?_⟩
  exact mkO_rest (ta := tNil) (C := C) (f := f) (Q := fun c d H => W c d σ H) fun H' dd e1 e2 => h G1 H' dd v (s1.h.trans e1) (s1.gh.trans e1) pv e2
/-- raise C(e) in a suite -/
theorem b_raiseXH {p q : Pos} {P : Hp → V → Prop} {pp : Addr × Obj} (hot : L2H.Hot1 X.A pp) (hp : pp ∈ X.pn) (tk : TakesR X W) (O : OwnXH X.prog X.w X.K X.mg X.base x C f) (hr : L2H.RoomH 2 X.A) (hg : Gl X x) (hdb : (x == ("__debug__" : Str)) = false) (eh : Ex G H) (he : JP X σ e G P) (hs : NoStar e) (hpl : (backTo pos (starEach [] X.env)).any (·.1) = false)
    (h : ∀ G' H' dd v, Ex H H' → Ex G' H' → P G' v → H' dd = some (.xd [(f, v)]) → W (.ref C) (some dd) σ H') : wSs X (.Raise (some (.Call (.Name x p) [e] [] pos)) none q :: rest) D σ H := by
  obtain ⟨fI, fd, ps, i1, i2, F, hb⟩ := O.ini
  refine b_cons ⟨_, ps_raiseR hot hp tk (L2H.pmk5_oexH O.o i1 i2 F hr ⟨pp, hot, hp⟩ hb pass0 hg O.at_ (pa_cons pe_w pa_nil (hs _ _)) hdb (hs _ _) hpl).pmk, he H eh _ fun G1 H1 v s1 pv => ?_⟩
  exact mkO_rest (ta := tNil) (C := C) (f := f) (Q := fun c d H => W c d σ H) fun H' dd e1 e2 => h G1 H' dd v (s1.h.trans e1) (s1.gh.trans e1) pv e2
end
end TP

set_option Elab.async false
set_option linter.all false
set_option maxRecDepth 100000
set_option maxHeartbeats 2000000
namespace TP
open PySem PySem.Spec PyProof.Rows L2
open Evl (Ex)
/-! ### what is caught -/
section
variable {X : Cx} {pins pins' : List (Addr × Obj)} {σ : L2.St} {H : Hp} {s' sI : Shared} {B : Heap} {a : Addr} {Z : Obj → Prop} {xe : Value → Shared → Prop} {x n : Str} {c : Value} {i : Nat} {body suite orelse : List Stmt} {b₀ : Stmt} {np pos pos' : Pos} {tb : WX → TS} {ts : Addr → Value → Option Addr → TS}
theorem caught {E₁ : Value → Shared → Prop} {P : Shared → Prop} (hZ : PXN.Steady1 Z) (ok : X.Ok) (hs : X.stack = X.env :: X.outer) (hf : X.env.frame = some X.env.locals) (J : Inv (X.tr (X.pn ++ pins) xe) pins' σ H sI)
    (nb : ∀ b o, sI.heap.get? b = some o → b ∉ frs X.stack → B.get? b = some o) (up : sI.heap.UpToSlots s'.heap) (sky : Sky B X.stack a Z X.env.locals s'.heap) (eos : s'.os = sI.os) (ag : AllBare s'.gens)
    (k : ∀ h3, HandSPX.FlyingZ B (X.env :: X.outer) a Z h3 → (∀ h4, HandSPX.FlyingZ B (X.env :: X.outer) a Z h4 → h3.UpToSlots h4 → Inv X pins σ H { s' with heap := h4 }) → P { s' with heap := h3 }) :
    wpAny (model X.prog X.w) X.A (noteFrame (.ref a) X.env) (fun _ s2 => wpAny (model X.prog X.w) X.A (setFlight (.ref a) none) (fun _ s3 => P s3) E₁ s2) E₁ s' := by
  rw [hs] at sky
  refine L2N.Sky.land hZ (by rw [ok.frames, hs]) hf sky fun h3 fl up3 => k h3 fl fun h4 fl4 up4 => ?_
  exact (J.ofTry ok).landed nb fl4.1 ((up.trans up3).trans up4) eos ag
/-- an object of the ground is no frame's -/
theorem ground_no {l : List Env} {h3 : Heap} {b : Addr} {o : Obj} (fl : HandSPX.FlyingZ B l a Z h3) (e : B.get? b = some o) : b ∉ frs l := fun m => by
  have := (fl.2.2.1.mem m).1
  rw [e] at this
  cases this
theorem flying_no {l : List Env} {h3 : Heap} {oe : Obj} {vs : Array Value} (fl : HandSPX.FlyingZ B l a Z h3) (e : h3.get? a = some oe) (d : oe.data = .fields vs) : a ∉ frs l := fun m => by
  obtain ⟨_, o, e2, nf⟩ := fl.2.2.1.mem m
  cases e.symm.trans e2
  exact nf _ d
theorem off_frs {b : Addr} (hf : X.env.frame = some X.env.locals) (h : b ∉ frs (X.env :: X.outer)) : b ≠ X.env.locals ∧ b ∉ X.fs :=
  ⟨fun z => h (List.mem_filterMap.mpr ⟨X.env, List.mem_cons_self, by rw [hf, z]⟩), fun m => let ⟨e, h1, h2⟩ := List.mem_filterMap.mp m; h (List.mem_filterMap.mpr ⟨e, List.mem_cons_of_mem _ h1, h2⟩)⟩
/-! ### try: a body that raises for sure, what nothing was handled at; the suite raises, too; whatever the else -/
theorem ps_trySure (hs : X.stack = X.env :: X.outer) (hf : X.env.frame = some X.env.locals) (hc : Names X x c) (hpa : ∀ hd : Option Value, PassesOwnAt (model X.prog X.w) (X.A.mark hd) X.A X.env X.xe)
    (hb : ∀ (W : WX) (pn : List (Addr × Obj)) (xe : Value → Shared → Prop), L2N.Takes (X.tr pn xe) W → PassesOwn (model X.prog X.w) X.A X.env xe → PSs (X.tr pn xe) body (tb W))
    (hsu : ∀ (a : Addr) (oe : Obj) (cls : Value) (d : Option Addr) (pn : List (Addr × Obj)), L2H.Hot1 (X.A.mark (some (.ref a))) (a, oe) → PSs (L2H.suiteX X a ((a, oe) :: pn)) (b₀ :: suite) (ts a cls d)) :
    PS X (.Try body [.ExceptHandler (some (.Name x np)) none (b₀ :: suite) pos'] orelse [] pos) (fun D σ H => tb (fun cls d σ H => PySem.W.exmOne X.K cls c = some true ∧ ∀ a, H a = none → ts a cls d D σ H) { nx := fun _ _ => False, rt := fun _ _ => False } σ H) := ⟨fun pins s σ H D I h => by
  have ok := I.ok
  refine wpAny_Try_except (wpAny_mono ((hb _ (X.pn ++ pins) (fun e s1 => wpAny (model X.prog X.w) X.A (noteFrame e X.env) (fun _ s2 => wpAny (model X.prog X.w) X.A (setFlight e none) (fun _ s3 => wpAny (model X.prog X.w) X.A (handleBy e X.env [.ExceptHandler (some (.Name x np)) none (b₀ :: suite) pos']) (SP X pins D) X.xe s3) X.xe s2) X.xe s1)
    (fun u s' xx => ?_) PassesOwn.looking).run [] s σ H _ (I.toTry _) h) (fun f s1 z => ?_) (fun _ _ z => z))
  · obtain ⟨a, B, sI, pins', σ', H', cls, d, rfl, J, nb, up, sky, na, eos, ag, hm, w⟩ := xx
    refine caught L2N.Zn.steady ok hs hf J nb up sky eos ag fun h3 fl inv => ?_
    have J3 := inv h3 fl (Heap.UpToSlots.refl _)
    obtain ⟨o3, v3, e3, z3, d3⟩ := fl.there
    have o3f := off_frs hf (flying_no fl e3 d3)
    have S3 := J3.suite e3 d3 na o3f.1 o3f.2
    have LT : PySem.W.Looks (model X.prog X.w) h3 (typeOf (.ref a)) cls := fun A Q E s k q => wpAny_typeOf_ref (k _ _ e3) (by rw [z3.1]; exact q)
    have named : ∀ {Q E}, Q c { s' with heap := h3 } → wpAny (model X.prog X.w) (X.A.mark (some (.ref a))) (eval (.Name x np) X.env) Q E { s' with heap := h3 } := fun {Q E} q => by
      obtain ⟨hg, hd, hm | ⟨hm, hv, hn⟩⟩ := hc
      · exact ld_glob (X := X.suite a ((a, o3) :: (X.pn ++ pins))) S3 hg hm q hd
      · exact ld_blt (X := X.suite a ((a, o3) :: (X.pn ++ pins))) S3 hg hm hv q hn hd
    refine wpAny_handleBy_cons (codeAny_handlers_test (named ((PySem.W.exm_one (M := model X.prog X.w) J3.kIn LT hm).here ?_))) nofun
    refine codeAny_handlers_suite (HandSPX.lands_againZ fl fun h4 fl4 up4 => ?_)
    have J4 := inv h4 fl4 up4
    obtain ⟨o4, v4, e4, z4, d4⟩ := fl4.there
    have o4f := off_frs hf (flying_no fl4 e4 d4)
    have S4 := L2H.suiteX_of (J4.suite e4 d4 na o4f.1 o4f.2)
    refine wpAny_mono ((hsu a o4 cls d (X.pn ++ pins) ⟨rfl, v4, d4, z4.2.2 v4 d4⟩).run [] _ _ H' _ S4 (w a na)) (fun f s6 z => ?_) (fun e6 s6 z => hpa (some (.ref a)) e6 s6 z)
    cases f with
    | ret u => exact (let ⟨v, σ6, H6, S6, r6, q6⟩ := z; ⟨v, σ6, H6, L2H.unsuiteX S6 ok, r6, q6⟩)
    | next => exact (let ⟨σ6, H6, S6, q6⟩ := z; ⟨σ6, H6, L2H.unsuiteX S6 ok, q6⟩)
    | brk => exact (let ⟨σ6, H6, S6, q6⟩ := z; ⟨σ6, H6, L2H.unsuiteX S6 ok, q6⟩)
    | cont => exact (let ⟨σ6, H6, S6, q6⟩ := z; ⟨σ6, H6, L2H.unsuiteX S6 ok, q6⟩)
  · cases f with
    | ret u => exact (let ⟨_, _, _, _, _, q6⟩ := z; False.elim q6)
    | next => exact (let ⟨_, _, _, q6⟩ := z; False.elim q6)
    | brk => exact (let ⟨_, _, _, q6⟩ := z; False.elim q6)
    | cont => exact (let ⟨_, _, _, q6⟩ := z; False.elim q6)⟩
/-! ### try: a body that raises for sure; except .. as n, the context of what is caught told -/
/-- the caught one at a, what its context is -/
def ChO (a : Addr) (oe : Obj) (y : Option (Addr × Obj)) : Prop := ∃ fx : Array Value, oe.data = .fields fx ∧ match y with
  | none => fx[2]? = some .none
  | some p => fx[2]? = some (.ref p.1) ∧ p.1 ≠ a ∧ ∃ fy : Array Value, p.2.data = .fields fy ∧ fy[2]? = some .none
theorem ps_tryAsR (hs : X.stack = X.env :: X.outer) (hf : X.env.frame = some X.env.locals) (hN : X.N.Nodup) (hi : X.N[i]? = some n) (hln : X.env.kindOf n = some .local) (hc : Names X x c)
    (hb : ∀ (W : WX) (pn : List (Addr × Obj)) (xe : Value → Shared → Prop), TakesR (X.tr pn xe) W → PassesOwn (model X.prog X.w) X.A X.env xe → PSs (X.tr pn xe) body (tb W))
    (hsu : ∀ (a : Addr) (oe : Obj) (cls : Value) (d : Option Addr) (y : Option (Addr × Obj)) (pn : List (Addr × Obj)), Zc cls d oe → ChO a oe y → (∀ q ∈ y.toList, q ∈ pn) → PSs (X.suite a ((a, oe) :: pn)) (b₀ :: suite) (ts a cls d)) :
    PS X (.Try body [.ExceptHandler (some (.Name x np)) (some n) (b₀ :: suite) pos'] orelse [] pos) (fun D σ H => tb (fun cls d σ H => PySem.W.exmOne X.K cls c = some true ∧ ∀ a, H a = none →
      ts a cls d { nx := fun σ' H' => D.nx (σ'.set i none) H', rt := D.rt, bk := fun σ' H' => D.bk (σ'.set i none) H', ct := fun σ' H' => D.ct (σ'.set i none) H' } (σ.set i (some (.ref a))) H) { nx := fun _ _ => False, rt := fun _ _ => False } σ H) := ⟨fun pins s σ H D I h => by
  have ok := I.ok
  refine wpAny_Try_except (wpAny_mono ((hb _ (X.pn ++ pins) (fun e s1 => wpAny (model X.prog X.w) X.A (noteFrame e X.env) (fun _ s2 => wpAny (model X.prog X.w) X.A (setFlight e none) (fun _ s3 => wpAny (model X.prog X.w) X.A (handleBy e X.env [.ExceptHandler (some (.Name x np)) (some n) (b₀ :: suite) pos']) (SP X pins D) X.xe s3) X.xe s2) X.xe s1)
    (fun u s' xx => ?_) PassesOwn.looking).run [] s σ H _ (I.toTry _) h) (fun f s1 z => ?_) (fun _ _ z => z))
  · obtain ⟨a, B, sI, pins', σ', H', cls, d, cv, rfl, J, nb, up, sky, na, eos, ag, gr, hm, w⟩ := xx
    refine caught Zr.st ok hs hf J nb up sky eos ag fun h3 fl inv => ?_
    have J3 := inv h3 fl (Heap.UpToSlots.refl _)
    obtain ⟨o3, v3, e3, z3, d3⟩ := fl.there
    have o3f := off_frs hf (flying_no fl e3 d3)
    have S3 := J3.suite e3 d3 na o3f.1 o3f.2
    have LT : PySem.W.Looks (model X.prog X.w) h3 (typeOf (.ref a)) cls := fun A Q E s k q => wpAny_typeOf_ref (k _ _ e3) (by rw [z3.1.1]; exact q)
    have named : ∀ {Q E}, Q c { s' with heap := h3 } → wpAny (model X.prog X.w) (X.A.mark (some (.ref a))) (eval (.Name x np) X.env) Q E { s' with heap := h3 } := fun {Q E} q => by
      obtain ⟨hg, hd, hm | ⟨hm, hv, hn⟩⟩ := hc
      · exact ld_glob (X := X.suite a ((a, o3) :: (X.pn ++ pins))) S3 hg hm q hd
      · exact ld_blt (X := X.suite a ((a, o3) :: (X.pn ++ pins))) S3 hg hm hv q hn hd
    refine wpAny_handleBy_cons (codeAny_handlers_test (named ((PySem.W.exm_one (M := model X.prog X.w) J3.kIn LT hm).here ?_))) nofun
    refine codeAny_handlers_suite_as (HandSPX.lands_againZ fl fun h4 fl4 up4 => ?_)
    have J4 := inv h4 fl4 up4
    obtain ⟨o4, v4, e4, z4, d4⟩ := fl4.there
    have o4f := off_frs hf (flying_no fl4 e4 d4)
    -- the context's object is pinned, too
    have key : ∃ (y : Option (Addr × Obj)) (pn : List (Addr × Obj)), ChO a o4 y ∧ (∀ q ∈ y.toList, q ∈ X.pn ++ pn) ∧ Inv X pn σ' H' { s' with heap := h4 } ∧ ∀ {σ6 H6 s6}, Inv (X.suite a ((a, o4) :: (X.pn ++ pn))) [] σ6 H6 s6 → Inv X pins σ6 H6 s6 := by
      rcases gr with rfl | ⟨y, oy, fy, rfl, ey, hy, dy, cy⟩
      · exact ⟨none, pins, ⟨v4, d4, z4.2 v4 d4⟩, (fun q hq => by cases hq), J4, fun S => Inv.unsuite (X := X) S ok⟩
      · have yo := off_frs hf (ground_no fl4 ey)
        have ya : y ≠ a := fun z => by rw [z, fl4.2.1] at ey; cases ey
        have mem : ∀ q ∈ (some (y, oy) : Option (Addr × Obj)).toList, q ∈ X.pn ++ (y, oy) :: pins := fun q hq => by
          rcases List.mem_cons.mp hq with e | e
          · rw [e]; exact List.mem_append_right _ List.mem_cons_self
          · cases e
        have J5 : Inv X ((y, oy) :: pins) σ' H' { s' with heap := h4 } := J4.pins_of fun p hp => by
          rcases List.mem_cons.mp hp with e | e
          · rw [e]; exact ⟨fl4.1 _ _ ey, hy, yo.1, yo.2, fun v z => by rw [show (y, oy).2.data = .fields fy from dy] at z; cases z⟩
          · exact J4.pin p (List.mem_append_right _ e)
        refine ⟨some (y, oy), (y, oy) :: pins, ⟨v4, d4, z4.2 v4 d4, ya, fy, dy, cy⟩, mem, J5, fun {σ6 H6 s6} S => ?_⟩
        have S2 : Inv X ((y, oy) :: pins) σ6 H6 s6 := Inv.unsuite (X := X) S ok
        exact S2.pins_of fun p hp => S2.pin p (List.mem_append_right _ (List.mem_cons_of_mem _ hp))
    obtain ⟨y, pn, hch, hyp, J5, out⟩ := key
    have S4 := J5.suite e4 d4 na o4f.1 o4f.2
    refine store_ok (X := X.suite a ((a, o4) :: (X.pn ++ pn))) (v := .ref a) S4 hN hi (.inl hln) rfl (fun s5 S5 => ?_) (.inr hln)
    refine wpAny_mono ((hsu a o4 cls d y (X.pn ++ pn) z4.1 hch hyp).run [] s5 _ H' _ S5 (w a na)) (fun f s6 z => ?_) (fun _ _ z => False.elim z)
    have fin : ∀ {σ6 : L2.St} {H6 : Hp} {Q : Shared → Prop}, Inv (X.suite a ((a, o4) :: (X.pn ++ pn))) [] σ6 H6 s6 → (∀ s7, Inv X pins (σ6.set i none) H6 s7 → Q s7) → wpAny (model X.prog X.w) X.A (do bindName X.env n .none; unbindBehindTheSuite X.env n pos') (fun _ s7 => Q s7) X.xe s6 := fun {σ6 H6 Q} S6 q => gone_ok (out S6) hN hi hln q
    cases f with
    | ret u =>
      obtain ⟨v, σ6, H6, S6, r6, q6⟩ := z
      exact fin S6 fun s7 J7 => ⟨v, _, _, J7, r6, q6⟩
    | next =>
      obtain ⟨σ6, H6, S6, q6⟩ := z
      exact fin S6 fun s7 J7 => ⟨_, _, J7, q6⟩
    | brk =>
      obtain ⟨σ6, H6, S6, q6⟩ := z
      exact fin S6 fun s7 J7 => ⟨_, _, J7, q6⟩
    | cont =>
      obtain ⟨σ6, H6, S6, q6⟩ := z
      exact fin S6 fun s7 J7 => ⟨_, _, J7, q6⟩
  · cases f with
    | ret u => exact (let ⟨_, _, _, _, _, q6⟩ := z; False.elim q6)
    | next => exact (let ⟨_, _, _, q6⟩ := z; False.elim q6)
    | brk => exact (let ⟨_, _, _, q6⟩ := z; False.elim q6)
    | cont => exact (let ⟨_, _, _, q6⟩ := z; False.elim q6)⟩
end
/-! ### any(xs) in such a suite -/
section
variable {X : Cx} {a : Addr} {oe : Obj} {y : Option (Addr × Obj)}
theorem walks_any {prog : Program} {w : World} {A : Around} {x : Addr} {yy : Option Addr} (hh : A.handled = some (.ref x)) (I ax : Addr) (hne : ax ≠ I) (hI : I ∉ chFp x yy) (items : Array Value) :
    Walks prog w A I (I :: ax :: chFp x yy) [I] items.size (fun i v => items[i]? = some v) (fun i h => (h.IsListIter I ax i ∧ h.IsList ax items) ∧ Ch h x yy) where
  sub := fun b hb => by rcases List.mem_cons.mp hb with rfl | hb; exact List.mem_cons_self; cases hb
  frame := fun i h h' st k => ⟨⟨st.1.1.at fun o e => k I (by simp) o e, st.1.2.at fun o e => k ax (by simp) o e⟩, st.2.keep fun b hb o e => k b (List.mem_cons_of_mem _ (List.mem_cons_of_mem _ hb)) o e⟩
  item := fun i s Q E hi st hQ => by
    refine wpAny_pyNext_list_item st.1.1 st.1.2 (x := items[i]) (by simp [hi]) fun h' it' sb => ?_
    exact hQ _ h' s.toks (by simp [hi]) ⟨⟨it', st.1.2.extBut sb.extBut hne⟩, st.2.keep fun b hb o e => sb.extBut b o (fun z => hI (z ▸ hb)) e⟩ fun b o hb e => sb.extBut b o (fun z => hb (by simp [z])) e
  done := fun s Q E st hQ => listEnd_any hh st.2 hI st.1.1 st.1.2 (by simp) fun h' k => hQ h' s.toks fun b o hb e => k b o (fun z => hb (by simp [z])) e
  self := fun _ _ _ _ st hQ => wpAny_pyIter_listiter st.1.1 hQ
theorem ChO.ch {pins : List (Addr × Obj)} {σ : L2.St} {H : Hp} {s : Shared} {pn : List (Addr × Obj)} (c : ChO a oe y) (hp : (a, oe) ∈ X.pn) (hy : ∀ q ∈ y.toList, q ∈ X.pn) (I : Inv X pins σ H s) : Ch s.heap a (y.map (·.1)) := by
  obtain ⟨fx, d, c⟩ := c
  have g := (I.pin (a, oe) (List.mem_append_left _ hp)).1
  refine ⟨oe, fx, g, d, ?_⟩
  cases y with
  | none => exact c
  | some p =>
    obtain ⟨c1, c2, fy, c3, c4⟩ := c
    exact ⟨c1, c2, p.2, fy, (I.pin p (List.mem_append_left _ (hy p List.mem_cons_self))).1, c3, c4⟩
theorem cr_anyR (hh : X.A.handled = some (.ref a)) (c : ChO a oe y) (hp : (a, oe) ∈ X.pn) (hy : ∀ q ∈ y.toList, q ∈ X.pn) : CallR X (.builtin "any") (rAny X.K) := by
  intro pins s σ H vs us Q I r ⟨l, bs, ev, hs, q⟩
  subst ev
  obtain ⟨its, rv, hl, _⟩ := I.list hs
  rw [Vals.ref1 r]
  have eb := rv.bls
  have ch := ChO.ch (pn := []) c hp hy I
  refine call_any_walk (iter_any hl.isList fun s2 e2 st ne => ?_)
  subst e2
  have fr : s.heap.objs.size ∉ chFp a (y.map (·.1)) := fun m => (ch.there _ m).elim fun o e => Nat.lt_irrefl _ (Heap.lt_size e)
  refine ⟨_, _, _, _, _, _, _, rfl, walks_any (A := X.A.in1) hh _ l ne fr its.toArray, ⟨st, ch.keep fun b _ o e => Heap.get?_push_of_some _ e⟩, truth_bools eb, fun h' tk k => ⟨.bl _, H, I.kept fun b o eo => k b o (fun m => ?_) (Heap.get?_push_of_some _ eo), ?_, q⟩⟩
  · rcases List.mem_cons.mp m with e1 | m
    · exact Nat.lt_irrefl _ (e1 ▸ Heap.lt_size eo)
    · cases m
  · show Value.bool _ = Value.bool _
    rw [← L2.any_range, eb, List.size_toArray, List.length_map]
end
end TP

set_option Elab.async false
set_option linter.all false
set_option maxRecDepth 100000
set_option maxHeartbeats 2000000
namespace TP
open PySem PySem.Spec PyProof.Rows L2
open Evl (Ex)
/-! ### defs that raise: the context None (N), told (T) -/
def DfT (P : Program) (w : World) (K : PySem.W.Frag) (mg : Str → Option Value) (base : Heap) (x : Str) (k : Nat) (sp : Sp) : Prop :=
  ∃ f fd ps, FnOk P w K mg base (CXr P w) k f fd ps sp ∧ mg x = some (.ref f) ∧ PySem.W.keepIn K (.ref f) = true ∧ Binds K fd ps []
def MkrN (P : Program) (w : World) (K : PySem.W.Frag) (mg : Str → Option Value) (base : Heap) (C : Addr) (k : Nat) (sp : Sp) : Prop :=
  ∃ f fd ps, FnOk P w K mg base (L2N.CX P w) k f fd ps sp ∧ Mk K C f ∧ Binds K fd ps []
/-- it raises c, whose field f holds a number told by the entry -/
def spRT {ι : Type} (pre : ι → Prop) (Ps : ι → List (Hp → V → Prop)) (c : Addr) (f : Str) (r : ι → Nat) : Sp := fun vs H _ E =>
  ∃ i G, Ex G H ∧ pre i ∧ Al G (Ps i) vs ∧ ∀ H' dd, Ex H H' → H' dd = some (.xd [(f, .int (r i : Int))]) → E (.ref c) (some dd) H'
section
variable {P : Program} {w : World} {K : PySem.W.Frag} {mg : Str → Option Value} {base : Heap}
theorem fun_okT {ι : Type} {pre : ι → Prop} {Ps : ι → List (Hp → V → Prop)} {c : Addr} {fl : Str} {r : ι → Nat} {x qual : Str} {st : Stmt} {f : Addr} {fd : FuncData} {N ps : List Str} {k : Nat} (F : Fun K x qual st f fd) (S : FnScope N ps (defScope st)) (hl : ∀ i, (Ps i).length = ps.length)
    (hb : ∀ (cdv : Value) (A : Around) (outer : List Env) (s : Shared) (H : Hp) (vs : List V) (Q : VK) (E : XK) (i : ι) (G : Hp), Room k (A.deeper (envOfC qual (defScope st) s.heap.objs.size f cdv)) → pre i → Al G (Ps i) vs → Hs G H G H [] →
      (∀ H' dd, Ex H H' → H' dd = some (.xd [(fl, .int (r i : Int))]) → E (.ref c) (some dd) H') →
      wSs (cxOf (CXr P w) P w K mg base N qual (defScope st) f cdv A outer s H E) (defBody st) { nx := fun _ H' => Q .non H', rt := Q } (start N vs) H) : FnOk P w K mg base (CXr P w) (k + 1) f fd ps (spRT pre Ps c fl r) := by
  obtain ⟨oc, od, kV, doc, pm, an, cdv, ct, osl, rfl, lk, hcd⟩ := F.ex
  exact fn_of lk hcd S (fun vs H Q E ⟨i, G, _, _, al, _⟩ => al.length.trans (hl i)) fun A outer s H vs Q E hr ⟨i, G, eh, hp, al, k⟩ => hb cdv A outer s H vs Q E i G hr hp al (.nil eh) k
theorem fun_okRIN {ι : Type} {C : Addr} {pre : ι → Prop} {Ps : ι → List (Hp → V → Prop)} {c : Addr} {n : Bool} {x qual : Str} {st : Stmt} {f : Addr} {fd : FuncData} {N ps : List Str} {k : Nat} (F : Fun K x qual st f fd) (S : FnScope N ps (defScope st)) (hl : ∀ i, (Ps i).length + 1 = ps.length)
    (hb : ∀ (cdv : Value) (A : Around) (outer : List Env) (s : Shared) (H : Hp) (us : List V) (Q : VK) (E : XK) (i : ι) (G H0 : Hp) (x dx : Addr), Room k (A.deeper (envOfC qual (defScope st) s.heap.objs.size f cdv)) → pre i → Al G (Ps i) us → Hs G H0 G H [(x, .ins C dx []), (dx, .own x)] →
      (∀ H' d, Ex H0 H' → Dct n H' d → E (.ref c) d H') →
      wSs (cxOf (L2N.CX P w) P w K mg base N qual (defScope st) f cdv A outer s H E) (defBody st) { nx := fun _ H' => Q .non H', rt := Q } (start N (.ref x :: us)) H) : FnOk P w K mg base (L2N.CX P w) (k + 1) f fd ps (spRI C pre Ps c n) := by
  obtain ⟨oc, od, kV, doc, pm, an, cdv, ct, osl, rfl, lk, hcd⟩ := F.ex
  refine fn_of lk hcd S (fun vs H Q E ⟨i, G, H0, x, dx, us, e, _, _, al, _⟩ => by rw [e, List.length_cons, al.length]; exact hl i) fun A outer s H vs Q E hr ⟨i, G, H0, x, dx, us, e, h, hp, al, k⟩ => ?_
  subst e
  exact hb cdv A outer s H us Q E i G H0 x dx hr hp al h k
end
section
variable {P : Program} {w : World} {K : PySem.W.Frag} {mg : Str → Option Value} {base h : Heap} {C : Addr} {x q : Str} {st : Stmt}
theorem Gf.dfT {k : Nat} {sp : Sp} (ps : List Str) (g : Gf K x st) (X : K.In h) (G : h.Ns mainGlobals mg) (ok : ∀ f fd, Fun K x x st f fd → FnOk P w K mg base (CXr P w) k f fd ps sp)
    (hb : ∀ (kV doc pm : Value) (an : Option Addr) (cdv ct : Value) (us : List Value), us.length = ps.length → bindArgs (PySem.W.fnOf x x (defArgs st) (defBody st) (defScope st) .none kV doc pm an cdv ct) ⟨us, []⟩ = pure (ps.zip us)) : DfT P w K mg base x k sp :=
  let ⟨f, fd, a, F⟩ := g
  ⟨f, fd, ps, ok f fd F, PySem.W.mg_of X G a, F.kp, F.binds hb⟩
theorem Gm.mkrN {k : Nat} {sp : Sp} (ps : List Str) (g : Gm K C "__init__" q st) (mk : PySem.W.makesIn K C = true) (kc : PySem.W.keepIn K (.ref C) = true) (ok : ∀ f fd, Fun K "__init__" q st f fd → FnOk P w K mg base (L2N.CX P w) k f fd ps sp)
    (hb : ∀ (kV doc pm : Value) (an : Option Addr) (cdv ct : Value) (us : List Value), us.length = ps.length → bindArgs (PySem.W.fnOf "__init__" q (defArgs st) (defBody st) (defScope st) .none kV doc pm an cdv ct) ⟨us, []⟩ = pure (ps.zip us)) : MkrN P w K mg base C k sp :=
  let ⟨f, fd, a, F⟩ := g
  ⟨f, fd, ps, ok f fd F, ⟨mk, a.at_, a.fn, kc⟩, F.binds hb⟩
end
section
variable {X : Cx} {σ : L2.St} {e o a b c : Expr} {es : List Expr} {G G0 H0 H : Hp} {pos : Pos} {x : Str} {k : Nat} {ι : Type} {pre : ι → Prop} {Ps : ι → List (Hp → V → Prop)} {rest : List Stmt} {D : Ends} {os : List (Addr × HO)} {W : WX} {C cl : Addr} {n : Bool}
theorem b_raiseN {m : Str} {j : Nat} {p p2 q : Pos} (hc : X.calm = true) (tk : L2N.Takes X W) (O : Own X.K X.mg x cl) (hg : Gl X x) (hd : (x == ("__debug__" : Str)) = false) (h : W (.ref cl) none σ H) :
    wSs X (.Raise (some (.Call (.Name x p) [.Constant (.str m) j p2] [] pos)) none q :: rest) D σ H :=
  b_cons ⟨_, L2N.ps_raise hc tk (L2N.pmk_own PySem.F.excBase_ValueError O.ex O.at_ O.kp (raises_own O.sub O.ty) hg hd), h⟩
theorem passN (tk : L2N.Takes X W) : Passes (L2N.CX X.prog X.w) X (fun c d H => ∀ σ : L2.St, σ.length = X.N.length → W c d σ H) :=
  fun pins σ H s e s' I z => tk e s' (L2N.XE.of_call I (fun _ _ _ h => h σ I.len) z)
theorem we_makeN {p : Pos} {Q : VK} (tk : L2N.Takes X W) (F : MkrN X.prog X.w X.K X.mg X.base C k (spRI C pre Ps cl n)) (hr : Room (k + 1) X.A) (hg : Gl X x) (hm : X.mg x = some (.ref C)) (i : ι) (hp : pre i) (ha : JA X σ (e :: es) G (fun G vs => Al G (Ps i) vs)) (hs : NoStar e) (hdb : (x == ("__debug__" : Str)) = false)
    (hpl : (backTo pos (starEach es X.env)).any (·.1) = false) (eh : Ex G H) (q : ∀ H' d, Ex H H' → Dct n H' d → ∀ σ : L2.St, σ.length = X.N.length → W (.ref cl) d σ H') : wE X (.Call (.Name x p) (e :: es) [] pos) σ H Q := by
  obtain ⟨f, fd, ps, hf, mk, hb⟩ := F
  refine ⟨_, pe_make mk hf hr hg hm hb .nil (passN tk) pa_w hdb (hs _ _) hpl, ha H eh _ fun G1 H1 vs s1 al xx dx hx hdx ne => ?_⟩
  rw [List.append_nil]
  exact ⟨i, G1, H1, xx, dx, vs, rfl, made_hs s1.gh hx hdx ne, hp, al, fun H' d e z => q H' d (s1.h.trans e) z⟩
theorem we_callT {p : Pos} {Q : VK} {f : Str} {r : ι → Nat} (tk : TakesR X W) (F : DfT X.prog X.w X.K X.mg X.base x k (spRT pre Ps cl f r)) (hr : Room k X.A) (hg : Gl X x) (i : ι) (hp : pre i) (ha : JA X σ (e :: es) G (fun G vs => Al G (Ps i) vs)) (hs : NoStar e) (hdb : (x == ("__debug__" : Str)) = false)
    (hpl : (backTo pos (starEach es X.env)).any (·.1) = false) (eh : Ex G H) (q : ∀ H' dd, Ex H H' → H' dd = some (.xd [(f, .int (r i : Int))]) → ∀ σ : L2.St, σ.length = X.N.length → W (.ref cl) (some dd) σ H') : wE X (.Call (.Name x p) (e :: es) [] pos) σ H Q := by
  obtain ⟨fa, fd, ps, hf, hm, hk, hb⟩ := F
  refine ⟨_, pe_call hf hr hg hm hk hb .nil (passesR tk) pa_w hdb (hs _ _) hpl, ha H eh _ fun G1 H1 vs s1 al => ?_⟩
  rw [List.append_nil]
  exact ⟨i, G1, s1.gh, hp, al, fun H' dd e z => q H' dd (s1.h.trans e) z⟩
/-- the suites, read as widely as may be -/
def tSuiteT (X : Cx) (sts : List Stmt) : Addr → Value → Option Addr → TS := fun a cls d D σ H => ∀ oe y pn, Zc cls d oe → ChO a oe y → (∀ q ∈ y.toList, q ∈ pn) → wSs (X.suite a ((a, oe) :: pn)) sts D σ H
def tSuiteS (X : Cx) (sts : List Stmt) : Addr → Value → Option Addr → TS := fun a cls d D σ H => ∀ oe pn, L2H.Hot1 (X.A.mark (some (.ref a))) (a, oe) → wSs (L2H.suiteX X a ((a, oe) :: pn)) sts D σ H
def endF : Ends := { nx := fun _ _ => False, rt := fun _ _ => False }
theorem b_tryT {y nm : Str} {c : Value} {i : Nat} {body suite orelse : List Stmt} {b₀ : Stmt} {np pos' q : Pos} (hs : X.stack = X.env :: X.outer) (hf : X.env.frame = some X.env.locals) (hN : X.N.Nodup) (hi : X.N[i]? = some nm) (hln : X.env.kindOf nm = some .local) (hc : Names X y c)
    (h : ∀ pn xe, TakesR (X.tr pn xe) (fun cls d σ H => PySem.W.exmOne X.K cls c = some true ∧ ∀ a, H a = none → tSuiteT X (b₀ :: suite) a cls d { nx := fun σ' H' => wSs X rest D (σ'.set i none) H', rt := D.rt, bk := fun σ' H' => D.bk (σ'.set i none) H', ct := fun σ' H' => D.ct (σ'.set i none) H' } (σ.set i (some (.ref a))) H) →
      PassesOwn (model X.prog X.w) X.A X.env xe → wSs (X.tr pn xe) body endF σ H) :
    wSs X (.Try body [.ExceptHandler (some (.Name y np)) (some nm) (b₀ :: suite) pos'] orelse [] q :: rest) D σ H :=
  b_cons ⟨_, ps_tryAsR (tb := fun W D σ H => ∀ pn xe, TakesR (X.tr pn xe) W → PassesOwn (model X.prog X.w) X.A X.env xe → wSs (X.tr pn xe) body D σ H) hs hf hN hi hln hc
    (fun W pn xe tk hp => ⟨fun pins s σ H D I z => pss_w.run pins s σ H D I (z pn xe tk hp)⟩)
    (fun a oe cls d y pn hz hv hy => ⟨fun pins s σ H D I z => pss_w.run pins s σ H D I (z oe y pn hz hv hy)⟩), h⟩
theorem b_tryS {y : Str} {c : Value} {body suite orelse : List Stmt} {b₀ : Stmt} {np pos' q : Pos} (hs : X.stack = X.env :: X.outer) (hf : X.env.frame = some X.env.locals) (hc : Names X y c) (hpa : ∀ hd : Option Value, PassesOwnAt (model X.prog X.w) (X.A.mark hd) X.A X.env X.xe)
    (h : ∀ pn xe, L2N.Takes (X.tr pn xe) (fun cls d σ H => PySem.W.exmOne X.K cls c = some true ∧ ∀ a, H a = none → tSuiteS X (b₀ :: suite) a cls d { D with nx := wSs X rest D } σ H) → PassesOwn (model X.prog X.w) X.A X.env xe → wSs (X.tr pn xe) body endF σ H) :
    wSs X (.Try body [.ExceptHandler (some (.Name y np)) none (b₀ :: suite) pos'] orelse [] q :: rest) D σ H :=
  b_cons ⟨_, ps_trySure (tb := fun W D σ H => ∀ pn xe, L2N.Takes (X.tr pn xe) W → PassesOwn (model X.prog X.w) X.A X.env xe → wSs (X.tr pn xe) body D σ H) hs hf hc hpa
    (fun W pn xe tk hp => ⟨fun pins s σ H D I z => pss_w.run pins s σ H D I (z pn xe tk hp)⟩)
    (fun a oe cls d pn hot => ⟨fun pins s σ H D I z => pss_w.run pins s σ H D I (z oe pn hot)⟩), h⟩
/-- any(xs) in the suite -/
theorem jv_anyT {bs : List Bool} {p : Pos} {ea : Addr} {oe : Obj} {y : Option (Addr × Obj)} (hh : X.A.handled = some (.ref ea)) (c : ChO ea oe y) (hp : (ea, oe) ∈ X.pn) (hy : ∀ q ∈ y.toList, q ∈ X.pn) (hm : X.mg "any" = none) (ha : JD X σ a G (.list (bs.map .bool))) (hg : Gl X "any") (hb : bootBuiltins "any" = some (.builtin "any")) (he : NoStar a) :
    JV X σ (.Call (.Name "any" p) [a] [] pos) G (.bl (bs.any id)) := ⟨fun H eh Q q =>
  ⟨_, pe_callB (cr_anyR hh c hp hy) hg hm hb (pa_cons pe_w pa_nil (he _ _)) (he := he _ _), ha H eh _ fun G1 H1 x s1 p1 => by
    cases p1 with
    | lst hl hd =>
      cases hd.bls
      exact ⟨_, bs, rfl, SqL.of (s1.gh _ _ hl), q H1 s1.h⟩⟩⟩
/-- e.f, e the exception that the suite holds -/
theorem jv_xf {ea D : Addr} {oe : Obj} {dd : Addr} {pn : List (Addr × Obj)} {f : Str} {v : V} {X0 : Cx} {σ : L2.St} {G : Hp} (T : XfC X0.K D) (hno : PySem.W.findIn X0.K (.ref D) f = some none) (hz : Zc (.ref D) (some dd) oe) (hf : ∃ vs, oe.data = .fields vs) (ha : JV (X0.suite ea ((ea, oe) :: pn)) σ a G (.ref ea)) (hd : G dd = some (.xd [(f, v)]))
    (hb : attributeBase a f X0.env (eval a X0.env) = eval a X0.env) : JV (X0.suite ea ((ea, oe) :: pn)) σ (.Attribute a f pos) G v := ⟨fun H eh Q q =>
  ⟨_, pe_xf T hno hz hf pe_w hb, ha H eh _ fun H1 e1 => ⟨rfl, rfl, dd, [(f, v)], v, rfl, e1 _ _ (eh _ _ hd), by simp [List.lookup], q H1 e1⟩⟩⟩
end
end TP

set_option Elab.async false
set_option linter.all false
set_option maxRecDepth 100000
set_option maxHeartbeats 2000000
namespace TP
open PySem PySem.Spec PyProof.Rows L2
open Evl (Ex)
section
variable {X : Cx} {σ : L2.St} {e : Expr} {es : List Expr} {G H : Hp} {pos : Pos} {x : Str} {k : Nat} {ι : Type} {pre : ι → Prop} {Ps : ι → List (Hp → V → Prop)} {W : WX} {C cl : Addr} {n : Bool}
/-- C(e, ..) raises, the slots told -/
theorem we_makeAt {p : Pos} {Q : VK} (tk : L2N.Takes X W) (F : MkrN X.prog X.w X.K X.mg X.base C k (spRI C pre Ps cl n)) (hr : Room (k + 1) X.A) (hg : Gl X x) (hm : X.mg x = some (.ref C)) (i : ι) (hp : pre i) (ha : JA X σ (e :: es) G (fun G vs => Al G (Ps i) vs)) (hs : NoStar e) (hdb : (x == ("__debug__" : Str)) = false)
    (hpl : (backTo pos (starEach es X.env)).any (·.1) = false) (eh : Ex G H) (q : ∀ H' d, Ex H H' → Dct n H' d → W (.ref cl) d σ H') : wE X (.Call (.Name x p) (e :: es) [] pos) σ H Q := by
  obtain ⟨f, fd, ps, hf, mk, hb⟩ := F
  refine ⟨fun σ H _ => wA X (e :: es) σ H fun vs H1 => ∀ xx dx, H1 xx = none → H1 dx = none → dx ≠ xx → spRI C pre Ps cl n (.ref xx :: vs) (upd (upd H1 dx (.own xx)) xx (.ins C dx [])) (fun _ _ => False) (fun c d H => W c d σ H), ⟨fun pins s σ H Q I h => ?_⟩, ha H eh _ fun G1 H1 vs s1 al xx dx hx hdx ne => ⟨i, G1, H1, xx, dx, vs, rfl, made_hs s1.gh hx hdx ne, hp, al, fun H' d e z => q H' d (s1.h.trans e) z⟩⟩
  refine wpAny_Call_Name_kw (ld_glob I hg hm (PySem.W.callWith_K (h₀ := X.base) I.ok.mod.kin mk.kp (thn (pa_w.run pos pins s σ H _ I h) fun us s1 ⟨vs, H1, I1, r, z⟩ => ⟨I1.kIn, ?_⟩) (hs _ _) hpl) hdb)
  have want := z (s1.heap.objs.size + 1) s1.heap.objs.size (I1.hok.fresh (Nat.le_succ _)) (I1.hok.fresh (Nat.le_refl _)) (Nat.ne_of_lt (Nat.lt_succ_self _))
  have I2 := Inv.made (C := C) I1
  have r2 : Vals (V.ref (s1.heap.objs.size + 1) :: vs) (Value.ref (s1.heap.objs.size + 1) :: us) := .cons rfl r
  have bt := hb _ (Value.ref (s1.heap.objs.size + 1) :: us) I2.kIn (by rw [List.append_nil, ← r2.length]; exact hf.len _ _ _ _ want)
  rw [List.append_nil] at bt
  refine wpAny_call (make_map (f := f) I1.kIn mk.makes mk.init (beq_iff_eq.mp mk.fn) (codeAny_mono (hf.run _ X.stack _ _ _ _ _ _ _ (hr.make C us []) (I2.env0.make C us []) bt r2 want) fun res s2 hq => ?_))
  match res, hq with
  | .error er, hq => exact tk er s2 (L2N.XE.of_call I2 (fun _ _ _ w => w) hq)
  | .ok (.ret u), hq => exact (let ⟨_, _, _, _, _, _, _, w⟩ := hq; False.elim w)
  | .ok .next, hq => exact False.elim hq
  | .ok .brk, hq => exact False.elim hq
  | .ok .cont, hq => exact False.elim hq
end
end TP

set_option Elab.async false
set_option linter.all false
set_option maxRecDepth 100000
set_option maxHeartbeats 2000000
namespace TP
open PySem PySem.Spec PyProof.Rows L2
/-! ### texts, plain: what is put together with a sign that no part has comes apart as it was -/
def jl (c : Nat) : List (List Nat) → List Nat
  | [] => []
  | [p] => p
  | p :: q :: r => p ++ c :: jl c (q :: r)
theorem first_cut {c : Nat} : ∀ {p q A B : List Nat}, c ∉ p → c ∉ q → p ++ c :: A = q ++ c :: B → p = q ∧ A = B
  | [], [], A, B, _, _, h => by simpa using h
  | [], b :: q, A, B, _, hq, h => by
    simp at h
    exact absurd h.1 (fun e => hq (by rw [e]; exact List.mem_cons_self))
  | a :: p, [], A, B, hp, _, h => by
    simp at h
    exact absurd h.1 (fun e => hp (by rw [e]; exact List.mem_cons_self))
  | a :: p, b :: q, A, B, hp, hq, h => by
    simp at h
    obtain ⟨h1, h2⟩ := first_cut (fun z => hp (List.mem_cons_of_mem _ z)) (fun z => hq (List.mem_cons_of_mem _ z)) h.2
    exact ⟨by rw [h.1, h1], h2⟩
theorem jl_has {c : Nat} (p q : List Nat) (r : List (List Nat)) : c ∈ jl c (p :: q :: r) := by simp [jl]
theorem jl_inj {c : Nat} : ∀ {ps qs : List (List Nat)}, ps ≠ [] → qs ≠ [] → (∀ p ∈ ps, c ∉ p) → (∀ p ∈ qs, c ∉ p) → jl c ps = jl c qs → ps = qs
  | [], _, h, _, _, _, _ => absurd rfl h
  | _ :: _, [], _, h, _, _, _ => absurd rfl h
  | [p], [q], _, _, _, _, h => by simp [jl] at h; rw [h]
  | [p], q :: q2 :: r, _, _, hp, _, h => by
    have : c ∈ p := by rw [show p = jl c [p] from rfl, h]; exact jl_has _ _ _
    exact absurd this (hp p List.mem_cons_self)
  | p :: p2 :: r, [q], _, _, _, hq, h => by
    have : c ∈ q := by rw [show q = jl c [q] from rfl, ← h]; exact jl_has _ _ _
    exact absurd this (hq q List.mem_cons_self)
  | p :: p2 :: r, q :: q2 :: r2, _, _, hp, hq, h => by
    obtain ⟨h1, h2⟩ := first_cut (hp p List.mem_cons_self) (hq q List.mem_cons_self) h
    rw [h1, jl_inj (by simp) (by simp) (fun z hz => hp z (List.mem_cons_of_mem _ hz)) (fun z hz => hq z (List.mem_cons_of_mem _ hz)) h2]
theorem cps_join (c : Nat) : ∀ ps : List Str, (Str.join ⟨#[c]⟩ ps).cps.toList = jl c (ps.map fun p => p.cps.toList)
  | [] => rfl
  | [p] => rfl
  | p :: q :: r => by
    show (p ++ ⟨#[c]⟩ ++ Str.join ⟨#[c]⟩ (q :: r)).cps.toList = _
    rw [PySem.Str.cps_append, PySem.Str.cps_append, Array.toList_append, Array.toList_append, cps_join c (q :: r)]
    simp [jl]
theorem str_inj {ps qs : List Str} (h : ps.map (fun p => p.cps.toList) = qs.map fun p => p.cps.toList) : ps = qs := by
  induction ps generalizing qs with
  | nil => cases qs with
    | nil => rfl
    | cons q qs => simp at h
  | cons p ps ih => cases qs with
    | nil => simp at h
    | cons q qs =>
      simp at h
      rw [ih h.2, Str.ext' h.1]
theorem split_join {c : Nat} {ps : List Str} (h0 : ps ≠ []) (hf : ∀ p ∈ ps, c ∉ p.cps.toList) : Txt.split (Txt.join ⟨#[c]⟩ ps) ⟨#[c]⟩ = ps := by
  have e1 : Str.join ⟨#[c]⟩ (Txt.split (Txt.join ⟨#[c]⟩ ps) ⟨#[c]⟩) = Str.join ⟨#[c]⟩ ps := by
    rw [StrLaws.join_split]
    exact StrLaws.glued_eq_join _ _
  have e2 := congrArg (fun z => z.cps.toList) e1
  simp only [cps_join] at e2
  have h1 := split_pos (Txt.join ⟨#[c]⟩ ps) ⟨#[c]⟩
  refine str_inj (jl_inj (fun z => ?_) (fun z => ?_) (fun p hp => ?_) (fun p hp => ?_) e2)
  · simp at z; rw [z] at h1; simp at h1
  · simp at z; exact h0 z
  · obtain ⟨q, hq, rfl⟩ := List.mem_map.mp hp
    exact StrLaws.split_free _ c q hq
  · obtain ⟨q, hq, rfl⟩ := List.mem_map.mp hp
    exact hf q hq
/-! ### figures -/
def dg (n : Nat) : Str := ⟨#[48 + n]⟩
theorem dg_str : ∀ n : Nat, n < 6 → (toString (n : Int) : Str) = dg n := by
  intro n hn
  match n, hn with
  | 0, _ => decide +kernel
  | 1, _ => decide +kernel
  | 2, _ => decide +kernel
  | 3, _ => decide +kernel
  | 4, _ => decide +kernel
  | 5, _ => decide +kernel
theorem dg_int : ∀ n : Nat, n < 6 → PySem.intText? (dg n) = some (n : Int) := by
  intro n hn
  match n, hn with
  | 0, _ => decide +kernel
  | 1, _ => decide +kernel
  | 2, _ => decide +kernel
  | 3, _ => decide +kernel
  | 4, _ => decide +kernel
  | 5, _ => decide +kernel
theorem dg_in : ∀ n : Nat, n < 6 → (Builtin.Str.occurrences ("012345" : Str) (dg n) 0 ("012345" : Str).length 1).isEmpty = false := by
  intro n hn
  match n, hn with
  | 0, _ => decide +kernel
  | 1, _ => decide +kernel
  | 2, _ => decide +kernel
  | 3, _ => decide +kernel
  | 4, _ => decide +kernel
  | 5, _ => decide +kernel
theorem sp_ : (" " : Str) = ⟨#[32]⟩ := by decide +kernel
theorem nl_ : ("\n" : Str) = ⟨#[10]⟩ := by decide +kernel
theorem co_ : (":" : Str) = ⟨#[58]⟩ := by decide +kernel
/-- the words of a row, its text, the text of the lists -/
def wordsOf (c : Nat) (row : List Nat) : List Str := (dg c ++ ":") :: row.map dg
def rowText (c : Nat) (row : List Nat) : Str := Txt.join " " (wordsOf c row)
def rowsOf (L : List (List Nat)) : List Str := (List.range L.length).map fun c => rowText c (L.getD c [])
def textOf (L : List (List Nat)) : Str := Txt.join "\n" (rowsOf L)
theorem log_ok {n : Nat} (h : n < 6) : ((n : Int)).natAbs.log2 < 1920 := by
  match n, h with
  | 0, _ => decide +kernel
  | 1, _ => decide +kernel
  | 2, _ => decide +kernel
  | 3, _ => decide +kernel
  | 4, _ => decide +kernel
  | 5, _ => decide +kernel
theorem dg_len (n : Nat) : (dg n).length = 1 := rfl
theorem dgc_len (n : Nat) : (dg n ++ ":").length = 2 := by rw [strLen_append]; rfl
theorem sum_dg : ∀ row : List Nat, ((row.map dg).map (·.length)).sum = row.length
  | [] => rfl
  | a :: r => by
    rw [List.map_cons, List.map_cons, List.sum_cons, sum_dg r, List.length_cons, dg_len]
    omega
theorem words_sum (c : Nat) (row : List Nat) : ((wordsOf c row).map (·.length)).sum = 2 + row.length := by
  unfold wordsOf
  rw [List.map_cons, List.sum_cons, sum_dg, dgc_len]
theorem words_len (c : Nat) (row : List Nat) : (wordsOf c row).length = 1 + row.length := by
  unfold wordsOf
  rw [List.length_cons, List.length_map]
  omega
theorem sp_len : (" " : Str).length = 1 := by decide +kernel
theorem nl_len : ("\n" : Str).length = 1 := by decide +kernel
theorem row_len (c : Nat) (row : List Nat) : (rowText c row).length = 2 + 2 * row.length := by
  unfold rowText
  show (Builtin.Str.glued " " (wordsOf c row)).length = _
  rw [StrLaws.glued_eq_join]
  have h := len_join_cons " " (dg c ++ ":") (row.map dg)
  have h2 := words_sum c row
  unfold wordsOf at h2 ⊢
  rw [h, h2, sp_len, List.length_map]
  omega
theorem rows_len (L : List (List Nat)) : (rowsOf L).length = L.length := by unfold rowsOf; rw [List.length_map, List.length_range]
theorem rows_sum {f : Nat → Str} {n : Nat} : ∀ {xs : List Nat}, (∀ x ∈ xs, (f x).length ≤ n) → ((xs.map f).map (·.length)).sum ≤ xs.length * n
  | [], _ => Nat.zero_le _
  | x :: xs, h => by
    rw [List.map_cons, List.map_cons, List.sum_cons, List.length_cons, Nat.succ_mul]
    have h1 := h x List.mem_cons_self
    have h2 := rows_sum (xs := xs) fun z hz => h z (List.mem_cons_of_mem _ hz)
    omega
theorem rowsOf_sum {L : List (List Nat)} (h6 : L.length ≤ 6) (hr : ∀ i, i < L.length → (L.getD i []).length ≤ 6) : ((rowsOf L).map (·.length)).sum ≤ 84 := by
  have h := rows_sum (f := fun c => rowText c (L.getD c [])) (n := 14) (xs := List.range L.length) fun c hc => by
    rw [row_len]
    have := hr c (List.mem_range.mp hc)
    omega
  rw [List.length_range] at h
  unfold rowsOf
  omega
theorem text_len {L : List (List Nat)} (h6 : L.length ≤ 6) (h1 : 1 ≤ L.length) (hr : ∀ i, i < L.length → (L.getD i []).length ≤ 6) : (textOf L).length ≤ 90 := by
  unfold textOf
  show (Builtin.Str.glued "\n" (rowsOf L)).length ≤ _
  rw [StrLaws.glued_eq_join]
  have hs := rowsOf_sum h6 hr
  have hl := rows_len L
  cases e : rowsOf L with
  | nil => rw [e] at hl; simp at hl; omega
  | cons a r =>
    rw [len_join_cons "\n" a r, ← e, nl_len]
    rw [e, List.length_cons] at hl
    omega
theorem words_free {c : Nat} {row : List Nat} (hc : c < 6) (hr : ∀ x ∈ row, x < 6) : ∀ p ∈ wordsOf c row, 32 ∉ p.cps.toList := by
  intro p hp
  unfold wordsOf at hp
  rcases List.mem_cons.mp hp with rfl | hp
  · rw [co_, PySem.Str.cps_append]
    simp [dg]
    omega
  · obtain ⟨x, hx, rfl⟩ := List.mem_map.mp hp
    have := hr x hx
    simp [dg]
    omega
theorem row_split {c : Nat} {row : List Nat} (hc : c < 6) (hr : ∀ x ∈ row, x < 6) : Txt.split (rowText c row) " " = wordsOf c row := by
  unfold rowText
  rw [sp_]
  exact split_join (by unfold wordsOf; simp) (words_free hc hr)
theorem jl_free {c z : Nat} (h : z ≠ c) : ∀ {ps : List (List Nat)}, (∀ p ∈ ps, z ∉ p) → z ∉ jl c ps
  | [], _ => by simp [jl]
  | [p], hp => hp p List.mem_cons_self
  | p :: q :: r, hp => by
    have h1 := hp p List.mem_cons_self
    have h2 := jl_free h (ps := q :: r) fun x hx => hp x (List.mem_cons_of_mem _ hx)
    simp only [jl, List.mem_append, List.mem_cons, not_or]
    exact ⟨h1, h, h2⟩
theorem row_free {c : Nat} {row : List Nat} (hc : c < 6) (hr : ∀ x ∈ row, x < 6) : 10 ∉ (rowText c row).cps.toList := by
  unfold rowText
  show 10 ∉ (Builtin.Str.glued " " (wordsOf c row)).cps.toList
  rw [StrLaws.glued_eq_join, sp_, cps_join]
  refine jl_free (by decide) fun p hp => ?_
  obtain ⟨q, hq, rfl⟩ := List.mem_map.mp hp
  unfold wordsOf at hq
  rcases List.mem_cons.mp hq with rfl | hq
  · rw [co_, PySem.Str.cps_append]
    simp [dg]
    omega
  · obtain ⟨x, hx, rfl⟩ := List.mem_map.mp hq
    simp [dg]
    omega
theorem text_split {L : List (List Nat)} (h6 : L.length ≤ 6) (h1 : 1 ≤ L.length) (hr : ∀ i, i < L.length → ∀ x ∈ L.getD i [], x < 6) : Txt.split (textOf L) "\n" = rowsOf L := by
  unfold textOf
  rw [nl_]
  refine split_join (fun z => ?_) fun p hp => ?_
  · have := rows_len L
    rw [z] at this
    simp at this
    omega
  · unfold rowsOf at hp
    obtain ⟨c, hc, rfl⟩ := List.mem_map.mp hp
    have hc := List.mem_range.mp hc
    exact row_free (by omega) (hr c hc)
end TP

set_option Elab.async false
set_option linter.all false
set_option maxRecDepth 100000
set_option maxHeartbeats 2000000
namespace TP
open PySem PySem.Spec PyProof.Rows L2
open Evl (Ex)
-- tactics of this text: what an expression is worth (jv jd jt jo jw), growth (ex), what remains (side); call, calld: what the text adds
local macro_rules | `(tactic| walk_at "ex") => `(tactic| first | exact Ex.refl _ | assumption | (refine' Ex.trans ?_ (by assumption); walk_at "ex"))
local macro_rules | `(tactic| walk_at "vis") => `(tactic| first
  | exact Or.inl rfl
  | exact Or.inr (Or.inl rfl)
  | exact Or.inr (Or.inr rfl))
local macro_rules | `(tactic| walk_at "loc") => `(tactic| first
  | exact Or.inl rfl
  | exact Or.inr rfl)
local macro_rules | `(tactic| walk_at "side") => `(tactic| first
  | assumption
  | omega
  | decide
  | exact rfl
  | (simp_all; done)
  | (simp_all; omega))
local macro_rules | `(tactic| walk_at "hu") => `(tactic| first
  | exact room65 (by assumption)
  | exact Room.units (by assumption))
local macro_rules | `(tactic| walk_at "dp") => `(tactic| first | assumption | (refine' Dx.mono ?_ (by assumption); walk_at "ex"))
local macro_rules | `(tactic| walk_at "var") => `(tactic| first
  | (apply jv_var 0; exact rfl; exact rfl; walk_at "vis"; decide; decide)
  | (apply jv_var 1; exact rfl; exact rfl; walk_at "vis"; decide; decide)
  | (apply jv_var 2; exact rfl; exact rfl; walk_at "vis"; decide; decide)
  | (apply jv_var 3; exact rfl; exact rfl; walk_at "vis"; decide; decide)
  | (apply jv_var 4; exact rfl; exact rfl; walk_at "vis"; decide; decide)
  | (apply jv_var 5; exact rfl; exact rfl; walk_at "vis"; decide; decide)
  | (apply jv_var 6; exact rfl; exact rfl; walk_at "vis"; decide; decide)
  | (apply jv_var 7; exact rfl; exact rfl; walk_at "vis"; decide; decide)
  | (apply jv_var 8; exact rfl; exact rfl; walk_at "vis"; decide; decide)
  | (apply jv_var 9; exact rfl; exact rfl; walk_at "vis"; decide; decide)
  | (apply jv_var 10; exact rfl; exact rfl; walk_at "vis"; decide; decide)
  | (apply jv_var 11; exact rfl; exact rfl; walk_at "vis"; decide; decide)
  | (apply jv_var 12; exact rfl; exact rfl; walk_at "vis"; decide; decide)
  | (apply jv_var 13; exact rfl; exact rfl; walk_at "vis"; decide; decide)
  | (apply jv_var 14; exact rfl; exact rfl; walk_at "vis"; decide; decide)
  | (apply jv_var 15; exact rfl; exact rfl; walk_at "vis"; decide; decide)
  | (apply jv_var 16; exact rfl; exact rfl; walk_at "vis"; decide; decide)
  | (apply jv_var 17; exact rfl; exact rfl; walk_at "vis"; decide; decide)
  | (apply jv_var 18; exact rfl; exact rfl; walk_at "vis"; decide; decide)
  | (apply jv_var 19; exact rfl; exact rfl; walk_at "vis"; decide; decide))
local macro_rules | `(tactic| walk_at "bm") => `(tactic| first
  | assumption)
local macro_rules | `(tactic| walk_at "call") => `(tactic| first
  | fail "call")
local macro_rules | `(tactic| walk_at "calld") => `(tactic| first
  | fail "calld")
local macro_rules | `(tactic| walk_at "kit") => `(tactic| first
  | assumption
  | exact kit_ii
  | exact kit_ib
  | exact kit_bi
  | exact kit_bb
  | exact kit_li
  | exact kit_ll
  | exact kit_tt
  | exact kit_tl
  | exact kit_lt
  | exact kit_tb)
local macro_rules | `(tactic| walk_at "ns") => `(tactic| first
  | exact fun _ _ => rfl)
local macro_rules | `(tactic| walk_at "jv") => `(tactic| first
  | exact jv_int
  | exact jv_bl
  | exact jv_non
  | exact jv_str
  | walk_at "var"
  | (apply jv_add; walk_at "jv"; walk_at "jv")
  | (apply jv_sub; walk_at "jv"; walk_at "jv")
  | (apply jv_neg; walk_at "jv")
  | (apply jv_mul; walk_at "jv"; walk_at "jv"; walk_at "mulok")
  | (apply jv_fdiv; walk_at "jv"; walk_at "jv"; walk_at "divok")
  | (apply jv_mod; walk_at "jv"; walk_at "jv"; walk_at "side")
  | (apply jv_band; walk_at "jv"; walk_at "jv")
  | (apply jv_cmp; walk_at "jo"; (first | exact rfl | exact nomark _))
  | (apply jv_chain op_le op_le; walk_at "jv"; walk_at "jv"; walk_at "jv"; with_unfolding_all rfl)
  | (apply jv_chain op_le op_lt; walk_at "jv"; walk_at "jv"; walk_at "jv"; with_unfolding_all rfl)
  | (apply jv_and; walk_at "jv"; intro hand; walk_at "jv")
  | (apply jv_or; walk_at "jv"; intro hor; walk_at "jv")
  | (apply jv_not; walk_at "jv")
  | (apply jv_one; walk_at "jv")
  | (apply jv_lenM; walk_at "bm"; walk_at "jd"; exact rfl; walk_at "ns")
  | (apply jv_len; walk_at "bm"; walk_at "jd"; exact rfl; walk_at "ns")
  | (apply jv_all; exact rfl; walk_at "bm"; walk_at "jd"; exact rfl; decide +kernel; walk_at "ns")
  | (apply jv_any; exact rfl; walk_at "bm"; walk_at "jd"; exact rfl; decide +kernel; walk_at "ns")
  | (apply jv_lenT; walk_at "bm"; walk_at "jd"; exact rfl; walk_at "ns")
  | walk_at "call"
  | (apply jv_isi; (first | exact boot_tint | exact boot_tbool | exact boot_tlist | exact boot_ttuple); walk_at "bm"; walk_at "bm"; walk_at "jd"; walk_at "kit"; exact rfl; exact rfl; exact boot_isi; walk_at "ns"; decide; decide)
  | (apply jv_lenSet; exact rfl; walk_at "bm"; walk_at "bm"; walk_at "jd"; walk_at "side"; exact rfl; exact rfl; walk_at "ns")
  | (apply jv_ifE; walk_at "jt"; intro hif; walk_at "jv"; intro hif; walk_at "jv")
  | (apply JD.toI; walk_at "jx")
  | (apply JD.toB; walk_at "jx")
  | (apply JD.toS; walk_at "jx"))
local macro_rules | `(tactic| walk_at "mulok") => `(tactic| first
  | exact Or.inr ⟨by decide, by decide⟩
  | exact Or.inl ⟨by decide, by decide⟩
  | exact Or.inl ⟨by omega, by omega⟩
  | exact Or.inr ⟨by omega, by omega⟩)
local macro_rules | `(tactic| walk_at "divok") => `(tactic| first
  | exact ⟨by decide, by decide⟩
  | exact ⟨by omega, by omega⟩)
local macro_rules | `(tactic| walk_at "jx") => `(tactic| first
  | (apply jd_ixN; walk_at "jd"; walk_at "jv"; exact fun _ _ => rfl; walk_at "side")
  | (apply jd_ixNs; walk_at "jd"; walk_at "jv"; exact fun _ _ => rfl; walk_at "side")
  | (apply jd_ixP; walk_at "jd"; walk_at "jv"; exact fun _ _ => rfl; walk_at "side")
  | (apply jd_ixPs; walk_at "jd"; walk_at "jv"; exact fun _ _ => rfl; walk_at "side")
  | (apply jd_ixI; walk_at "jd"; walk_at "jv"; exact fun _ _ => rfl; walk_at "side")
  | (apply jd_ixP1; walk_at "jd")
  | (apply jd_ixP2; walk_at "jd")
  | walk_at "calld")
local macro_rules | `(tactic| walk_at "jd") => `(tactic| first
  | (apply JV.toD; walk_at "var"; walk_at "dp")
  | walk_at "jx"
  | (apply jd_list; walk_at "jad"; exact Nat.le_of_ble_eq_true rfl)
  | (apply jd_tuple; walk_at "jad"; exact Nat.le_of_ble_eq_true rfl)
  | (apply jd_listOf; walk_at "bm"; walk_at "jd"; exact rfl; exact boot_tlist; walk_at "ns")
  | (apply JV.toD (v := V.int _); walk_at "jv"; exact Dx.int _)
  | (apply JV.toD (v := V.bl _); walk_at "jv"; exact Dx.bl _)
  | (apply JV.toD (v := V.str _); walk_at "jv"; exact Dx.str _)
  | (apply jd_ifE; walk_at "jt"; intro hif; walk_at "jd"; intro hif; walk_at "jd"))
local macro_rules | `(tactic| walk_at "jad") => `(tactic| first
  | exact jad_nil
  | (apply jad_cons; walk_at "jd"; walk_at "jad"; walk_at "ns"))
local macro_rules | `(tactic| walk_at "jo") => `(tactic| first
  | (apply jo_isN; walk_at "jv")
  | (apply jo_notN; walk_at "jv")
  | (apply jo_eqI; walk_at "jv"; walk_at "jv")
  | (apply jo_neI; walk_at "jv"; walk_at "jv")
  | (apply jo_lt; walk_at "jv"; walk_at "jv")
  | (apply jo_le; walk_at "jv"; walk_at "jv")
  | (apply jo_gt; walk_at "jv"; walk_at "jv")
  | (apply jo_ge; walk_at "jv"; walk_at "jv")
  | (apply jo_inN; walk_at "hu"; walk_at "jv"; walk_at "jd")
  | (apply jo_niN; walk_at "hu"; walk_at "jv"; walk_at "jd")
  | (apply jo_eqD; walk_at "hu"; walk_at "jd"; walk_at "jd"; walk_at "shp"; walk_at "shp")
  | (apply jo_neD; walk_at "hu"; walk_at "jd"; walk_at "jd"; walk_at "shp"; walk_at "shp"))
local macro_rules | `(tactic| walk_at "shp") => `(tactic| first
  | assumption
  | exact Shp.shaped eLL _
  | exact Shp.shaped ePs _
  | exact Shp.shaped eNs _
  | exact Shp.shaped ePss _
  | exact Shp.shaped eP _
  | exact Shp.shaped eN _
  | exact Shp.shaped eI _
  | decide)
local macro_rules | `(tactic| walk_at "jw") => `(tactic| first
  | (apply jw_one_and; walk_at "jt")
  | (apply jw_one_or; walk_at "jt")
  | (apply jw_and; walk_at "jt"; intro hand; walk_at "jw")
  | (apply jw_or; walk_at "jt"; intro hor; walk_at "jw"))
local macro_rules | `(tactic| walk_at "jt") => `(tactic| first
  | (apply jt_w; walk_at "jw")
  | (apply jt_cmp; walk_at "jo"; (first | exact rfl | exact nomark _))
  | (apply jt_not; walk_at "jt")
  | (apply jt_val; walk_at "jv"; exact fun _ => rfl)
  | (apply jt_chain op_le op_le; walk_at "jv"; walk_at "jv"; walk_at "jv"; with_unfolding_all rfl))
/-! ### the camp -/
def campA (t : V) (n : Nat) : List (Str × V) := [("told", t), ("size", V.int (n : Int))]
theorem st_ : (("size" : Str) == "told") = false := by decide +kernel
theorem ts_ : (("told" : Str) == "size") = false := by decide +kernel
theorem campA_told (t : V) (n : Nat) : (campA t n).lookup ("told" : Str) = some t := by simp [campA, List.lookup]
theorem campA_size (t : V) (n : Nat) : (campA t n).lookup ("size" : Str) = some (V.int (n : Int)) := by simp [campA, List.lookup, st_]
theorem campA_no (t : V) (n : Nat) {m : Str} (h1 : (m == ("told" : Str)) = false) (h2 : (m == ("size" : Str)) = false) : (campA t n).lookup m = none := by simp [campA, List.lookup, h1, h2]
/-- a camp with the lists L stands at p -/
def CampAt (K : PySem.W.Frag) (C : Addr) (G : Hp) (p : Addr) (L : List (List Nat)) : Prop := ∃ t, InsAt G p C (campA t L.length) ∧ Dx G t (eLL L)
theorem CampAt.mono {K : PySem.W.Frag} {C : Addr} {G G' : Hp} {p : Addr} {L : List (List Nat)} (e : Ex G G') (h : CampAt K C G p L) : CampAt K C G' p L := let ⟨t, h1, h2⟩ := h; ⟨t, h1.mono e, h2.mono e⟩
abbrev kCamp (K : PySem.W.Frag) (C : Addr) (L : List (List Nat)) : Hp → V → Prop := fun G v => ∃ p, v = .ref p ∧ CampAt K C G p L
theorem mo_Camp {K : PySem.W.Frag} {C : Addr} {L : List (List Nat)} : Mo (kCamp K C L) := fun _ _ _ e ⟨p, h1, h2⟩ => ⟨p, h1, h2.mono e⟩
/-- what the top has written -/
structure Tx (K : PySem.W.Frag) (mg : Str → Option Value) (C : Addr) : Prop where
  cl : Cls K C
  nT : NoAttr K C "told"
  nS : NoAttr K C "size"
  mgC : mg "Camp" = some (.ref C)
  len : mg "len" = none
  range : mg "range" = none
  list : mg "list" = none
  all : mg "all" = none
  any : mg "any" = none
  isi : mg "isinstance" = none
  int : mg "int" = none
  bool : mg "bool" = none
  set : mg "set" = none
  tup : mg "tuple" = none
  most : ∃ t, mg "MOST" = some (.int 6 t)
section
variable {X : Cx} {σ : L2.St} {e o a b c : Expr} {es : List Expr} {G : Hp} {pos : Pos} {x : Str} {C p : Addr} {L : List (List Nat)}
theorem jd_told (T : Tx X.K X.mg C) (ho : JV X σ o G (.ref p)) (hc : CampAt X.K C G p L) (hb : attributeBase o "told" X.env (eval o X.env) = eval o X.env) : JD X σ (.Attribute o "told" pos) G (eLL L) :=
  let ⟨t, h1, h2⟩ := hc
  (jv_fld T.cl T.nT ho h1 (campA_told _ _) hb).toD h2
theorem jv_size (T : Tx X.K X.mg C) (ho : JV X σ o G (.ref p)) (hc : CampAt X.K C G p L) (hb : attributeBase o "size" X.env (eval o X.env) = eval o X.env) : JV X σ (.Attribute o "size" pos) G (.int (L.length : Int)) :=
  let ⟨t, h1, h2⟩ := hc
  jv_fld T.cl T.nS ho h1 (campA_size _ _) hb
end
/-! ### the mirror -/
def would (L : List (List Nat)) (a b : Nat) : Bool := decide (b ∈ L.getD a []) && decide (a ∈ L.getD b [])
def rather (L : List (List Nat)) (c a b : Nat) : Bool := if a = b ∨ a = c then false else if b = c then true else decide ((L.getD c []).idxOf a < (L.getD c []).idxOf b)
local macro_rules | `(tactic| walk_at "calld") => `(tactic| (apply jd_told; assumption; walk_at "var"; assumption; exact rfl))
local macro_rules | `(tactic| walk_at "call") => `(tactic| first
  | (apply jv_index; walk_at "hu"; walk_at "jd"; walk_at "jv"; walk_at "side"; walk_at "ns"; exact rfl; exact rfl; exact rfl))
section
variable {P : Program} {w : World} {K : PySem.W.Frag} {mg : Str → Option Value} {base : Heap} {C : Addr}
abbrev spWould (K : PySem.W.Frag) (C : Addr) : Sp := spOf (fun i : List (List Nat) × Nat × Nat => i.2.1 < i.1.length ∧ i.2.2 < i.1.length) (fun i => [kCamp K C i.1, kI i.2.1, kI i.2.2]) (fun i => kB (would i.1 i.2.1 i.2.2))
end
end TP

set_option Elab.async false
set_option linter.all false
set_option maxRecDepth 100000
set_option maxHeartbeats 2000000
namespace TP
open PySem PySem.Spec PyProof.Rows L2
open Evl (Ex)
-- tactics of this text: what an expression is worth (jv jd jt jo jw), growth (ex), what remains (side); call, calld: what the text adds
local macro_rules | `(tactic| walk_at "ex") => `(tactic| first | exact Ex.refl _ | assumption | (refine' Ex.trans ?_ (by assumption); walk_at "ex"))
local macro_rules | `(tactic| walk_at "vis") => `(tactic| first
  | exact Or.inl rfl
  | exact Or.inr (Or.inl rfl)
  | exact Or.inr (Or.inr rfl))
local macro_rules | `(tactic| walk_at "loc") => `(tactic| first
  | exact Or.inl rfl
  | exact Or.inr rfl)
local macro_rules | `(tactic| walk_at "side") => `(tactic| first
  | assumption
  | omega
  | decide
  | exact rfl
  | (simp_all; done)
  | (simp_all; omega))
local macro_rules | `(tactic| walk_at "hu") => `(tactic| first
  | exact room65 (by assumption)
  | exact Room.units (by assumption))
local macro_rules | `(tactic| walk_at "dp") => `(tactic| first | assumption | (refine' Dx.mono ?_ (by assumption); walk_at "ex"))
local macro_rules | `(tactic| walk_at "var") => `(tactic| first
  | (apply jv_var 0; exact rfl; exact rfl; walk_at "vis"; decide; decide)
  | (apply jv_var 1; exact rfl; exact rfl; walk_at "vis"; decide; decide)
  | (apply jv_var 2; exact rfl; exact rfl; walk_at "vis"; decide; decide)
  | (apply jv_var 3; exact rfl; exact rfl; walk_at "vis"; decide; decide)
  | (apply jv_var 4; exact rfl; exact rfl; walk_at "vis"; decide; decide)
  | (apply jv_var 5; exact rfl; exact rfl; walk_at "vis"; decide; decide)
  | (apply jv_var 6; exact rfl; exact rfl; walk_at "vis"; decide; decide)
  | (apply jv_var 7; exact rfl; exact rfl; walk_at "vis"; decide; decide)
  | (apply jv_var 8; exact rfl; exact rfl; walk_at "vis"; decide; decide)
  | (apply jv_var 9; exact rfl; exact rfl; walk_at "vis"; decide; decide)
  | (apply jv_var 10; exact rfl; exact rfl; walk_at "vis"; decide; decide)
  | (apply jv_var 11; exact rfl; exact rfl; walk_at "vis"; decide; decide)
  | (apply jv_var 12; exact rfl; exact rfl; walk_at "vis"; decide; decide)
  | (apply jv_var 13; exact rfl; exact rfl; walk_at "vis"; decide; decide)
  | (apply jv_var 14; exact rfl; exact rfl; walk_at "vis"; decide; decide)
  | (apply jv_var 15; exact rfl; exact rfl; walk_at "vis"; decide; decide)
  | (apply jv_var 16; exact rfl; exact rfl; walk_at "vis"; decide; decide)
  | (apply jv_var 17; exact rfl; exact rfl; walk_at "vis"; decide; decide)
  | (apply jv_var 18; exact rfl; exact rfl; walk_at "vis"; decide; decide)
  | (apply jv_var 19; exact rfl; exact rfl; walk_at "vis"; decide; decide))
local macro_rules | `(tactic| walk_at "bm") => `(tactic| first
  | assumption)
local macro_rules | `(tactic| walk_at "call") => `(tactic| first
  | fail "call")
local macro_rules | `(tactic| walk_at "calld") => `(tactic| first
  | fail "calld")
local macro_rules | `(tactic| walk_at "kit") => `(tactic| first
  | assumption
  | exact kit_ii
  | exact kit_ib
  | exact kit_bi
  | exact kit_bb
  | exact kit_li
  | exact kit_ll
  | exact kit_tt
  | exact kit_tl
  | exact kit_lt
  | exact kit_tb)
local macro_rules | `(tactic| walk_at "ns") => `(tactic| first
  | exact fun _ _ => rfl)
local macro_rules | `(tactic| walk_at "jv") => `(tactic| first
  | exact jv_int
  | exact jv_bl
  | exact jv_non
  | exact jv_str
  | walk_at "var"
  | (apply jv_add; walk_at "jv"; walk_at "jv")
  | (apply jv_sub; walk_at "jv"; walk_at "jv")
  | (apply jv_neg; walk_at "jv")
  | (apply jv_mul; walk_at "jv"; walk_at "jv"; walk_at "mulok")
  | (apply jv_fdiv; walk_at "jv"; walk_at "jv"; walk_at "divok")
  | (apply jv_mod; walk_at "jv"; walk_at "jv"; walk_at "side")
  | (apply jv_band; walk_at "jv"; walk_at "jv")
  | (apply jv_cmp; walk_at "jo"; (first | exact rfl | exact nomark _))
  | (apply jv_chain op_le op_le; walk_at "jv"; walk_at "jv"; walk_at "jv"; with_unfolding_all rfl)
  | (apply jv_chain op_le op_lt; walk_at "jv"; walk_at "jv"; walk_at "jv"; with_unfolding_all rfl)
  | (apply jv_and; walk_at "jv"; intro hand; walk_at "jv")
  | (apply jv_or; walk_at "jv"; intro hor; walk_at "jv")
  | (apply jv_not; walk_at "jv")
  | (apply jv_one; walk_at "jv")
  | (apply jv_lenM; walk_at "bm"; walk_at "jd"; exact rfl; walk_at "ns")
  | (apply jv_len; walk_at "bm"; walk_at "jd"; exact rfl; walk_at "ns")
  | (apply jv_all; exact rfl; walk_at "bm"; walk_at "jd"; exact rfl; decide +kernel; walk_at "ns")
  | (apply jv_any; exact rfl; walk_at "bm"; walk_at "jd"; exact rfl; decide +kernel; walk_at "ns")
  | (apply jv_lenT; walk_at "bm"; walk_at "jd"; exact rfl; walk_at "ns")
  | walk_at "call"
  | (apply jv_isi; (first | exact boot_tint | exact boot_tbool | exact boot_tlist | exact boot_ttuple); walk_at "bm"; walk_at "bm"; walk_at "jd"; walk_at "kit"; exact rfl; exact rfl; exact boot_isi; walk_at "ns"; decide; decide)
  | (apply jv_lenSet; exact rfl; walk_at "bm"; walk_at "bm"; walk_at "jd"; walk_at "side"; exact rfl; exact rfl; walk_at "ns")
  | (apply jv_ifE; walk_at "jt"; intro hif; walk_at "jv"; intro hif; walk_at "jv")
  | (apply JD.toI; walk_at "jx")
  | (apply JD.toB; walk_at "jx")
  | (apply JD.toS; walk_at "jx"))
local macro_rules | `(tactic| walk_at "mulok") => `(tactic| first
  | exact Or.inr ⟨by decide, by decide⟩
  | exact Or.inl ⟨by decide, by decide⟩
  | exact Or.inl ⟨by omega, by omega⟩
  | exact Or.inr ⟨by omega, by omega⟩)
local macro_rules | `(tactic| walk_at "divok") => `(tactic| first
  | exact ⟨by decide, by decide⟩
  | exact ⟨by omega, by omega⟩)
local macro_rules | `(tactic| walk_at "jx") => `(tactic| first
  | (apply jd_ixN; walk_at "jd"; walk_at "jv"; exact fun _ _ => rfl; walk_at "side")
  | (apply jd_ixNs; walk_at "jd"; walk_at "jv"; exact fun _ _ => rfl; walk_at "side")
  | (apply jd_ixP; walk_at "jd"; walk_at "jv"; exact fun _ _ => rfl; walk_at "side")
  | (apply jd_ixPs; walk_at "jd"; walk_at "jv"; exact fun _ _ => rfl; walk_at "side")
  | (apply jd_ixI; walk_at "jd"; walk_at "jv"; exact fun _ _ => rfl; walk_at "side")
  | (apply jd_ixP1; walk_at "jd")
  | (apply jd_ixP2; walk_at "jd")
  | walk_at "calld")
local macro_rules | `(tactic| walk_at "jd") => `(tactic| first
  | (apply JV.toD; walk_at "var"; walk_at "dp")
  | walk_at "jx"
  | (apply jd_list; walk_at "jad"; exact Nat.le_of_ble_eq_true rfl)
  | (apply jd_tuple; walk_at "jad"; exact Nat.le_of_ble_eq_true rfl)
  | (apply jd_listOf; walk_at "bm"; walk_at "jd"; exact rfl; exact boot_tlist; walk_at "ns")
  | (apply JV.toD (v := V.int _); walk_at "jv"; exact Dx.int _)
  | (apply JV.toD (v := V.bl _); walk_at "jv"; exact Dx.bl _)
  | (apply JV.toD (v := V.str _); walk_at "jv"; exact Dx.str _)
  | (apply jd_ifE; walk_at "jt"; intro hif; walk_at "jd"; intro hif; walk_at "jd"))
local macro_rules | `(tactic| walk_at "jad") => `(tactic| first
  | exact jad_nil
  | (apply jad_cons; walk_at "jd"; walk_at "jad"; walk_at "ns"))
local macro_rules | `(tactic| walk_at "jo") => `(tactic| first
  | (apply jo_isN; walk_at "jv")
  | (apply jo_notN; walk_at "jv")
  | (apply jo_eqI; walk_at "jv"; walk_at "jv")
  | (apply jo_neI; walk_at "jv"; walk_at "jv")
  | (apply jo_lt; walk_at "jv"; walk_at "jv")
  | (apply jo_le; walk_at "jv"; walk_at "jv")
  | (apply jo_gt; walk_at "jv"; walk_at "jv")
  | (apply jo_ge; walk_at "jv"; walk_at "jv")
  | (apply jo_inN; walk_at "hu"; walk_at "jv"; walk_at "jd")
  | (apply jo_niN; walk_at "hu"; walk_at "jv"; walk_at "jd")
  | (apply jo_eqD; walk_at "hu"; walk_at "jd"; walk_at "jd"; walk_at "shp"; walk_at "shp")
  | (apply jo_neD; walk_at "hu"; walk_at "jd"; walk_at "jd"; walk_at "shp"; walk_at "shp"))
local macro_rules | `(tactic| walk_at "shp") => `(tactic| first
  | assumption
  | exact Shp.shaped eLL _
  | exact Shp.shaped ePs _
  | exact Shp.shaped eNs _
  | exact Shp.shaped ePss _
  | exact Shp.shaped eP _
  | exact Shp.shaped eN _
  | exact Shp.shaped eI _
  | decide)
local macro_rules | `(tactic| walk_at "jw") => `(tactic| first
  | (apply jw_one_and; walk_at "jt")
  | (apply jw_one_or; walk_at "jt")
  | (apply jw_and; walk_at "jt"; intro hand; walk_at "jw")
  | (apply jw_or; walk_at "jt"; intro hor; walk_at "jw"))
local macro_rules | `(tactic| walk_at "jt") => `(tactic| first
  | (apply jt_w; walk_at "jw")
  | (apply jt_cmp; walk_at "jo"; (first | exact rfl | exact nomark _))
  | (apply jt_not; walk_at "jt")
  | (apply jt_val; walk_at "jv"; exact fun _ => rfl)
  | (apply jt_chain op_le op_le; walk_at "jv"; walk_at "jv"; walk_at "jv"; with_unfolding_all rfl))
local macro_rules | `(tactic| walk_at "calld") => `(tactic| (apply jd_told; assumption; walk_at "var"; assumption; exact rfl))
local macro_rules | `(tactic| walk_at "call") => `(tactic| first
  | (apply jv_index; walk_at "hu"; walk_at "jd"; walk_at "jv"; walk_at "side"; walk_at "ns"; exact rfl; exact rfl; exact rfl))
section
variable {X : Cx} {σ : L2.St} {e o a b c : Expr} {es : List Expr} {G : Hp} {pos : Pos} {x : Str} {C p : Addr} {L : List (List Nat)}
theorem jv_would {m n : Nat} {ap : Pos} {pl : Sem Bool} (T : Tx X.K X.mg C) (M : Mt X.prog X.w X.K X.mg X.base C "would" 1 (spWould X.K C)) (hr : Room 1 X.A) (ho : JV X σ o G (.ref p)) (hc : CampAt X.K C G p L) (ha : JV X σ a G (.int (m : Int))) (hb : JV X σ b G (.int (n : Int))) (hm : m < L.length) (hn : n < L.length) (na : NoStar a) (nb : NoStar b)
    (hpl : (backTo pos (starEach [b] X.env)).any (·.1) = false)
    (ht : eval (.Call (.Attribute o "would" ap) [a, b] [] pos) X.env = (do
      let ov ← eval o X.env
      standAt ap.atName
      let (f, first) ← holding [ov] (getMethod ov "would" pl)
      callWith pos f first (backTo pos (starEach [a, b] X.env)) (backToKw pos (keywordEach [] X.env)))) : JV X σ (.Call (.Attribute o "would" ap) [a, b] [] pos) G (.bl (would L m n)) := by
  obtain ⟨t, h1, h2⟩ := hc
  exact (jp_meth M T.cl ho h1 (campA_no _ _ (by decide +kernel) (by decide +kernel)) hr (L, m, n) ⟨hm, hn⟩ (P0 := kCamp X.K C L) rfl ⟨p, rfl, t, h1, h2⟩ mo_Camp
    (jal_cons ha.toPV mo_V (fun _ e => jal_cons (hb.mono e).toPV mo_V (fun _ _ => jal_nil) nb) na) na hpl ht).toB
end
section
variable {P : Program} {w : World} {K : PySem.W.Frag} {mg : Str → Option Value} {base : Heap} {C : Addr}
abbrev spRather (K : PySem.W.Frag) (C : Addr) : Sp := spOf (fun i : List (List Nat) × Nat × Nat × Nat => i.2.1 < i.1.length ∧ (¬ i.2.2.1 = i.2.2.2 → ¬ i.2.2.1 = i.2.1 → ¬ i.2.2.2 = i.2.1 → i.2.2.1 ∈ i.1.getD i.2.1 [] ∧ i.2.2.2 ∈ i.1.getD i.2.1 [])) (fun i => [kCamp K C i.1, kI i.2.1, kI i.2.2.1, kI i.2.2.2]) (fun i => kB (rather i.1 i.2.1 i.2.2.1 i.2.2.2))
end
end TP

set_option Elab.async false
set_option linter.all false
set_option maxRecDepth 100000
set_option maxHeartbeats 2000000
namespace TP
open PySem PySem.Spec PyProof.Rows L2
open Evl (Ex)
-- tactics of this text: what an expression is worth (jv jd jt jo jw), growth (ex), what remains (side); call, calld: what the text adds
local macro_rules | `(tactic| walk_at "ex") => `(tactic| first | exact Ex.refl _ | assumption | (refine' Ex.trans ?_ (by assumption); walk_at "ex"))
local macro_rules | `(tactic| walk_at "vis") => `(tactic| first
  | exact Or.inl rfl
  | exact Or.inr (Or.inl rfl)
  | exact Or.inr (Or.inr rfl))
local macro_rules | `(tactic| walk_at "loc") => `(tactic| first
  | exact Or.inl rfl
  | exact Or.inr rfl)
local macro_rules | `(tactic| walk_at "side") => `(tactic| first
  | assumption
  | omega
  | decide
  | exact rfl
  | (simp_all; done)
  | (simp_all; omega))
local macro_rules | `(tactic| walk_at "hu") => `(tactic| first
  | exact room65 (by assumption)
  | exact Room.units (by assumption))
local macro_rules | `(tactic| walk_at "dp") => `(tactic| first | assumption | (refine' Dx.mono ?_ (by assumption); walk_at "ex"))
local macro_rules | `(tactic| walk_at "var") => `(tactic| first
  | (apply jv_var 0; exact rfl; exact rfl; walk_at "vis"; decide; decide)
  | (apply jv_var 1; exact rfl; exact rfl; walk_at "vis"; decide; decide)
  | (apply jv_var 2; exact rfl; exact rfl; walk_at "vis"; decide; decide)
  | (apply jv_var 3; exact rfl; exact rfl; walk_at "vis"; decide; decide)
  | (apply jv_var 4; exact rfl; exact rfl; walk_at "vis"; decide; decide)
  | (apply jv_var 5; exact rfl; exact rfl; walk_at "vis"; decide; decide)
  | (apply jv_var 6; exact rfl; exact rfl; walk_at "vis"; decide; decide)
  | (apply jv_var 7; exact rfl; exact rfl; walk_at "vis"; decide; decide)
  | (apply jv_var 8; exact rfl; exact rfl; walk_at "vis"; decide; decide)
  | (apply jv_var 9; exact rfl; exact rfl; walk_at "vis"; decide; decide)
  | (apply jv_var 10; exact rfl; exact rfl; walk_at "vis"; decide; decide)
  | (apply jv_var 11; exact rfl; exact rfl; walk_at "vis"; decide; decide)
  | (apply jv_var 12; exact rfl; exact rfl; walk_at "vis"; decide; decide)
  | (apply jv_var 13; exact rfl; exact rfl; walk_at "vis"; decide; decide)
  | (apply jv_var 14; exact rfl; exact rfl; walk_at "vis"; decide; decide)
  | (apply jv_var 15; exact rfl; exact rfl; walk_at "vis"; decide; decide)
  | (apply jv_var 16; exact rfl; exact rfl; walk_at "vis"; decide; decide)
  | (apply jv_var 17; exact rfl; exact rfl; walk_at "vis"; decide; decide)
  | (apply jv_var 18; exact rfl; exact rfl; walk_at "vis"; decide; decide)
  | (apply jv_var 19; exact rfl; exact rfl; walk_at "vis"; decide; decide))
local macro_rules | `(tactic| walk_at "bm") => `(tactic| first
  | assumption)
local macro_rules | `(tactic| walk_at "call") => `(tactic| first
  | fail "call")
local macro_rules | `(tactic| walk_at "calld") => `(tactic| first
  | fail "calld")
local macro_rules | `(tactic| walk_at "kit") => `(tactic| first
  | assumption
  | exact kit_ii
  | exact kit_ib
  | exact kit_bi
  | exact kit_bb
  | exact kit_li
  | exact kit_ll
  | exact kit_tt
  | exact kit_tl
  | exact kit_lt
  | exact kit_tb)
local macro_rules | `(tactic| walk_at "ns") => `(tactic| first
  | exact fun _ _ => rfl)
local macro_rules | `(tactic| walk_at "jv") => `(tactic| first
  | exact jv_int
  | exact jv_bl
  | exact jv_non
  | exact jv_str
  | walk_at "var"
  | (apply jv_add; walk_at "jv"; walk_at "jv")
  | (apply jv_sub; walk_at "jv"; walk_at "jv")
  | (apply jv_neg; walk_at "jv")
  | (apply jv_mul; walk_at "jv"; walk_at "jv"; walk_at "mulok")
  | (apply jv_fdiv; walk_at "jv"; walk_at "jv"; walk_at "divok")
  | (apply jv_mod; walk_at "jv"; walk_at "jv"; walk_at "side")
  | (apply jv_band; walk_at "jv"; walk_at "jv")
  | (apply jv_cmp; walk_at "jo"; (first | exact rfl | exact nomark _))
  | (apply jv_chain op_le op_le; walk_at "jv"; walk_at "jv"; walk_at "jv"; with_unfolding_all rfl)
  | (apply jv_chain op_le op_lt; walk_at "jv"; walk_at "jv"; walk_at "jv"; with_unfolding_all rfl)
  | (apply jv_and; walk_at "jv"; intro hand; walk_at "jv")
  | (apply jv_or; walk_at "jv"; intro hor; walk_at "jv")
  | (apply jv_not; walk_at "jv")
  | (apply jv_one; walk_at "jv")
  | (apply jv_lenM; walk_at "bm"; walk_at "jd"; exact rfl; walk_at "ns")
  | (apply jv_len; walk_at "bm"; walk_at "jd"; exact rfl; walk_at "ns")
  | (apply jv_all; exact rfl; walk_at "bm"; walk_at "jd"; exact rfl; decide +kernel; walk_at "ns")
  | (apply jv_any; exact rfl; walk_at "bm"; walk_at "jd"; exact rfl; decide +kernel; walk_at "ns")
  | (apply jv_lenT; walk_at "bm"; walk_at "jd"; exact rfl; walk_at "ns")
  | walk_at "call"
  | (apply jv_isi; (first | exact boot_tint | exact boot_tbool | exact boot_tlist | exact boot_ttuple); walk_at "bm"; walk_at "bm"; walk_at "jd"; walk_at "kit"; exact rfl; exact rfl; exact boot_isi; walk_at "ns"; decide; decide)
  | (apply jv_lenSet; exact rfl; walk_at "bm"; walk_at "bm"; walk_at "jd"; walk_at "side"; exact rfl; exact rfl; walk_at "ns")
  | (apply jv_ifE; walk_at "jt"; intro hif; walk_at "jv"; intro hif; walk_at "jv")
  | (apply JD.toI; walk_at "jx")
  | (apply JD.toB; walk_at "jx")
  | (apply JD.toS; walk_at "jx"))
local macro_rules | `(tactic| walk_at "mulok") => `(tactic| first
  | exact Or.inr ⟨by decide, by decide⟩
  | exact Or.inl ⟨by decide, by decide⟩
  | exact Or.inl ⟨by omega, by omega⟩
  | exact Or.inr ⟨by omega, by omega⟩)
local macro_rules | `(tactic| walk_at "divok") => `(tactic| first
  | exact ⟨by decide, by decide⟩
  | exact ⟨by omega, by omega⟩)
local macro_rules | `(tactic| walk_at "jx") => `(tactic| first
  | (apply jd_ixN; walk_at "jd"; walk_at "jv"; exact fun _ _ => rfl; walk_at "side")
  | (apply jd_ixNs; walk_at "jd"; walk_at "jv"; exact fun _ _ => rfl; walk_at "side")
  | (apply jd_ixP; walk_at "jd"; walk_at "jv"; exact fun _ _ => rfl; walk_at "side")
  | (apply jd_ixPs; walk_at "jd"; walk_at "jv"; exact fun _ _ => rfl; walk_at "side")
  | (apply jd_ixI; walk_at "jd"; walk_at "jv"; exact fun _ _ => rfl; walk_at "side")
  | (apply jd_ixP1; walk_at "jd")
  | (apply jd_ixP2; walk_at "jd")
  | walk_at "calld")
local macro_rules | `(tactic| walk_at "jd") => `(tactic| first
  | (apply JV.toD; walk_at "var"; walk_at "dp")
  | walk_at "jx"
  | (apply jd_list; walk_at "jad"; exact Nat.le_of_ble_eq_true rfl)
  | (apply jd_tuple; walk_at "jad"; exact Nat.le_of_ble_eq_true rfl)
  | (apply jd_listOf; walk_at "bm"; walk_at "jd"; exact rfl; exact boot_tlist; walk_at "ns")
  | (apply JV.toD (v := V.int _); walk_at "jv"; exact Dx.int _)
  | (apply JV.toD (v := V.bl _); walk_at "jv"; exact Dx.bl _)
  | (apply JV.toD (v := V.str _); walk_at "jv"; exact Dx.str _)
  | (apply jd_ifE; walk_at "jt"; intro hif; walk_at "jd"; intro hif; walk_at "jd"))
local macro_rules | `(tactic| walk_at "jad") => `(tactic| first
  | exact jad_nil
  | (apply jad_cons; walk_at "jd"; walk_at "jad"; walk_at "ns"))
local macro_rules | `(tactic| walk_at "jo") => `(tactic| first
  | (apply jo_isN; walk_at "jv")
  | (apply jo_notN; walk_at "jv")
  | (apply jo_eqI; walk_at "jv"; walk_at "jv")
  | (apply jo_neI; walk_at "jv"; walk_at "jv")
  | (apply jo_lt; walk_at "jv"; walk_at "jv")
  | (apply jo_le; walk_at "jv"; walk_at "jv")
  | (apply jo_gt; walk_at "jv"; walk_at "jv")
  | (apply jo_ge; walk_at "jv"; walk_at "jv")
  | (apply jo_inN; walk_at "hu"; walk_at "jv"; walk_at "jd")
  | (apply jo_niN; walk_at "hu"; walk_at "jv"; walk_at "jd")
  | (apply jo_eqD; walk_at "hu"; walk_at "jd"; walk_at "jd"; walk_at "shp"; walk_at "shp")
  | (apply jo_neD; walk_at "hu"; walk_at "jd"; walk_at "jd"; walk_at "shp"; walk_at "shp"))
local macro_rules | `(tactic| walk_at "shp") => `(tactic| first
  | assumption
  | exact Shp.shaped eLL _
  | exact Shp.shaped ePs _
  | exact Shp.shaped eNs _
  | exact Shp.shaped ePss _
  | exact Shp.shaped eP _
  | exact Shp.shaped eN _
  | exact Shp.shaped eI _
  | decide)
local macro_rules | `(tactic| walk_at "jw") => `(tactic| first
  | (apply jw_one_and; walk_at "jt")
  | (apply jw_one_or; walk_at "jt")
  | (apply jw_and; walk_at "jt"; intro hand; walk_at "jw")
  | (apply jw_or; walk_at "jt"; intro hor; walk_at "jw"))
local macro_rules | `(tactic| walk_at "jt") => `(tactic| first
  | (apply jt_w; walk_at "jw")
  | (apply jt_cmp; walk_at "jo"; (first | exact rfl | exact nomark _))
  | (apply jt_not; walk_at "jt")
  | (apply jt_val; walk_at "jv"; exact fun _ => rfl)
  | (apply jt_chain op_le op_le; walk_at "jv"; walk_at "jv"; walk_at "jv"; with_unfolding_all rfl))
local macro_rules | `(tactic| walk_at "camp") => `(tactic| first | assumption | (refine' CampAt.mono ?_ (by assumption); walk_at "ex"))
local macro_rules | `(tactic| walk_at "calld") => `(tactic| first
  | (apply jd_told; assumption; walk_at "var"; walk_at "camp"; exact rfl)
  | walk_at "calld2")
local macro_rules | `(tactic| walk_at "calld2") => `(tactic| first
  | fail "calld2")
local macro_rules | `(tactic| walk_at "room") => `(tactic| first
  | assumption
  | exact Room.mono (by assumption) (by decide))
local macro_rules | `(tactic| walk_at "bm") => `(tactic| first
  | assumption
  | exact Tx.len (by assumption)
  | exact Tx.range (by assumption)
  | exact Tx.list (by assumption)
  | exact Tx.all (by assumption)
  | exact Tx.any (by assumption)
  | exact Tx.isi (by assumption)
  | exact Tx.int (by assumption)
  | exact Tx.bool (by assumption)
  | exact Tx.set (by assumption)
  | exact Tx.tup (by assumption))
local macro_rules | `(tactic| walk_at "call") => `(tactic| first
  | (apply jv_size; assumption; walk_at "var"; walk_at "camp"; exact rfl)
  | (apply jv_index; walk_at "hu"; walk_at "jd"; walk_at "jv"; walk_at "side"; walk_at "ns"; exact rfl; exact rfl; exact rfl)
  | (apply jv_would; assumption; assumption; walk_at "room"; walk_at "var"; walk_at "camp"; walk_at "jv"; walk_at "jv"; walk_at "side"; walk_at "side"; walk_at "ns"; walk_at "ns"; exact rfl; exact rfl)
  | walk_at "call2")
local macro_rules | `(tactic| walk_at "call2") => `(tactic| first
  | fail "call2")
def openRow (L : List (List Nat)) (a : Nat) : List (Nat × Nat) := ((List.range (L.length - (a + 1))).filter (fun k => would L a (a + 1 + k))).map fun k => (a, a + 1 + k)
def openPairs (L : List (List Nat)) : List (Nat × Nat) := (List.range L.length).flatMap (openRow L)
theorem len_flatMap {α β : Type} {f : α → List β} {n : Nat} : ∀ (xs : List α), (∀ x ∈ xs, (f x).length ≤ n) → (xs.flatMap f).length ≤ xs.length * n
  | [], _ => by simp
  | x :: xs, h => by
    have h1 := h x List.mem_cons_self
    have h2 := len_flatMap xs fun y hy => h y (List.mem_cons_of_mem _ hy)
    rw [List.flatMap_cons, List.length_append, List.length_cons, Nat.succ_mul]
    omega
theorem openRow_len (L : List (List Nat)) (a : Nat) : (openRow L a).length ≤ L.length := by
  unfold openRow
  rw [List.length_map]
  have h := List.length_filter_le (fun k => would L a (a + 1 + k)) (List.range (L.length - (a + 1)))
  rw [List.length_range] at h
  omega
section
variable {P : Program} {w : World} {K : PySem.W.Frag} {mg : Str → Option Value} {base : Heap} {C : Addr}
abbrev spOpen (K : PySem.W.Frag) (C : Addr) : Sp := spOf (fun i : List (List Nat) => i.length ≤ 6) (fun i => [kCamp K C i]) (fun i => kD (ePs (openPairs i)))
end
end TP

set_option Elab.async false
set_option linter.all false
set_option maxRecDepth 100000
set_option maxHeartbeats 2000000
namespace TP
open PySem PySem.Spec PyProof.Rows L2
open Evl (Ex)
-- tactics of this text: what an expression is worth (jv jd jt jo jw), growth (ex), what remains (side); call, calld: what the text adds
local macro_rules | `(tactic| walk_at "ex") => `(tactic| first | exact Ex.refl _ | assumption | (refine' Ex.trans ?_ (by assumption); walk_at "ex"))
local macro_rules | `(tactic| walk_at "vis") => `(tactic| first
  | exact Or.inl rfl
  | exact Or.inr (Or.inl rfl)
  | exact Or.inr (Or.inr rfl))
local macro_rules | `(tactic| walk_at "loc") => `(tactic| first
  | exact Or.inl rfl
  | exact Or.inr rfl)
local macro_rules | `(tactic| walk_at "side") => `(tactic| first
  | assumption
  | omega
  | decide
  | exact rfl
  | (simp_all; done)
  | (simp_all; omega))
local macro_rules | `(tactic| walk_at "hu") => `(tactic| first
  | exact room65 (by assumption)
  | exact Room.units (by assumption))
local macro_rules | `(tactic| walk_at "dp") => `(tactic| first | assumption | (refine' Dx.mono ?_ (by assumption); walk_at "ex"))
local macro_rules | `(tactic| walk_at "var") => `(tactic| first
  | (apply jv_var 0; exact rfl; exact rfl; walk_at "vis"; decide; decide)
  | (apply jv_var 1; exact rfl; exact rfl; walk_at "vis"; decide; decide)
  | (apply jv_var 2; exact rfl; exact rfl; walk_at "vis"; decide; decide)
  | (apply jv_var 3; exact rfl; exact rfl; walk_at "vis"; decide; decide)
  | (apply jv_var 4; exact rfl; exact rfl; walk_at "vis"; decide; decide)
  | (apply jv_var 5; exact rfl; exact rfl; walk_at "vis"; decide; decide)
  | (apply jv_var 6; exact rfl; exact rfl; walk_at "vis"; decide; decide)
  | (apply jv_var 7; exact rfl; exact rfl; walk_at "vis"; decide; decide)
  | (apply jv_var 8; exact rfl; exact rfl; walk_at "vis"; decide; decide)
  | (apply jv_var 9; exact rfl; exact rfl; walk_at "vis"; decide; decide)
  | (apply jv_var 10; exact rfl; exact rfl; walk_at "vis"; decide; decide)
  | (apply jv_var 11; exact rfl; exact rfl; walk_at "vis"; decide; decide)
  | (apply jv_var 12; exact rfl; exact rfl; walk_at "vis"; decide; decide)
  | (apply jv_var 13; exact rfl; exact rfl; walk_at "vis"; decide; decide)
  | (apply jv_var 14; exact rfl; exact rfl; walk_at "vis"; decide; decide)
  | (apply jv_var 15; exact rfl; exact rfl; walk_at "vis"; decide; decide)
  | (apply jv_var 16; exact rfl; exact rfl; walk_at "vis"; decide; decide)
  | (apply jv_var 17; exact rfl; exact rfl; walk_at "vis"; decide; decide)
  | (apply jv_var 18; exact rfl; exact rfl; walk_at "vis"; decide; decide)
  | (apply jv_var 19; exact rfl; exact rfl; walk_at "vis"; decide; decide))
local macro_rules | `(tactic| walk_at "bm") => `(tactic| first
  | assumption)
local macro_rules | `(tactic| walk_at "call") => `(tactic| first
  | fail "call")
local macro_rules | `(tactic| walk_at "calld") => `(tactic| first
  | fail "calld")
local macro_rules | `(tactic| walk_at "kit") => `(tactic| first
  | assumption
  | exact kit_ii
  | exact kit_ib
  | exact kit_bi
  | exact kit_bb
  | exact kit_li
  | exact kit_ll
  | exact kit_tt
  | exact kit_tl
  | exact kit_lt
  | exact kit_tb)
local macro_rules | `(tactic| walk_at "ns") => `(tactic| first
  | exact fun _ _ => rfl)
local macro_rules | `(tactic| walk_at "jv") => `(tactic| first
  | exact jv_int
  | exact jv_bl
  | exact jv_non
  | exact jv_str
  | walk_at "var"
  | (apply jv_add; walk_at "jv"; walk_at "jv")
  | (apply jv_sub; walk_at "jv"; walk_at "jv")
  | (apply jv_neg; walk_at "jv")
  | (apply jv_mul; walk_at "jv"; walk_at "jv"; walk_at "mulok")
  | (apply jv_fdiv; walk_at "jv"; walk_at "jv"; walk_at "divok")
  | (apply jv_mod; walk_at "jv"; walk_at "jv"; walk_at "side")
  | (apply jv_band; walk_at "jv"; walk_at "jv")
  | (apply jv_cmp; walk_at "jo"; (first | exact rfl | exact nomark _))
  | (apply jv_chain op_le op_le; walk_at "jv"; walk_at "jv"; walk_at "jv"; with_unfolding_all rfl)
  | (apply jv_chain op_le op_lt; walk_at "jv"; walk_at "jv"; walk_at "jv"; with_unfolding_all rfl)
  | (apply jv_and; walk_at "jv"; intro hand; walk_at "jv")
  | (apply jv_or; walk_at "jv"; intro hor; walk_at "jv")
  | (apply jv_not; walk_at "jv")
  | (apply jv_one; walk_at "jv")
  | (apply jv_lenM; walk_at "bm"; walk_at "jd"; exact rfl; walk_at "ns")
  | (apply jv_len; walk_at "bm"; walk_at "jd"; exact rfl; walk_at "ns")
  | (apply jv_all; exact rfl; walk_at "bm"; walk_at "jd"; exact rfl; decide +kernel; walk_at "ns")
  | (apply jv_any; exact rfl; walk_at "bm"; walk_at "jd"; exact rfl; decide +kernel; walk_at "ns")
  | (apply jv_lenT; walk_at "bm"; walk_at "jd"; exact rfl; walk_at "ns")
  | walk_at "call"
  | (apply jv_isi; (first | exact boot_tint | exact boot_tbool | exact boot_tlist | exact boot_ttuple); walk_at "bm"; walk_at "bm"; walk_at "jd"; walk_at "kit"; exact rfl; exact rfl; exact boot_isi; walk_at "ns"; decide; decide)
  | (apply jv_lenSet; exact rfl; walk_at "bm"; walk_at "bm"; walk_at "jd"; walk_at "side"; exact rfl; exact rfl; walk_at "ns")
  | (apply jv_ifE; walk_at "jt"; intro hif; walk_at "jv"; intro hif; walk_at "jv")
  | (apply JD.toI; walk_at "jx")
  | (apply JD.toB; walk_at "jx")
  | (apply JD.toS; walk_at "jx"))
local macro_rules | `(tactic| walk_at "mulok") => `(tactic| first
  | exact Or.inr ⟨by decide, by decide⟩
  | exact Or.inl ⟨by decide, by decide⟩
  | exact Or.inl ⟨by omega, by omega⟩
  | exact Or.inr ⟨by omega, by omega⟩)
local macro_rules | `(tactic| walk_at "divok") => `(tactic| first
  | exact ⟨by decide, by decide⟩
  | exact ⟨by omega, by omega⟩)
local macro_rules | `(tactic| walk_at "jx") => `(tactic| first
  | (apply jd_ixN; walk_at "jd"; walk_at "jv"; exact fun _ _ => rfl; walk_at "side")
  | (apply jd_ixNs; walk_at "jd"; walk_at "jv"; exact fun _ _ => rfl; walk_at "side")
  | (apply jd_ixP; walk_at "jd"; walk_at "jv"; exact fun _ _ => rfl; walk_at "side")
  | (apply jd_ixPs; walk_at "jd"; walk_at "jv"; exact fun _ _ => rfl; walk_at "side")
  | (apply jd_ixI; walk_at "jd"; walk_at "jv"; exact fun _ _ => rfl; walk_at "side")
  | (apply jd_ixP1; walk_at "jd")
  | (apply jd_ixP2; walk_at "jd")
  | walk_at "calld")
local macro_rules | `(tactic| walk_at "jd") => `(tactic| first
  | (apply JV.toD; walk_at "var"; walk_at "dp")
  | walk_at "jx"
  | (apply jd_list; walk_at "jad"; exact Nat.le_of_ble_eq_true rfl)
  | (apply jd_tuple; walk_at "jad"; exact Nat.le_of_ble_eq_true rfl)
  | (apply jd_listOf; walk_at "bm"; walk_at "jd"; exact rfl; exact boot_tlist; walk_at "ns")
  | (apply JV.toD (v := V.int _); walk_at "jv"; exact Dx.int _)
  | (apply JV.toD (v := V.bl _); walk_at "jv"; exact Dx.bl _)
  | (apply JV.toD (v := V.str _); walk_at "jv"; exact Dx.str _)
  | (apply jd_ifE; walk_at "jt"; intro hif; walk_at "jd"; intro hif; walk_at "jd"))
local macro_rules | `(tactic| walk_at "jad") => `(tactic| first
  | exact jad_nil
  | (apply jad_cons; walk_at "jd"; walk_at "jad"; walk_at "ns"))
local macro_rules | `(tactic| walk_at "jo") => `(tactic| first
  | (apply jo_isN; walk_at "jv")
  | (apply jo_notN; walk_at "jv")
  | (apply jo_eqI; walk_at "jv"; walk_at "jv")
  | (apply jo_neI; walk_at "jv"; walk_at "jv")
  | (apply jo_lt; walk_at "jv"; walk_at "jv")
  | (apply jo_le; walk_at "jv"; walk_at "jv")
  | (apply jo_gt; walk_at "jv"; walk_at "jv")
  | (apply jo_ge; walk_at "jv"; walk_at "jv")
  | (apply jo_inN; walk_at "hu"; walk_at "jv"; walk_at "jd")
  | (apply jo_niN; walk_at "hu"; walk_at "jv"; walk_at "jd")
  | (apply jo_eqD; walk_at "hu"; walk_at "jd"; walk_at "jd"; walk_at "shp"; walk_at "shp")
  | (apply jo_neD; walk_at "hu"; walk_at "jd"; walk_at "jd"; walk_at "shp"; walk_at "shp"))
local macro_rules | `(tactic| walk_at "shp") => `(tactic| first
  | assumption
  | exact Shp.shaped eLL _
  | exact Shp.shaped ePs _
  | exact Shp.shaped eNs _
  | exact Shp.shaped ePss _
  | exact Shp.shaped eP _
  | exact Shp.shaped eN _
  | exact Shp.shaped eI _
  | decide)
local macro_rules | `(tactic| walk_at "jw") => `(tactic| first
  | (apply jw_one_and; walk_at "jt")
  | (apply jw_one_or; walk_at "jt")
  | (apply jw_and; walk_at "jt"; intro hand; walk_at "jw")
  | (apply jw_or; walk_at "jt"; intro hor; walk_at "jw"))
local macro_rules | `(tactic| walk_at "jt") => `(tactic| first
  | (apply jt_w; walk_at "jw")
  | (apply jt_cmp; walk_at "jo"; (first | exact rfl | exact nomark _))
  | (apply jt_not; walk_at "jt")
  | (apply jt_val; walk_at "jv"; exact fun _ => rfl)
  | (apply jt_chain op_le op_le; walk_at "jv"; walk_at "jv"; walk_at "jv"; with_unfolding_all rfl))
local macro_rules | `(tactic| walk_at "camp") => `(tactic| first | assumption | (refine' CampAt.mono ?_ (by assumption); walk_at "ex"))
local macro_rules | `(tactic| walk_at "calld") => `(tactic| first
  | (apply jd_told; assumption; walk_at "var"; walk_at "camp"; exact rfl)
  | walk_at "calld2")
local macro_rules | `(tactic| walk_at "calld2") => `(tactic| first
  | fail "calld2")
local macro_rules | `(tactic| walk_at "room") => `(tactic| first
  | assumption
  | exact Room.mono (by assumption) (by decide))
local macro_rules | `(tactic| walk_at "bm") => `(tactic| first
  | assumption
  | exact Tx.len (by assumption)
  | exact Tx.range (by assumption)
  | exact Tx.list (by assumption)
  | exact Tx.all (by assumption)
  | exact Tx.any (by assumption)
  | exact Tx.isi (by assumption)
  | exact Tx.int (by assumption)
  | exact Tx.bool (by assumption)
  | exact Tx.set (by assumption)
  | exact Tx.tup (by assumption))
local macro_rules | `(tactic| walk_at "call") => `(tactic| first
  | (apply jv_size; assumption; walk_at "var"; walk_at "camp"; exact rfl)
  | (apply jv_index; walk_at "hu"; walk_at "jd"; walk_at "jv"; walk_at "side"; walk_at "ns"; exact rfl; exact rfl; exact rfl)
  | (apply jv_would; assumption; assumption; walk_at "room"; walk_at "var"; walk_at "camp"; walk_at "jv"; walk_at "jv"; walk_at "side"; walk_at "side"; walk_at "ns"; walk_at "ns"; exact rfl; exact rfl)
  | walk_at "call2")
local macro_rules | `(tactic| walk_at "call2") => `(tactic| first
  | fail "call2")
/-! ### within -/
def withinD (d : PyData) (lo hi : Int) : Bool := match d with
  | .int n => decide (lo ≤ n) && decide (n ≤ hi)
  | _ => false
section
variable {P : Program} {w : World} {K : PySem.W.Frag} {mg : Str → Option Value} {base : Heap} {C : Addr}
abbrev spWithin : Sp := spOf (fun _ : PyData × Int × Int => True) (fun i => [kD i.1, kI i.2.1, kI i.2.2]) (fun i => kB (withinD i.1 i.2.1 i.2.2))
theorem kit_no (d : PyData) (h : ∀ n, d ≠ .int n) (h2 : ∀ b, d ≠ .bool b) (h3 : ∀ b, d ≠ .dict b) : kitB (dty d) "int" = some false := by
  cases d with
  | int n => exact absurd rfl (h n)
  | bool b => exact absurd rfl (h2 b)
  | dict b => exact absurd rfl (h3 b)
  | none => decide +kernel
  | str x => show kitB "str" "int" = some false; decide +kernel
  | list x => show kitB "list" "int" = some false; decide +kernel
  | tuple x => show kitB "tuple" "int" = some false; decide +kernel
theorem ok_within {f : Addr} {fd : FuncData} (F : Fun K "within" "within" s_within f fd) (T : Tx K mg C) : FnOk P w K mg base CX0 1 f fd ["number", "low", "high"] spWithin := by
  refine fun_ok F sc_within (fun _ => rfl) ?_
  rintro cdv A outer s H vs Q E ⟨d, lo, hi⟩ G hr _ al h k
  obtain ⟨u, _, _, rfl, hd, rfl, rfl⟩ := al.three
  try dsimp only at hd k ⊢
  cases hd with
  | int n =>
    refine b_ret h (v := .bl (true && (!false && (decide (lo ≤ n) && decide (n ≤ hi))))) (by walk_at "jv") (fun H' h' => k _ _ _ _ h' ?_)
    simp [withinD]
  | bl n =>
    refine b_ret h (v := .bl (true && (!true && false))) ?_ (fun H' h' => k _ _ _ _ h' ?_)
    · refine jv_and ?_ (fun _ => jv_and ?_ (fun z => by cases z))
      · walk_at "jv"
      · walk_at "jv"
    · simp [withinD]
  | non =>
    have hk := kit_no .none (fun _ z => nomatch z) (fun _ z => nomatch z) (fun _ z => nomatch z)
    have hd : Dx G .non .none := .non
    refine b_ret h (v := .bl (false && false)) (jv_and (by walk_at "jv") (fun z => by cases z)) (fun H' h' => k _ _ _ _ h' (by simp [withinD]))
  | str n =>
    have hk := kit_no (.str n) (fun _ z => nomatch z) (fun _ z => nomatch z) (fun _ z => nomatch z)
    have hd : Dx G (.str n) (.str n) := .str n
    refine b_ret h (v := .bl (false && false)) (jv_and (by walk_at "jv") (fun z => by cases z)) (fun H' h' => k _ _ _ _ h' (by simp [withinD]))
  | @lst a xs ds h1 h2 =>
    have hk := kit_no (.list ds) (fun _ z => nomatch z) (fun _ z => nomatch z) (fun _ z => nomatch z)
    have hd : Dx G (.ref a) (.list ds) := .lst h1 h2
    refine b_ret h (v := .bl (false && false)) (jv_and (by walk_at "jv") (fun z => by cases z)) (fun H' h' => k _ _ _ _ h' (by simp [withinD]))
  | @tup a xs ds h1 h2 =>
    have hk := kit_no (.tuple ds) (fun _ z => nomatch z) (fun _ z => nomatch z) (fun _ z => nomatch z)
    have hd : Dx G (.ref a) (.tuple ds) := .tup h1 h2
    refine b_ret h (v := .bl (false && false)) (jv_and (by walk_at "jv") (fun z => by cases z)) (fun H' h' => k _ _ _ _ h' (by simp [withinD]))
end
section
variable {X : Cx} {σ : L2.St} {e o a b c : Expr} {es : List Expr} {G : Hp} {pos : Pos} {x : Str} {C p : Addr} {L : List (List Nat)}
theorem jv_within {d : PyData} {lo hi : Int} {ap : Pos} (M : Df X.prog X.w X.K X.mg X.base "within" 1 spWithin) (hr : Room 1 X.A) (ha : JD X σ a G d) (hb : JV X σ b G (.int lo)) (hc : JV X σ c G (.int hi)) (hg : Gl X "within") (na : NoStar a) (nb : NoStar b) (nc : NoStar c)
    (hpl : (backTo pos (starEach [b, c] X.env)).any (·.1) = false) : JV X σ (.Call (.Name "within" ap) [a, b, c] [] pos) G (.bl (withinD d lo hi)) :=
  (jp_call M hr hg (d, lo, hi) trivial (jal_cons ha.toP mo_D (fun _ e => jal_cons (hb.mono e).toPV mo_V (fun _ e2 => jal_cons (hc.mono (e.trans e2)).toPV mo_V (fun _ _ => jal_nil) nc) nb) na) na (by decide) hpl).toB
theorem jv_rather {m n q : Nat} {ap : Pos} {pl : Sem Bool} (T : Tx X.K X.mg C) (M : Mt X.prog X.w X.K X.mg X.base C "rather" 1 (spRather X.K C)) (hr : Room 1 X.A) (ho : JV X σ o G (.ref p)) (hc : CampAt X.K C G p L) (ha : JV X σ a G (.int (m : Int))) (hb : JV X σ b G (.int (n : Int))) (hq : JV X σ c G (.int (q : Int)))
    (hm : m < L.length) (hin : ¬ n = q → ¬ n = m → ¬ q = m → n ∈ L.getD m [] ∧ q ∈ L.getD m []) (na : NoStar a) (nb : NoStar b) (nc : NoStar c)
    (hpl : (backTo pos (starEach [b, c] X.env)).any (·.1) = false)
    (ht : eval (.Call (.Attribute o "rather" ap) [a, b, c] [] pos) X.env = (do
      let ov ← eval o X.env
      standAt ap.atName
      let (f, first) ← holding [ov] (getMethod ov "rather" pl)
      callWith pos f first (backTo pos (starEach [a, b, c] X.env)) (backToKw pos (keywordEach [] X.env)))) : JV X σ (.Call (.Attribute o "rather" ap) [a, b, c] [] pos) G (.bl (rather L m n q)) := by
  obtain ⟨t, h1, h2⟩ := hc
  exact (jp_meth M T.cl ho h1 (campA_no _ _ (by decide +kernel) (by decide +kernel)) hr (L, m, n, q) ⟨hm, hin⟩ (P0 := kCamp X.K C L) rfl ⟨p, rfl, t, h1, h2⟩ mo_Camp
    (jal_cons ha.toPV mo_V (fun _ e => jal_cons (hb.mono e).toPV mo_V (fun _ e2 => jal_cons (hq.mono (e.trans e2)).toPV mo_V (fun _ _ => jal_nil) nc) nb) na) na hpl ht).toB
theorem jd_open {ap : Pos} (M : Df X.prog X.w X.K X.mg X.base "open_pairs" 2 (spOpen X.K C)) (hr : Room 2 X.A) (ho : JV X σ o G (.ref p)) (hc : CampAt X.K C G p L) (hL : L.length ≤ 6) (hg : Gl X "open_pairs") (na : NoStar o)
    (hpl : (backTo pos (starEach [] X.env)).any (·.1) = false) : JD X σ (.Call (.Name "open_pairs" ap) [o] [] pos) G (ePs (openPairs L)) :=
  (jp_call M hr hg L hL (jal_cons (ho.toP ⟨p, rfl, hc⟩) mo_Camp (fun _ _ => jal_nil) na) na (by decide) hpl).toD
end
end TP

set_option Elab.async false
set_option linter.all false
set_option maxRecDepth 100000
set_option maxHeartbeats 2000000
namespace TP
open PySem PySem.Spec PyProof.Rows L2
open Evl (Ex)
-- tactics of this text: what an expression is worth (jv jd jt jo jw), growth (ex), what remains (side); call, calld: what the text adds
local macro_rules | `(tactic| walk_at "ex") => `(tactic| first | exact Ex.refl _ | assumption | (refine' Ex.trans ?_ (by assumption); walk_at "ex"))
local macro_rules | `(tactic| walk_at "vis") => `(tactic| first
  | exact Or.inl rfl
  | exact Or.inr (Or.inl rfl)
  | exact Or.inr (Or.inr rfl))
local macro_rules | `(tactic| walk_at "loc") => `(tactic| first
  | exact Or.inl rfl
  | exact Or.inr rfl)
local macro_rules | `(tactic| walk_at "side") => `(tactic| first
  | assumption
  | omega
  | decide
  | exact rfl
  | (simp_all; done)
  | (simp_all; omega))
local macro_rules | `(tactic| walk_at "hu") => `(tactic| first
  | exact room65 (by assumption)
  | exact Room.units (by assumption))
local macro_rules | `(tactic| walk_at "dp") => `(tactic| first | assumption | (refine' Dx.mono ?_ (by assumption); walk_at "ex"))
local macro_rules | `(tactic| walk_at "var") => `(tactic| first
  | (apply jv_var 0; exact rfl; exact rfl; walk_at "vis"; decide; decide)
  | (apply jv_var 1; exact rfl; exact rfl; walk_at "vis"; decide; decide)
  | (apply jv_var 2; exact rfl; exact rfl; walk_at "vis"; decide; decide)
  | (apply jv_var 3; exact rfl; exact rfl; walk_at "vis"; decide; decide)
  | (apply jv_var 4; exact rfl; exact rfl; walk_at "vis"; decide; decide)
  | (apply jv_var 5; exact rfl; exact rfl; walk_at "vis"; decide; decide)
  | (apply jv_var 6; exact rfl; exact rfl; walk_at "vis"; decide; decide)
  | (apply jv_var 7; exact rfl; exact rfl; walk_at "vis"; decide; decide)
  | (apply jv_var 8; exact rfl; exact rfl; walk_at "vis"; decide; decide)
  | (apply jv_var 9; exact rfl; exact rfl; walk_at "vis"; decide; decide)
  | (apply jv_var 10; exact rfl; exact rfl; walk_at "vis"; decide; decide)
  | (apply jv_var 11; exact rfl; exact rfl; walk_at "vis"; decide; decide)
  | (apply jv_var 12; exact rfl; exact rfl; walk_at "vis"; decide; decide)
  | (apply jv_var 13; exact rfl; exact rfl; walk_at "vis"; decide; decide)
  | (apply jv_var 14; exact rfl; exact rfl; walk_at "vis"; decide; decide)
  | (apply jv_var 15; exact rfl; exact rfl; walk_at "vis"; decide; decide)
  | (apply jv_var 16; exact rfl; exact rfl; walk_at "vis"; decide; decide)
  | (apply jv_var 17; exact rfl; exact rfl; walk_at "vis"; decide; decide)
  | (apply jv_var 18; exact rfl; exact rfl; walk_at "vis"; decide; decide)
  | (apply jv_var 19; exact rfl; exact rfl; walk_at "vis"; decide; decide))
local macro_rules | `(tactic| walk_at "bm") => `(tactic| first
  | assumption)
local macro_rules | `(tactic| walk_at "call") => `(tactic| first
  | fail "call")
local macro_rules | `(tactic| walk_at "calld") => `(tactic| first
  | fail "calld")
local macro_rules | `(tactic| walk_at "kit") => `(tactic| first
  | assumption
  | exact kit_ii
  | exact kit_ib
  | exact kit_bi
  | exact kit_bb
  | exact kit_li
  | exact kit_ll
  | exact kit_tt
  | exact kit_tl
  | exact kit_lt
  | exact kit_tb)
local macro_rules | `(tactic| walk_at "ns") => `(tactic| first
  | exact fun _ _ => rfl)
local macro_rules | `(tactic| walk_at "jv") => `(tactic| first
  | exact jv_int
  | exact jv_bl
  | exact jv_non
  | exact jv_str
  | walk_at "var"
  | (apply jv_add; walk_at "jv"; walk_at "jv")
  | (apply jv_sub; walk_at "jv"; walk_at "jv")
  | (apply jv_neg; walk_at "jv")
  | (apply jv_mul; walk_at "jv"; walk_at "jv"; walk_at "mulok")
  | (apply jv_fdiv; walk_at "jv"; walk_at "jv"; walk_at "divok")
  | (apply jv_mod; walk_at "jv"; walk_at "jv"; walk_at "side")
  | (apply jv_band; walk_at "jv"; walk_at "jv")
  | (apply jv_cmp; walk_at "jo"; (first | exact rfl | exact nomark _))
  | (apply jv_chain op_le op_le; walk_at "jv"; walk_at "jv"; walk_at "jv"; with_unfolding_all rfl)
  | (apply jv_chain op_le op_lt; walk_at "jv"; walk_at "jv"; walk_at "jv"; with_unfolding_all rfl)
  | (apply jv_and; walk_at "jv"; intro hand; walk_at "jv")
  | (apply jv_or; walk_at "jv"; intro hor; walk_at "jv")
  | (apply jv_not; walk_at "jv")
  | (apply jv_one; walk_at "jv")
  | (apply jv_lenM; walk_at "bm"; walk_at "jd"; exact rfl; walk_at "ns")
  | (apply jv_len; walk_at "bm"; walk_at "jd"; exact rfl; walk_at "ns")
  | (apply jv_all; exact rfl; walk_at "bm"; walk_at "jd"; exact rfl; decide +kernel; walk_at "ns")
  | (apply jv_any; exact rfl; walk_at "bm"; walk_at "jd"; exact rfl; decide +kernel; walk_at "ns")
  | (apply jv_lenT; walk_at "bm"; walk_at "jd"; exact rfl; walk_at "ns")
  | walk_at "call"
  | (apply jv_isi; (first | exact boot_tint | exact boot_tbool | exact boot_tlist | exact boot_ttuple); walk_at "bm"; walk_at "bm"; walk_at "jd"; walk_at "kit"; exact rfl; exact rfl; exact boot_isi; walk_at "ns"; decide; decide)
  | (apply jv_lenSet; exact rfl; walk_at "bm"; walk_at "bm"; walk_at "jd"; walk_at "side"; exact rfl; exact rfl; walk_at "ns")
  | (apply jv_ifE; walk_at "jt"; intro hif; walk_at "jv"; intro hif; walk_at "jv")
  | (apply JD.toI; walk_at "jx")
  | (apply JD.toB; walk_at "jx")
  | (apply JD.toS; walk_at "jx"))
local macro_rules | `(tactic| walk_at "mulok") => `(tactic| first
  | exact Or.inr ⟨by decide, by decide⟩
  | exact Or.inl ⟨by decide, by decide⟩
  | exact Or.inl ⟨by omega, by omega⟩
  | exact Or.inr ⟨by omega, by omega⟩)
local macro_rules | `(tactic| walk_at "divok") => `(tactic| first
  | exact ⟨by decide, by decide⟩
  | exact ⟨by omega, by omega⟩)
local macro_rules | `(tactic| walk_at "jx") => `(tactic| first
  | (apply jd_ixN; walk_at "jd"; walk_at "jv"; exact fun _ _ => rfl; walk_at "side")
  | (apply jd_ixNs; walk_at "jd"; walk_at "jv"; exact fun _ _ => rfl; walk_at "side")
  | (apply jd_ixP; walk_at "jd"; walk_at "jv"; exact fun _ _ => rfl; walk_at "side")
  | (apply jd_ixPs; walk_at "jd"; walk_at "jv"; exact fun _ _ => rfl; walk_at "side")
  | (apply jd_ixI; walk_at "jd"; walk_at "jv"; exact fun _ _ => rfl; walk_at "side")
  | (apply jd_ixP1; walk_at "jd")
  | (apply jd_ixP2; walk_at "jd")
  | walk_at "calld")
local macro_rules | `(tactic| walk_at "jd") => `(tactic| first
  | (apply JV.toD; walk_at "var"; walk_at "dp")
  | walk_at "jx"
  | (apply jd_list; walk_at "jad"; exact Nat.le_of_ble_eq_true rfl)
  | (apply jd_tuple; walk_at "jad"; exact Nat.le_of_ble_eq_true rfl)
  | (apply jd_listOf; walk_at "bm"; walk_at "jd"; exact rfl; exact boot_tlist; walk_at "ns")
  | (apply JV.toD (v := V.int _); walk_at "jv"; exact Dx.int _)
  | (apply JV.toD (v := V.bl _); walk_at "jv"; exact Dx.bl _)
  | (apply JV.toD (v := V.str _); walk_at "jv"; exact Dx.str _)
  | (apply jd_ifE; walk_at "jt"; intro hif; walk_at "jd"; intro hif; walk_at "jd"))
local macro_rules | `(tactic| walk_at "jad") => `(tactic| first
  | exact jad_nil
  | (apply jad_cons; walk_at "jd"; walk_at "jad"; walk_at "ns"))
local macro_rules | `(tactic| walk_at "jo") => `(tactic| first
  | (apply jo_isN; walk_at "jv")
  | (apply jo_notN; walk_at "jv")
  | (apply jo_eqI; walk_at "jv"; walk_at "jv")
  | (apply jo_neI; walk_at "jv"; walk_at "jv")
  | (apply jo_lt; walk_at "jv"; walk_at "jv")
  | (apply jo_le; walk_at "jv"; walk_at "jv")
  | (apply jo_gt; walk_at "jv"; walk_at "jv")
  | (apply jo_ge; walk_at "jv"; walk_at "jv")
  | (apply jo_inN; walk_at "hu"; walk_at "jv"; walk_at "jd")
  | (apply jo_niN; walk_at "hu"; walk_at "jv"; walk_at "jd")
  | (apply jo_eqD; walk_at "hu"; walk_at "jd"; walk_at "jd"; walk_at "shp"; walk_at "shp")
  | (apply jo_neD; walk_at "hu"; walk_at "jd"; walk_at "jd"; walk_at "shp"; walk_at "shp"))
local macro_rules | `(tactic| walk_at "shp") => `(tactic| first
  | assumption
  | exact Shp.shaped eLL _
  | exact Shp.shaped ePs _
  | exact Shp.shaped eNs _
  | exact Shp.shaped ePss _
  | exact Shp.shaped eP _
  | exact Shp.shaped eN _
  | exact Shp.shaped eI _
  | decide)
local macro_rules | `(tactic| walk_at "jw") => `(tactic| first
  | (apply jw_one_and; walk_at "jt")
  | (apply jw_one_or; walk_at "jt")
  | (apply jw_and; walk_at "jt"; intro hand; walk_at "jw")
  | (apply jw_or; walk_at "jt"; intro hor; walk_at "jw"))
local macro_rules | `(tactic| walk_at "jt") => `(tactic| first
  | (apply jt_w; walk_at "jw")
  | (apply jt_cmp; walk_at "jo"; (first | exact rfl | exact nomark _))
  | (apply jt_not; walk_at "jt")
  | (apply jt_val; walk_at "jv"; exact fun _ => rfl)
  | (apply jt_chain op_le op_le; walk_at "jv"; walk_at "jv"; walk_at "jv"; with_unfolding_all rfl))
local macro_rules | `(tactic| walk_at "camp") => `(tactic| first | assumption | (refine' CampAt.mono ?_ (by assumption); walk_at "ex"))
local macro_rules | `(tactic| walk_at "calld") => `(tactic| first
  | (apply jd_told; assumption; walk_at "var"; walk_at "camp"; exact rfl)
  | walk_at "calld2")
local macro_rules | `(tactic| walk_at "calld2") => `(tactic| first
  | fail "calld2")
local macro_rules | `(tactic| walk_at "room") => `(tactic| first
  | assumption
  | exact Room.mono (by assumption) (by decide))
local macro_rules | `(tactic| walk_at "bm") => `(tactic| first
  | assumption
  | exact Tx.len (by assumption)
  | exact Tx.range (by assumption)
  | exact Tx.list (by assumption)
  | exact Tx.all (by assumption)
  | exact Tx.any (by assumption)
  | exact Tx.isi (by assumption)
  | exact Tx.int (by assumption)
  | exact Tx.bool (by assumption)
  | exact Tx.set (by assumption)
  | exact Tx.tup (by assumption))
local macro_rules | `(tactic| walk_at "call") => `(tactic| first
  | (apply jv_size; assumption; walk_at "var"; walk_at "camp"; exact rfl)
  | (apply jv_index; walk_at "hu"; walk_at "jd"; walk_at "jv"; walk_at "side"; walk_at "ns"; exact rfl; exact rfl; exact rfl)
  | (apply jv_would; assumption; assumption; walk_at "room"; walk_at "var"; walk_at "camp"; walk_at "jv"; walk_at "jv"; walk_at "side"; walk_at "side"; walk_at "ns"; walk_at "ns"; exact rfl; exact rfl)
  | walk_at "call2")
local macro_rules | `(tactic| walk_at "call2") => `(tactic| first
  | fail "call2")
local macro_rules | `(tactic| walk_at "call2") => `(tactic| first
  | (apply jv_glob; exact rfl; assumption; exact ⟨_, rfl⟩; decide)
  | (apply jv_within; assumption; walk_at "room"; walk_at "jd"; walk_at "jv"; walk_at "jv"; exact rfl; walk_at "ns"; walk_at "ns"; walk_at "ns"; exact rfl))
structure ValidL (L : List (List Nat)) : Prop where
  one : 1 ≤ L.length
  six : L.length ≤ 6
  mem : ∀ i, i < L.length → ∀ x ∈ L.getD i [], x < L.length
  nd : ∀ i, i < L.length → (L.getD i []).Nodup
  self : ∀ i, i < L.length → i ∉ L.getD i []
theorem nd_sub : ∀ (l m : List Nat), l.Nodup → (∀ x ∈ l, x ∈ m) → l.length ≤ m.length
  | [], _, _, _ => Nat.zero_le _
  | x :: l, m, nd, h => by
    have hx := h x List.mem_cons_self
    have n := List.nodup_cons.mp nd
    have ih := nd_sub l (m.erase x) n.2 fun y hy => (List.mem_erase_of_ne (fun e => n.1 (by rw [← e]; exact hy))).mpr (h y (List.mem_cons_of_mem _ hy))
    rw [List.length_erase_of_mem hx] at ih
    have := List.length_pos_of_mem hx
    rw [List.length_cons]
    omega
theorem nodup_bound (n : Nat) (l : List Nat) (nd : l.Nodup) (h : ∀ x ∈ l, x < n) : l.length ≤ n := by
  have := nd_sub l (List.range n) nd fun x hx => List.mem_range.mpr (h x hx)
  rwa [List.length_range] at this
theorem ValidL.len (v : ValidL L) {i : Nat} (hi : i < L.length) : (L.getD i []).length ≤ 6 := Nat.le_trans (nodup_bound L.length _ (v.nd i hi) (v.mem i hi)) v.six
section
variable {P : Program} {w : World} {K : PySem.W.Frag} {mg : Str → Option Value} {base : Heap} {C : Addr}
abbrev rCamp (L : List (List Nat)) : Hp → List (Str × V) → Prop := fun F fs => ∃ t, (∀ f, fs.lookup f = (campA t L.length).lookup f) ∧ Dx F t (eLL L)
abbrev spCamp (C : Addr) : Sp := spMk C ValidL (fun L => [kD (eLL L)]) rCamp
theorem campA_put (t : V) (n : Nat) (f : Str) : (putF "size" (.int (n : Int)) (putF "told" t [])).lookup f = (campA t n).lookup f := by
  rw [lookup_putF, lookup_putF]
  by_cases h1 : f = "told"
  · subst h1
    rw [if_neg (by decide +kernel), if_pos rfl, campA_told]
  · by_cases h2 : f = "size"
    · subst h2
      rw [if_pos rfl, campA_size]
    · rw [if_neg h2, if_neg h1, campA_no _ _ (by simpa using h1) (by simpa using h2)]
      rfl
theorem ok_camp {f : Addr} {fd : FuncData} (F : Fun K "__init__" "Camp.__init__" s_Camp___init__ f fd) (T : Tx K mg C) (W : Df P w K mg base "within" 1 spWithin) : FnOk P w K mg base CX0 2 f fd ["self", "lists"] (spCamp C) := by
  refine fun_okI F sc_Camp___init__ (fun _ => rfl) ?_
  rintro cdv A outer s H us Q E L G H0 x dx hr hv al h k
  obtain ⟨a, rfl, hL⟩ := al.one
  try dsimp only at hL k ⊢
  obtain ⟨tm, hmost⟩ := T.most
  have nd := sc_Camp___init__.nd
  have h1n := hv.one
  have h6n := hv.six
  refine' b_if (p := false) h (JT.is ?tt ?eq0) (fun e => by cases e) (fun _ H1 h1 => ?_)
  case tt => walk_at "jt"
  case eq0 => simp [h1n, h6n]; omega
  refine b_nil ?_
  refine b_for h1 (f := eN) (xs := List.range L.length) (ji_range1 T.range (by walk_at "jv") (by omega) rfl (by walk_at "ns")) PassesOwn.never rfl (fun _ => rfl) (fun G1 H2 h2 e2 => ?_)
  refine ⟨fun pre σ' G' H' => ∃ o1 o2, σ' = [some (.ref x), some a, o1, o2, none] ∧ Hs G H0 G' H' [(x, .ins C dx []), (dx, .own x)] ∧ Ex G1 G', ?_, ?_, ?_, ?_⟩
  · exact ⟨none, none, rfl, h2, Ex.refl _⟩
  · rintro pre σ' G' H' ⟨o1, o2, rfl, hs, e⟩
    exact ⟨e, hs.ex⟩
  · rintro pre c post v σ' G' H' hxs ⟨o1, o2, rfl, hs, e⟩ pv
    cases pv
    have hc : c < L.length := by
      have : c ∈ List.range L.length := by rw [hxs]; simp
      simpa using this
    refine wg_name (n := 2) nd rfl (by walk_at "loc") (Or.inl rfl) ?_
    refine b_setD (n := 3) (d := eNs (L.getD c [])) hs (by walk_at "jd") nd rfl (by walk_at "loc") rfl (Or.inl rfl) (fun G2 H3 v h3 e3 hv3 => ?_)
    refine' b_if (p := false) h3 (JT.is (jt_w (jw_or ?t1 (fun _ => jw_one_or (jt_not (jt_val (jv_all rfl T.all (bs := (L.getD c []).map fun y => withinD (eN y) 0 ((L.length : Int) - 1)) (JD.is (JN.toD (jn_lc (n := 4) (f0 := eN) (xs := L.getD c []) (f := fun y => .bool (withinD (eN y) 0 ((L.length : Int) - 1))) (ji_list (by walk_at "jd")) ?len rfl nd rfl (fun _ _ _ _ _ => ⟨by walk_at "loc", by walk_at "loc"⟩) (by first | kernel_rfl | rfl) (fun _ => rfl) ?body)) ?eqm) rfl (by decide +kernel) (by walk_at "ns")) (fun _ => rfl)))))) ?eq) (fun e => by cases e) (fun _ H1 h1 => ?_)
    case t1 => walk_at "jt"
    case len =>
      have := hv.len hc
      omega
    case body =>
      intro s h C cl fp y hy G2 u e3 pu
      cases pu
      walk_at "jd"
    case eqm => rw [List.map_map]; rfl
    case eq =>
      have : ((L.getD c []).map fun y => withinD (eN y) 0 ((L.length : Int) - 1)).all id = true := by
        rw [List.all_map]
        refine List.all_eq_true.mpr fun y hy => ?_
        have := hv.mem c hc y hy
        simp [withinD]
        omega
      rw [this]
      rfl
    refine' b_nil (b_if (p := false) h1 (JT.is (jt_w (jw_or (jt_cmp (jo_lt (jv_lenSet (ns := (L.getD c []).map fun n : Nat => (n : Int)) rfl T.len T.set (JD.is (by walk_at "jd") ?eqs) ?len rfl rfl (by walk_at "ns")) (by walk_at "jv")) rfl) (fun _ => jw_one_or (by walk_at "jt")))) ?eq) (fun e => by cases e) (fun _ H1 h1 => ?_))
    case eqs => rw [List.map_map]; rfl
    case len =>
      have := hv.len hc
      rw [List.length_map]; omega
    case eq =>
      have nd2 : ((L.getD c []).map fun n : Nat => (n : Int)).Nodup := (hv.nd c hc).map (fun n : Nat => (n : Int)) fun a b hab h => hab (by have h2 : (a : Int) = (b : Int) := h; omega)
      have := hv.self c hc
      rw [dedupI_nodup nd2, decide_eq_false this, List.length_map]
      simp
    exact b_nil (b_nil ⟨G2, _, _, rfl, h1, e.trans e3⟩)
  · rintro σ' G' H' ⟨o1, o2, rfl, hs, e⟩
    refine b_setFldF (f := "told") (P := kD (eLL L)) hs T.cl T.nT (fun G => by walk_at "jv") (by decide) (jf_lc (n := 4) (f0 := eNs) (xs := L) (f := eNs) (ji_list (by walk_at "jd")) (by omega) rfl nd rfl (fun _ _ _ _ _ => ⟨by walk_at "loc", by walk_at "loc"⟩) (by first | kernel_rfl | rfl) (fun _ => rfl) ?_) rfl (fun G2 H3 v h3 e3 hF => ?_)
    · intro s h C cl fp y hy G2 u e3 pu
      exact jf_listN T.list (by walk_at "jd") rfl (by decide +kernel) (by walk_at "ns")
    refine b_setFld (f := "size") (P := kI (L.length : Int)) h3 T.cl T.nS (fun G => by walk_at "jv") (Nat.le_of_ble_eq_true rfl) (JV.toPV (by walk_at "jv")) rfl (fun G3 H4 v4 h4 e4 pv4 => ?_)
    cases pv4
    obtain ⟨F, eF, fr, pv⟩ := hF
    refine b_nil (k G3 H4 _ F h4 (eF.trans e4) (fun a ha => Evl.fresh_back hs.st.h (fr a ha)) ⟨v, campA_put _ _, pv⟩)
end
end TP

set_option Elab.async false
set_option linter.all false
set_option maxRecDepth 100000
set_option maxHeartbeats 2000000
namespace TP
open PySem PySem.Spec PyProof.Rows L2
open Evl (Ex)
-- tactics of this text: what an expression is worth (jv jd jt jo jw), growth (ex), what remains (side); call, calld: what the text adds
local macro_rules | `(tactic| walk_at "ex") => `(tactic| first | exact Ex.refl _ | assumption | (refine' Ex.trans ?_ (by assumption); walk_at "ex"))
local macro_rules | `(tactic| walk_at "vis") => `(tactic| first
  | exact Or.inl rfl
  | exact Or.inr (Or.inl rfl)
  | exact Or.inr (Or.inr rfl))
local macro_rules | `(tactic| walk_at "loc") => `(tactic| first
  | exact Or.inl rfl
  | exact Or.inr rfl)
local macro_rules | `(tactic| walk_at "side") => `(tactic| first
  | assumption
  | omega
  | decide
  | exact rfl
  | (simp_all; done)
  | (simp_all; omega))
local macro_rules | `(tactic| walk_at "hu") => `(tactic| first
  | exact room65 (by assumption)
  | exact Room.units (by assumption))
local macro_rules | `(tactic| walk_at "dp") => `(tactic| first | assumption | (refine' Dx.mono ?_ (by assumption); walk_at "ex"))
local macro_rules | `(tactic| walk_at "var") => `(tactic| first
  | (apply jv_var 0; exact rfl; exact rfl; walk_at "vis"; decide; decide)
  | (apply jv_var 1; exact rfl; exact rfl; walk_at "vis"; decide; decide)
  | (apply jv_var 2; exact rfl; exact rfl; walk_at "vis"; decide; decide)
  | (apply jv_var 3; exact rfl; exact rfl; walk_at "vis"; decide; decide)
  | (apply jv_var 4; exact rfl; exact rfl; walk_at "vis"; decide; decide)
  | (apply jv_var 5; exact rfl; exact rfl; walk_at "vis"; decide; decide)
  | (apply jv_var 6; exact rfl; exact rfl; walk_at "vis"; decide; decide)
  | (apply jv_var 7; exact rfl; exact rfl; walk_at "vis"; decide; decide)
  | (apply jv_var 8; exact rfl; exact rfl; walk_at "vis"; decide; decide)
  | (apply jv_var 9; exact rfl; exact rfl; walk_at "vis"; decide; decide)
  | (apply jv_var 10; exact rfl; exact rfl; walk_at "vis"; decide; decide)
  | (apply jv_var 11; exact rfl; exact rfl; walk_at "vis"; decide; decide)
  | (apply jv_var 12; exact rfl; exact rfl; walk_at "vis"; decide; decide)
  | (apply jv_var 13; exact rfl; exact rfl; walk_at "vis"; decide; decide)
  | (apply jv_var 14; exact rfl; exact rfl; walk_at "vis"; decide; decide)
  | (apply jv_var 15; exact rfl; exact rfl; walk_at "vis"; decide; decide)
  | (apply jv_var 16; exact rfl; exact rfl; walk_at "vis"; decide; decide)
  | (apply jv_var 17; exact rfl; exact rfl; walk_at "vis"; decide; decide)
  | (apply jv_var 18; exact rfl; exact rfl; walk_at "vis"; decide; decide)
  | (apply jv_var 19; exact rfl; exact rfl; walk_at "vis"; decide; decide))
local macro_rules | `(tactic| walk_at "bm") => `(tactic| first
  | assumption)
local macro_rules | `(tactic| walk_at "call") => `(tactic| first
  | fail "call")
local macro_rules | `(tactic| walk_at "calld") => `(tactic| first
  | fail "calld")
local macro_rules | `(tactic| walk_at "kit") => `(tactic| first
  | assumption
  | exact kit_ii
  | exact kit_ib
  | exact kit_bi
  | exact kit_bb
  | exact kit_li
  | exact kit_ll
  | exact kit_tt
  | exact kit_tl
  | exact kit_lt
  | exact kit_tb)
local macro_rules | `(tactic| walk_at "ns") => `(tactic| first
  | exact fun _ _ => rfl)
local macro_rules | `(tactic| walk_at "jv") => `(tactic| first
  | exact jv_int
  | exact jv_bl
  | exact jv_non
  | exact jv_str
  | walk_at "var"
  | (apply jv_add; walk_at "jv"; walk_at "jv")
  | (apply jv_sub; walk_at "jv"; walk_at "jv")
  | (apply jv_neg; walk_at "jv")
  | (apply jv_mul; walk_at "jv"; walk_at "jv"; walk_at "mulok")
  | (apply jv_fdiv; walk_at "jv"; walk_at "jv"; walk_at "divok")
  | (apply jv_mod; walk_at "jv"; walk_at "jv"; walk_at "side")
  | (apply jv_band; walk_at "jv"; walk_at "jv")
  | (apply jv_cmp; walk_at "jo"; (first | exact rfl | exact nomark _))
  | (apply jv_chain op_le op_le; walk_at "jv"; walk_at "jv"; walk_at "jv"; with_unfolding_all rfl)
  | (apply jv_chain op_le op_lt; walk_at "jv"; walk_at "jv"; walk_at "jv"; with_unfolding_all rfl)
  | (apply jv_and; walk_at "jv"; intro hand; walk_at "jv")
  | (apply jv_or; walk_at "jv"; intro hor; walk_at "jv")
  | (apply jv_not; walk_at "jv")
  | (apply jv_one; walk_at "jv")
  | (apply jv_lenM; walk_at "bm"; walk_at "jd"; exact rfl; walk_at "ns")
  | (apply jv_len; walk_at "bm"; walk_at "jd"; exact rfl; walk_at "ns")
  | (apply jv_all; exact rfl; walk_at "bm"; walk_at "jd"; exact rfl; decide +kernel; walk_at "ns")
  | (apply jv_any; exact rfl; walk_at "bm"; walk_at "jd"; exact rfl; decide +kernel; walk_at "ns")
  | (apply jv_lenT; walk_at "bm"; walk_at "jd"; exact rfl; walk_at "ns")
  | walk_at "call"
  | (apply jv_isi; (first | exact boot_tint | exact boot_tbool | exact boot_tlist | exact boot_ttuple); walk_at "bm"; walk_at "bm"; walk_at "jd"; walk_at "kit"; exact rfl; exact rfl; exact boot_isi; walk_at "ns"; decide; decide)
  | (apply jv_lenSet; exact rfl; walk_at "bm"; walk_at "bm"; walk_at "jd"; walk_at "side"; exact rfl; exact rfl; walk_at "ns")
  | (apply jv_ifE; walk_at "jt"; intro hif; walk_at "jv"; intro hif; walk_at "jv")
  | (apply JD.toI; walk_at "jx")
  | (apply JD.toB; walk_at "jx")
  | (apply JD.toS; walk_at "jx"))
local macro_rules | `(tactic| walk_at "mulok") => `(tactic| first
  | exact Or.inr ⟨by decide, by decide⟩
  | exact Or.inl ⟨by decide, by decide⟩
  | exact Or.inl ⟨by omega, by omega⟩
  | exact Or.inr ⟨by omega, by omega⟩)
local macro_rules | `(tactic| walk_at "divok") => `(tactic| first
  | exact ⟨by decide, by decide⟩
  | exact ⟨by omega, by omega⟩)
local macro_rules | `(tactic| walk_at "jx") => `(tactic| first
  | (apply jd_ixN; walk_at "jd"; walk_at "jv"; exact fun _ _ => rfl; walk_at "side")
  | (apply jd_ixNs; walk_at "jd"; walk_at "jv"; exact fun _ _ => rfl; walk_at "side")
  | (apply jd_ixP; walk_at "jd"; walk_at "jv"; exact fun _ _ => rfl; walk_at "side")
  | (apply jd_ixPs; walk_at "jd"; walk_at "jv"; exact fun _ _ => rfl; walk_at "side")
  | (apply jd_ixI; walk_at "jd"; walk_at "jv"; exact fun _ _ => rfl; walk_at "side")
  | (apply jd_ixP1; walk_at "jd")
  | (apply jd_ixP2; walk_at "jd")
  | walk_at "calld")
local macro_rules | `(tactic| walk_at "jd") => `(tactic| first
  | (apply JV.toD; walk_at "var"; walk_at "dp")
  | walk_at "jx"
  | (apply jd_list; walk_at "jad"; exact Nat.le_of_ble_eq_true rfl)
  | (apply jd_tuple; walk_at "jad"; exact Nat.le_of_ble_eq_true rfl)
  | (apply jd_listOf; walk_at "bm"; walk_at "jd"; exact rfl; exact boot_tlist; walk_at "ns")
  | (apply JV.toD (v := V.int _); walk_at "jv"; exact Dx.int _)
  | (apply JV.toD (v := V.bl _); walk_at "jv"; exact Dx.bl _)
  | (apply JV.toD (v := V.str _); walk_at "jv"; exact Dx.str _)
  | (apply jd_ifE; walk_at "jt"; intro hif; walk_at "jd"; intro hif; walk_at "jd"))
local macro_rules | `(tactic| walk_at "jad") => `(tactic| first
  | exact jad_nil
  | (apply jad_cons; walk_at "jd"; walk_at "jad"; walk_at "ns"))
local macro_rules | `(tactic| walk_at "jo") => `(tactic| first
  | (apply jo_isN; walk_at "jv")
  | (apply jo_notN; walk_at "jv")
  | (apply jo_eqI; walk_at "jv"; walk_at "jv")
  | (apply jo_neI; walk_at "jv"; walk_at "jv")
  | (apply jo_lt; walk_at "jv"; walk_at "jv")
  | (apply jo_le; walk_at "jv"; walk_at "jv")
  | (apply jo_gt; walk_at "jv"; walk_at "jv")
  | (apply jo_ge; walk_at "jv"; walk_at "jv")
  | (apply jo_inN; walk_at "hu"; walk_at "jv"; walk_at "jd")
  | (apply jo_niN; walk_at "hu"; walk_at "jv"; walk_at "jd")
  | (apply jo_eqD; walk_at "hu"; walk_at "jd"; walk_at "jd"; walk_at "shp"; walk_at "shp")
  | (apply jo_neD; walk_at "hu"; walk_at "jd"; walk_at "jd"; walk_at "shp"; walk_at "shp"))
local macro_rules | `(tactic| walk_at "shp") => `(tactic| first
  | assumption
  | exact Shp.shaped eLL _
  | exact Shp.shaped ePs _
  | exact Shp.shaped eNs _
  | exact Shp.shaped ePss _
  | exact Shp.shaped eP _
  | exact Shp.shaped eN _
  | exact Shp.shaped eI _
  | decide)
local macro_rules | `(tactic| walk_at "jw") => `(tactic| first
  | (apply jw_one_and; walk_at "jt")
  | (apply jw_one_or; walk_at "jt")
  | (apply jw_and; walk_at "jt"; intro hand; walk_at "jw")
  | (apply jw_or; walk_at "jt"; intro hor; walk_at "jw"))
local macro_rules | `(tactic| walk_at "jt") => `(tactic| first
  | (apply jt_w; walk_at "jw")
  | (apply jt_cmp; walk_at "jo"; (first | exact rfl | exact nomark _))
  | (apply jt_not; walk_at "jt")
  | (apply jt_val; walk_at "jv"; exact fun _ => rfl)
  | (apply jt_chain op_le op_le; walk_at "jv"; walk_at "jv"; walk_at "jv"; with_unfolding_all rfl))
local macro_rules | `(tactic| walk_at "camp") => `(tactic| first | assumption | (refine' CampAt.mono ?_ (by assumption); walk_at "ex"))
local macro_rules | `(tactic| walk_at "calld") => `(tactic| first
  | (apply jd_told; assumption; walk_at "var"; walk_at "camp"; exact rfl)
  | walk_at "calld2")
local macro_rules | `(tactic| walk_at "calld2") => `(tactic| first
  | fail "calld2")
local macro_rules | `(tactic| walk_at "room") => `(tactic| first
  | assumption
  | exact Room.mono (by assumption) (by decide))
local macro_rules | `(tactic| walk_at "bm") => `(tactic| first
  | assumption
  | exact Tx.len (by assumption)
  | exact Tx.range (by assumption)
  | exact Tx.list (by assumption)
  | exact Tx.all (by assumption)
  | exact Tx.any (by assumption)
  | exact Tx.isi (by assumption)
  | exact Tx.int (by assumption)
  | exact Tx.bool (by assumption)
  | exact Tx.set (by assumption)
  | exact Tx.tup (by assumption))
local macro_rules | `(tactic| walk_at "call") => `(tactic| first
  | (apply jv_size; assumption; walk_at "var"; walk_at "camp"; exact rfl)
  | (apply jv_index; walk_at "hu"; walk_at "jd"; walk_at "jv"; walk_at "side"; walk_at "ns"; exact rfl; exact rfl; exact rfl)
  | (apply jv_would; assumption; assumption; walk_at "room"; walk_at "var"; walk_at "camp"; walk_at "jv"; walk_at "jv"; walk_at "side"; walk_at "side"; walk_at "ns"; walk_at "ns"; exact rfl; exact rfl)
  | walk_at "call2")
local macro_rules | `(tactic| walk_at "call2") => `(tactic| first
  | fail "call2")
local macro_rules | `(tactic| walk_at "call2") => `(tactic| first
  | (apply jv_glob; exact rfl; assumption; exact ⟨_, rfl⟩; decide)
  | (apply jv_within; assumption; walk_at "room"; walk_at "jd"; walk_at "jv"; walk_at "jv"; exact rfl; walk_at "ns"; walk_at "ns"; walk_at "ns"; exact rfl)
  | (apply jv_rather; assumption; assumption; walk_at "room"; walk_at "var"; walk_at "camp"; walk_at "jv"; walk_at "jv"; walk_at "jv"; walk_at "side"; walk_at "side"; walk_at "ns"; walk_at "ns"; walk_at "ns"; exact rfl; exact rfl))
local macro_rules | `(tactic| walk_at "calld2") => `(tactic| first
  | (apply jd_open; assumption; walk_at "room"; walk_at "var"; walk_at "camp"; walk_at "side"; exact rfl; walk_at "ns"; exact rfl))
/-! ### pure facts -/
def matesStep (m : List Nat) (p : Nat × Nat) : List Nat := (m.set p.1 p.2).set p.2 p.1
def matesOf (n : Nat) (ps : List (Nat × Nat)) : List Nat := ps.foldl matesStep (List.range n)
def blocks (L : List (List Nat)) (m : List Nat) (p : Nat × Nat) : Bool := rather L p.1 p.2 (m.getD p.1 0) && rather L p.2 p.1 (m.getD p.2 0)
def breakingL (L : List (List Nat)) (ps : List (Nat × Nat)) : List (Nat × Nat) := (openPairs L).filter (blocks L (matesOf L.length ps))
theorem matesStep_len (m : List Nat) (p : Nat × Nat) : (matesStep m p).length = m.length := by simp [matesStep]
theorem foldl_mates_len : ∀ (ps : List (Nat × Nat)) (m : List Nat), (ps.foldl matesStep m).length = m.length
  | [], _ => rfl
  | p :: ps, m => by rw [List.foldl_cons, foldl_mates_len ps, matesStep_len]
theorem matesOf_len (n : Nat) (ps : List (Nat × Nat)) : (matesOf n ps).length = n := by unfold matesOf; rw [foldl_mates_len, List.length_range]
theorem would_symm (L : List (List Nat)) (a b : Nat) : would L a b = would L b a := by unfold would; exact Bool.and_comm _ _
theorem would_iff {L : List (List Nat)} {a b : Nat} : would L a b = true ↔ b ∈ L.getD a [] ∧ a ∈ L.getD b [] := by unfold would; simp only [Bool.and_eq_true, decide_eq_true_eq]
/-- each has itself or one with whom it would share -/
def OkM (L : List (List Nat)) (m : List Nat) : Prop := m.length = L.length ∧ ∀ i, i < L.length → m.getD i 0 < L.length ∧ (m.getD i 0 = i ∨ would L i (m.getD i 0) = true)
theorem getD_set (m : List Nat) (i j x z : Nat) : (m.set i x).getD j z = if i = j ∧ i < m.length then x else m.getD j z := by
  rw [List.getD_eq_getElem?_getD, List.getElem?_set, List.getD_eq_getElem?_getD]
  by_cases h : i = j
  · subst h
    by_cases h2 : i < m.length <;> simp [h2]
  · simp [h]
theorem OkM.step {L : List (List Nat)} {m : List Nat} (h : OkM L m) {p : Nat × Nat} (h1 : p.1 < L.length) (h2 : p.2 < L.length) (hw : would L p.1 p.2 = true) : OkM L (matesStep m p) := by
  refine ⟨(matesStep_len m p).trans h.1, fun i hi => ?_⟩
  unfold matesStep
  rw [getD_set, getD_set]
  by_cases e2 : p.2 = i ∧ p.2 < (m.set p.1 p.2).length
  · rw [if_pos e2]
    refine ⟨h1, .inr ?_⟩
    rw [← e2.1, would_symm]
    exact hw
  · rw [if_neg e2]
    by_cases e1 : p.1 = i ∧ p.1 < m.length
    · rw [if_pos e1]
      refine ⟨h2, .inr ?_⟩
      rw [← e1.1]
      exact hw
    · rw [if_neg e1]
      exact h.2 i hi
theorem okM_range (L : List (List Nat)) : OkM L (List.range L.length) := ⟨List.length_range, fun i hi => by
  have e : (List.range L.length).getD i 0 = i := by simp [List.getD_eq_getElem?_getD, hi]
  rw [e]
  exact ⟨hi, .inl rfl⟩⟩
/-- pairs of two who would share -/
def OkP (L : List (List Nat)) (ps : List (Nat × Nat)) : Prop := ∀ p ∈ ps, p.1 < L.length ∧ p.2 < L.length ∧ would L p.1 p.2 = true
theorem okM_fold {L : List (List Nat)} : ∀ {ps : List (Nat × Nat)} {m : List Nat}, OkP L ps → OkM L m → OkM L (ps.foldl matesStep m)
  | [], _, _, h => h
  | p :: ps, m, hp, h => by
    obtain ⟨h1, h2, h3⟩ := hp p List.mem_cons_self
    exact okM_fold (ps := ps) (fun q hq => hp q (List.mem_cons_of_mem _ hq)) (h.step h1 h2 h3)
theorem okM_mates {L : List (List Nat)} {ps : List (Nat × Nat)} (h : OkP L ps) : OkM L (matesOf L.length ps) := okM_fold h (okM_range L)
theorem mem_open {L : List (List Nat)} {p : Nat × Nat} : p ∈ openPairs L ↔ p.1 < p.2 ∧ p.2 < L.length ∧ would L p.1 p.2 = true := by
  unfold openPairs openRow
  simp only [List.mem_flatMap, List.mem_range, List.mem_map, List.mem_filter]
  constructor
  · rintro ⟨a, ha, k, ⟨hk, hw⟩, rfl⟩
    exact ⟨by show a < a + 1 + k; omega, by show a + 1 + k < _; omega, hw⟩
  · rintro ⟨h1, h2, h3⟩
    refine ⟨p.1, by omega, p.2 - (p.1 + 1), ⟨by omega, ?_⟩, ?_⟩
    · rw [show p.1 + 1 + (p.2 - (p.1 + 1)) = p.2 by omega]; exact h3
    · rw [show p.1 + 1 + (p.2 - (p.1 + 1)) = p.2 by omega]
theorem rather_ok {L : List (List Nat)} {m : List Nat} (h : OkM L m) {a b : Nat} (ha : a < L.length) (hw : would L a b = true) : ¬ b = m.getD a 0 → ¬ b = a → ¬ m.getD a 0 = a → b ∈ L.getD a [] ∧ m.getD a 0 ∈ L.getD a [] := fun _ _ h3 =>
  ⟨(would_iff.mp hw).1, ((h.2 a ha).2.elim (fun e => absurd e h3) fun w => (would_iff.mp w).1)⟩
theorem Dx.pair {G : Hp} {v : V} {p : Nat × Nat} (h : Dx G v (eP p)) : ∃ t, v = .ref t ∧ G t = some (.tup [.int (p.1 : Int), .int (p.2 : Int)]) := by
  cases h with
  | tup h1 h2 =>
    cases h2 with
    | cons a b =>
      cases b with
      | cons c d =>
        cases d
        cases a
        cases c
        exact ⟨_, rfl, h1⟩
section
variable {P : Program} {w : World} {K : PySem.W.Frag} {mg : Str → Option Value} {base : Heap} {C : Addr}
abbrev spLists (K : PySem.W.Frag) (C : Addr) : Sp := spOfF (fun i : List (List Nat) => i.length ≤ 6) (fun i => [kCamp K C i]) (fun i => kD (eLL i))
theorem ok_lists {f : Addr} {fd : FuncData} (F : Fun K "lists" "Camp.lists" s_Camp_lists f fd) (T : Tx K mg C) : FnOk P w K mg base CX0 1 f fd ["self"] (spLists K C) := by
  refine fun_okF F sc_Camp_lists (fun _ => rfl) ?_
  rintro cdv A outer s H vs Q E L G hr hL al h k
  obtain ⟨_, rfl, ⟨p, rfl, hc⟩⟩ := al.one
  try dsimp only at hL hc k ⊢
  refine b_retF h (jf_lc (n := 1) (f0 := eNs) (xs := L) (f := eNs) (ji_list (by walk_at "jd")) (by omega) rfl sc_Camp_lists.nd rfl (fun _ _ _ _ _ => ⟨by walk_at "loc", by walk_at "loc"⟩) (by first | kernel_rfl | rfl) (fun _ => rfl) ?_) k
  intro s h C cl fp y hy G2 u e3 pu
  exact jf_listN T.list (by walk_at "jd") rfl (by decide +kernel) (by walk_at "ns")
abbrev spMates (K : PySem.W.Frag) (C : Addr) : Sp := spOfN (fun i : List (List Nat) × List (Nat × Nat) => i.1.length ≤ 6 ∧ ∀ p ∈ i.2, p.1 < i.1.length ∧ p.2 < i.1.length) (fun i => [kCamp K C i.1, kD (ePs i.2)]) (fun i => (matesOf i.1.length i.2).map eN)
def flatP (ps : List (Nat × Nat)) : List Nat := ps.flatMap fun p => [p.1, p.2]
abbrev spCheck (K : PySem.W.Frag) (C : Addr) : Sp := spOf (fun i : List (List Nat) × List (Nat × Nat) => i.1.length ≤ 6 ∧ OkP i.1 i.2 ∧ (flatP i.2).Nodup ∧ i.2.length ≤ 1000) (fun i => [kCamp K C i.1, kD (ePs i.2)]) (fun i => kV .non)
theorem flatP_len : ∀ ps : List (Nat × Nat), (flatP ps).length = 2 * ps.length
  | [] => rfl
  | p :: ps => by
    have ih := flatP_len ps
    have e : flatP (p :: ps) = p.1 :: p.2 :: flatP ps := rfl
    rw [e, List.length_cons, List.length_cons, List.length_cons, ih]
    omega
end
section
variable {X : Cx} {σ : L2.St} {e o a b c : Expr} {es : List Expr} {G : Hp} {pos : Pos} {x : Str} {C p : Addr} {L : List (List Nat)} {ps : List (Nat × Nat)}
theorem jn_mates {ap : Pos} (M : Df X.prog X.w X.K X.mg X.base "mates_of" 1 (spMates X.K C)) (hr : Room 1 X.A) (ho : JV X σ o G (.ref p)) (hc : CampAt X.K C G p L) (ha : JD X σ a G (ePs ps)) (hL : L.length ≤ 6) (hp : ∀ p ∈ ps, p.1 < L.length ∧ p.2 < L.length) (hg : Gl X "mates_of") (no : NoStar o) (na : NoStar a)
    (hpl : (backTo pos (starEach [a] X.env)).any (·.1) = false) : JN X σ (.Call (.Name "mates_of" ap) [o, a] [] pos) G ((matesOf L.length ps).map eN) :=
  jn_call M hr hg (L, ps) ⟨hL, hp⟩ (jal_cons (ho.toP ⟨p, rfl, hc⟩) mo_Camp (fun _ e => jal_cons (ha.mono e).toP mo_D (fun _ _ => jal_nil) na) no) no (by decide) hpl
theorem jv_check {ap : Pos} (M : Df X.prog X.w X.K X.mg X.base "check_pairs" 2 (spCheck X.K C)) (hr : Room 2 X.A) (ho : JV X σ o G (.ref p)) (hc : CampAt X.K C G p L) (ha : JD X σ a G (ePs ps)) (hL : L.length ≤ 6) (hp : OkP L ps) (hnd : (flatP ps).Nodup) (hlen : ps.length ≤ 1000) (hg : Gl X "check_pairs") (no : NoStar o) (na : NoStar a)
    (hpl : (backTo pos (starEach [a] X.env)).any (·.1) = false) : JV X σ (.Call (.Name "check_pairs" ap) [o, a] [] pos) G .non :=
  (jp_call M hr hg (L, ps) ⟨hL, hp, hnd, hlen⟩ (jal_cons (ho.toP ⟨p, rfl, hc⟩) mo_Camp (fun _ e => jal_cons (ha.mono e).toP mo_D (fun _ _ => jal_nil) na) no) no (by decide) hpl).toV
end
end TP

set_option Elab.async false
set_option linter.all false
set_option maxRecDepth 100000
set_option maxHeartbeats 2000000
namespace TP
open PySem PySem.Spec PyProof.Rows L2
open Evl (Ex)
-- tactics of this text: what an expression is worth (jv jd jt jo jw), growth (ex), what remains (side); call, calld: what the text adds
local macro_rules | `(tactic| walk_at "ex") => `(tactic| first | exact Ex.refl _ | assumption | (refine' Ex.trans ?_ (by assumption); walk_at "ex"))
local macro_rules | `(tactic| walk_at "vis") => `(tactic| first
  | exact Or.inl rfl
  | exact Or.inr (Or.inl rfl)
  | exact Or.inr (Or.inr rfl))
local macro_rules | `(tactic| walk_at "loc") => `(tactic| first
  | exact Or.inl rfl
  | exact Or.inr rfl)
local macro_rules | `(tactic| walk_at "side") => `(tactic| first
  | assumption
  | omega
  | decide
  | exact rfl
  | (simp_all; done)
  | (simp_all; omega))
local macro_rules | `(tactic| walk_at "hu") => `(tactic| first
  | exact room65 (by assumption)
  | exact Room.units (by assumption))
local macro_rules | `(tactic| walk_at "dp") => `(tactic| first | assumption | (refine' Dx.mono ?_ (by assumption); walk_at "ex"))
local macro_rules | `(tactic| walk_at "var") => `(tactic| first
  | (apply jv_var 0; exact rfl; exact rfl; walk_at "vis"; decide; decide)
  | (apply jv_var 1; exact rfl; exact rfl; walk_at "vis"; decide; decide)
  | (apply jv_var 2; exact rfl; exact rfl; walk_at "vis"; decide; decide)
  | (apply jv_var 3; exact rfl; exact rfl; walk_at "vis"; decide; decide)
  | (apply jv_var 4; exact rfl; exact rfl; walk_at "vis"; decide; decide)
  | (apply jv_var 5; exact rfl; exact rfl; walk_at "vis"; decide; decide)
  | (apply jv_var 6; exact rfl; exact rfl; walk_at "vis"; decide; decide)
  | (apply jv_var 7; exact rfl; exact rfl; walk_at "vis"; decide; decide)
  | (apply jv_var 8; exact rfl; exact rfl; walk_at "vis"; decide; decide)
  | (apply jv_var 9; exact rfl; exact rfl; walk_at "vis"; decide; decide)
  | (apply jv_var 10; exact rfl; exact rfl; walk_at "vis"; decide; decide)
  | (apply jv_var 11; exact rfl; exact rfl; walk_at "vis"; decide; decide)
  | (apply jv_var 12; exact rfl; exact rfl; walk_at "vis"; decide; decide)
  | (apply jv_var 13; exact rfl; exact rfl; walk_at "vis"; decide; decide)
  | (apply jv_var 14; exact rfl; exact rfl; walk_at "vis"; decide; decide)
  | (apply jv_var 15; exact rfl; exact rfl; walk_at "vis"; decide; decide)
  | (apply jv_var 16; exact rfl; exact rfl; walk_at "vis"; decide; decide)
  | (apply jv_var 17; exact rfl; exact rfl; walk_at "vis"; decide; decide)
  | (apply jv_var 18; exact rfl; exact rfl; walk_at "vis"; decide; decide)
  | (apply jv_var 19; exact rfl; exact rfl; walk_at "vis"; decide; decide))
local macro_rules | `(tactic| walk_at "bm") => `(tactic| first
  | assumption)
local macro_rules | `(tactic| walk_at "call") => `(tactic| first
  | fail "call")
local macro_rules | `(tactic| walk_at "calld") => `(tactic| first
  | fail "calld")
local macro_rules | `(tactic| walk_at "kit") => `(tactic| first
  | assumption
  | exact kit_ii
  | exact kit_ib
  | exact kit_bi
  | exact kit_bb
  | exact kit_li
  | exact kit_ll
  | exact kit_tt
  | exact kit_tl
  | exact kit_lt
  | exact kit_tb)
local macro_rules | `(tactic| walk_at "ns") => `(tactic| first
  | exact fun _ _ => rfl)
local macro_rules | `(tactic| walk_at "jv") => `(tactic| first
  | exact jv_int
  | exact jv_bl
  | exact jv_non
  | exact jv_str
  | walk_at "var"
  | (apply jv_add; walk_at "jv"; walk_at "jv")
  | (apply jv_sub; walk_at "jv"; walk_at "jv")
  | (apply jv_neg; walk_at "jv")
  | (apply jv_mul; walk_at "jv"; walk_at "jv"; walk_at "mulok")
  | (apply jv_fdiv; walk_at "jv"; walk_at "jv"; walk_at "divok")
  | (apply jv_mod; walk_at "jv"; walk_at "jv"; walk_at "side")
  | (apply jv_band; walk_at "jv"; walk_at "jv")
  | (apply jv_cmp; walk_at "jo"; (first | exact rfl | exact nomark _))
  | (apply jv_chain op_le op_le; walk_at "jv"; walk_at "jv"; walk_at "jv"; with_unfolding_all rfl)
  | (apply jv_chain op_le op_lt; walk_at "jv"; walk_at "jv"; walk_at "jv"; with_unfolding_all rfl)
  | (apply jv_and; walk_at "jv"; intro hand; walk_at "jv")
  | (apply jv_or; walk_at "jv"; intro hor; walk_at "jv")
  | (apply jv_not; walk_at "jv")
  | (apply jv_one; walk_at "jv")
  | (apply jv_lenM; walk_at "bm"; walk_at "jd"; exact rfl; walk_at "ns")
  | (apply jv_len; walk_at "bm"; walk_at "jd"; exact rfl; walk_at "ns")
  | (apply jv_all; exact rfl; walk_at "bm"; walk_at "jd"; exact rfl; decide +kernel; walk_at "ns")
  | (apply jv_any; exact rfl; walk_at "bm"; walk_at "jd"; exact rfl; decide +kernel; walk_at "ns")
  | (apply jv_lenT; walk_at "bm"; walk_at "jd"; exact rfl; walk_at "ns")
  | walk_at "call"
  | (apply jv_isi; (first | exact boot_tint | exact boot_tbool | exact boot_tlist | exact boot_ttuple); walk_at "bm"; walk_at "bm"; walk_at "jd"; walk_at "kit"; exact rfl; exact rfl; exact boot_isi; walk_at "ns"; decide; decide)
  | (apply jv_lenSet; exact rfl; walk_at "bm"; walk_at "bm"; walk_at "jd"; walk_at "side"; exact rfl; exact rfl; walk_at "ns")
  | (apply jv_ifE; walk_at "jt"; intro hif; walk_at "jv"; intro hif; walk_at "jv")
  | (apply JD.toI; walk_at "jx")
  | (apply JD.toB; walk_at "jx")
  | (apply JD.toS; walk_at "jx"))
local macro_rules | `(tactic| walk_at "mulok") => `(tactic| first
  | exact Or.inr ⟨by decide, by decide⟩
  | exact Or.inl ⟨by decide, by decide⟩
  | exact Or.inl ⟨by omega, by omega⟩
  | exact Or.inr ⟨by omega, by omega⟩)
local macro_rules | `(tactic| walk_at "divok") => `(tactic| first
  | exact ⟨by decide, by decide⟩
  | exact ⟨by omega, by omega⟩)
local macro_rules | `(tactic| walk_at "jx") => `(tactic| first
  | (apply jd_ixN; walk_at "jd"; walk_at "jv"; exact fun _ _ => rfl; walk_at "side")
  | (apply jd_ixNs; walk_at "jd"; walk_at "jv"; exact fun _ _ => rfl; walk_at "side")
  | (apply jd_ixP; walk_at "jd"; walk_at "jv"; exact fun _ _ => rfl; walk_at "side")
  | (apply jd_ixPs; walk_at "jd"; walk_at "jv"; exact fun _ _ => rfl; walk_at "side")
  | (apply jd_ixI; walk_at "jd"; walk_at "jv"; exact fun _ _ => rfl; walk_at "side")
  | (apply jd_ixP1; walk_at "jd")
  | (apply jd_ixP2; walk_at "jd")
  | walk_at "calld")
local macro_rules | `(tactic| walk_at "jd") => `(tactic| first
  | (apply JV.toD; walk_at "var"; walk_at "dp")
  | walk_at "jx"
  | (apply jd_list; walk_at "jad"; exact Nat.le_of_ble_eq_true rfl)
  | (apply jd_tuple; walk_at "jad"; exact Nat.le_of_ble_eq_true rfl)
  | (apply jd_listOf; walk_at "bm"; walk_at "jd"; exact rfl; exact boot_tlist; walk_at "ns")
  | (apply JV.toD (v := V.int _); walk_at "jv"; exact Dx.int _)
  | (apply JV.toD (v := V.bl _); walk_at "jv"; exact Dx.bl _)
  | (apply JV.toD (v := V.str _); walk_at "jv"; exact Dx.str _)
  | (apply jd_ifE; walk_at "jt"; intro hif; walk_at "jd"; intro hif; walk_at "jd"))
local macro_rules | `(tactic| walk_at "jad") => `(tactic| first
  | exact jad_nil
  | (apply jad_cons; walk_at "jd"; walk_at "jad"; walk_at "ns"))
local macro_rules | `(tactic| walk_at "jo") => `(tactic| first
  | (apply jo_isN; walk_at "jv")
  | (apply jo_notN; walk_at "jv")
  | (apply jo_eqI; walk_at "jv"; walk_at "jv")
  | (apply jo_neI; walk_at "jv"; walk_at "jv")
  | (apply jo_lt; walk_at "jv"; walk_at "jv")
  | (apply jo_le; walk_at "jv"; walk_at "jv")
  | (apply jo_gt; walk_at "jv"; walk_at "jv")
  | (apply jo_ge; walk_at "jv"; walk_at "jv")
  | (apply jo_inN; walk_at "hu"; walk_at "jv"; walk_at "jd")
  | (apply jo_niN; walk_at "hu"; walk_at "jv"; walk_at "jd")
  | (apply jo_eqD; walk_at "hu"; walk_at "jd"; walk_at "jd"; walk_at "shp"; walk_at "shp")
  | (apply jo_neD; walk_at "hu"; walk_at "jd"; walk_at "jd"; walk_at "shp"; walk_at "shp"))
local macro_rules | `(tactic| walk_at "shp") => `(tactic| first
  | assumption
  | exact Shp.shaped eLL _
  | exact Shp.shaped ePs _
  | exact Shp.shaped eNs _
  | exact Shp.shaped ePss _
  | exact Shp.shaped eP _
  | exact Shp.shaped eN _
  | exact Shp.shaped eI _
  | decide)
local macro_rules | `(tactic| walk_at "jw") => `(tactic| first
  | (apply jw_one_and; walk_at "jt")
  | (apply jw_one_or; walk_at "jt")
  | (apply jw_and; walk_at "jt"; intro hand; walk_at "jw")
  | (apply jw_or; walk_at "jt"; intro hor; walk_at "jw"))
local macro_rules | `(tactic| walk_at "jt") => `(tactic| first
  | (apply jt_w; walk_at "jw")
  | (apply jt_cmp; walk_at "jo"; (first | exact rfl | exact nomark _))
  | (apply jt_not; walk_at "jt")
  | (apply jt_val; walk_at "jv"; exact fun _ => rfl)
  | (apply jt_chain op_le op_le; walk_at "jv"; walk_at "jv"; walk_at "jv"; with_unfolding_all rfl))
local macro_rules | `(tactic| walk_at "camp") => `(tactic| first | assumption | (refine' CampAt.mono ?_ (by assumption); walk_at "ex"))
local macro_rules | `(tactic| walk_at "calld") => `(tactic| first
  | (apply jd_told; assumption; walk_at "var"; walk_at "camp"; exact rfl)
  | walk_at "calld2")
local macro_rules | `(tactic| walk_at "calld2") => `(tactic| first
  | fail "calld2")
local macro_rules | `(tactic| walk_at "room") => `(tactic| first
  | assumption
  | exact Room.mono (by assumption) (by decide))
local macro_rules | `(tactic| walk_at "bm") => `(tactic| first
  | assumption
  | exact Tx.len (by assumption)
  | exact Tx.range (by assumption)
  | exact Tx.list (by assumption)
  | exact Tx.all (by assumption)
  | exact Tx.any (by assumption)
  | exact Tx.isi (by assumption)
  | exact Tx.int (by assumption)
  | exact Tx.bool (by assumption)
  | exact Tx.set (by assumption)
  | exact Tx.tup (by assumption))
local macro_rules | `(tactic| walk_at "call") => `(tactic| first
  | (apply jv_size; assumption; walk_at "var"; walk_at "camp"; exact rfl)
  | (apply jv_index; walk_at "hu"; walk_at "jd"; walk_at "jv"; walk_at "side"; walk_at "ns"; exact rfl; exact rfl; exact rfl)
  | (apply jv_would; assumption; assumption; walk_at "room"; walk_at "var"; walk_at "camp"; walk_at "jv"; walk_at "jv"; walk_at "side"; walk_at "side"; walk_at "ns"; walk_at "ns"; exact rfl; exact rfl)
  | walk_at "call2")
local macro_rules | `(tactic| walk_at "call2") => `(tactic| first
  | fail "call2")
local macro_rules | `(tactic| walk_at "call2") => `(tactic| first
  | (apply jv_rather; assumption; assumption; walk_at "room"; walk_at "var"; walk_at "camp"; walk_at "jv"; walk_at "jv"; walk_at "jv"; walk_at "side"; walk_at "side"; walk_at "ns"; walk_at "ns"; walk_at "ns"; exact rfl; exact rfl)
  | (apply jv_check; assumption; walk_at "room"; walk_at "var"; walk_at "camp"; walk_at "jd"; walk_at "side"; assumption; assumption; assumption; exact rfl; walk_at "ns"; walk_at "ns"; exact rfl))
local macro_rules | `(tactic| walk_at "calld2") => `(tactic| first
  | (apply jd_open; assumption; walk_at "room"; walk_at "var"; walk_at "camp"; walk_at "side"; exact rfl; walk_at "ns"; exact rfl))
section
variable {P : Program} {w : World} {K : PySem.W.Frag} {mg : Str → Option Value} {base : Heap} {C : Addr}
abbrev spBreaking (K : PySem.W.Frag) (C : Addr) : Sp := spOfN (fun i : List (List Nat) × List (Nat × Nat) => i.1.length ≤ 6 ∧ OkP i.1 i.2 ∧ (flatP i.2).Nodup ∧ i.2.length ≤ 1000) (fun i => [kCamp K C i.1, kD (ePs i.2)]) (fun i => (breakingL i.1 i.2).map eP)
end
section
variable {X : Cx} {σ : L2.St} {e o a b c : Expr} {es : List Expr} {G : Hp} {pos : Pos} {x : Str} {C p : Addr} {L : List (List Nat)} {ps : List (Nat × Nat)}
theorem jn_breaking {ap : Pos} (M : Df X.prog X.w X.K X.mg X.base "breaking" 3 (spBreaking X.K C)) (hr : Room 3 X.A) (ho : JV X σ o G (.ref p)) (hc : CampAt X.K C G p L) (ha : JD X σ a G (ePs ps)) (hL : L.length ≤ 6) (hp : OkP L ps) (hnd : (flatP ps).Nodup) (hlen : ps.length ≤ 1000) (hg : Gl X "breaking") (no : NoStar o) (na : NoStar a)
    (hpl : (backTo pos (starEach [a] X.env)).any (·.1) = false) : JN X σ (.Call (.Name "breaking" ap) [o, a] [] pos) G ((breakingL L ps).map eP) :=
  jn_call M hr hg (L, ps) ⟨hL, hp, hnd, hlen⟩ (jal_cons (ho.toP ⟨p, rfl, hc⟩) mo_Camp (fun _ e => jal_cons (ha.mono e).toP mo_D (fun _ _ => jal_nil) na) no) no (by decide) hpl
theorem jf_lists {ap : Pos} {pl : Sem Bool} (T : Tx X.K X.mg C) (M : Mt X.prog X.w X.K X.mg X.base C "lists" 1 (spLists X.K C)) (hr : Room 1 X.A) (ho : JV X σ o G (.ref p)) (hc : CampAt X.K C G p L) (hL : L.length ≤ 6)
    (ht : eval (.Call (.Attribute o "lists" ap) [] [] pos) X.env = (do
      let ov ← eval o X.env
      standAt ap.atName
      let (f, first) ← holding [ov] (getMethod ov "lists" pl)
      callWith pos f first (backTo pos (starEach [] X.env)) (backToKw pos (keywordEach [] X.env)))) : JPF X σ (.Call (.Attribute o "lists" ap) [] [] pos) G (kD (eLL L)) := by
  obtain ⟨t, h1, h2⟩ := hc
  exact jf_meth0 M T.cl ho h1 (campA_no _ _ (by decide +kernel) (by decide +kernel)) hr L hL (P0 := kCamp X.K C L) rfl ⟨p, rfl, t, h1, h2⟩ ht
theorem jf_camp {ap : Pos} (T : Tx X.K X.mg C) (M : Mkr X.prog X.w X.K X.mg X.base C 2 (spCamp C)) (hr : Room 3 X.A) (ha : JD X σ a G (eLL L)) (hv : ValidL L) (hg : Gl X "Camp") (na : NoStar a)
    (hpl : (backTo pos (starEach [] X.env)).any (·.1) = false) : JPF X σ (.Call (.Name "Camp" ap) [a] [] pos) G (kCamp X.K C L) := ⟨fun H eh Q q =>
  (jp_make M hr hg T.mgC L hv (jal_cons ha.toP mo_D (fun _ _ => jal_nil) na) na (by decide) hpl (fun F F' fs e ⟨t, h1, h2⟩ => ⟨t, h1, h2.mono e⟩)) H eh Q fun G' H' v F s eF fr ⟨xx, dx, fs, e1, e2, t, h1, h2⟩ => q G' H' v F s eF fr ⟨xx, e1, t, ⟨dx, fs, e2, h1⟩, h2⟩⟩
end
end TP

set_option Elab.async false
set_option linter.all false
set_option maxRecDepth 100000
set_option maxHeartbeats 2000000
namespace TP
open PySem PySem.Spec PyProof.Rows L2
open Evl (Ex)
-- tactics of this text: what an expression is worth (jv jd jt jo jw), growth (ex), what remains (side); call, calld: what the text adds
local macro_rules | `(tactic| walk_at "ex") => `(tactic| first | exact Ex.refl _ | assumption | (refine' Ex.trans ?_ (by assumption); walk_at "ex"))
local macro_rules | `(tactic| walk_at "vis") => `(tactic| first
  | exact Or.inl rfl
  | exact Or.inr (Or.inl rfl)
  | exact Or.inr (Or.inr rfl))
local macro_rules | `(tactic| walk_at "loc") => `(tactic| first
  | exact Or.inl rfl
  | exact Or.inr rfl)
local macro_rules | `(tactic| walk_at "side") => `(tactic| first
  | assumption
  | omega
  | decide
  | exact rfl
  | (simp_all; done)
  | (simp_all; omega))
local macro_rules | `(tactic| walk_at "hu") => `(tactic| first
  | exact room65 (by assumption)
  | exact Room.units (by assumption))
local macro_rules | `(tactic| walk_at "dp") => `(tactic| first | assumption | (refine' Dx.mono ?_ (by assumption); walk_at "ex"))
local macro_rules | `(tactic| walk_at "var") => `(tactic| first
  | (apply jv_var 0; exact rfl; exact rfl; walk_at "vis"; decide; decide)
  | (apply jv_var 1; exact rfl; exact rfl; walk_at "vis"; decide; decide)
  | (apply jv_var 2; exact rfl; exact rfl; walk_at "vis"; decide; decide)
  | (apply jv_var 3; exact rfl; exact rfl; walk_at "vis"; decide; decide)
  | (apply jv_var 4; exact rfl; exact rfl; walk_at "vis"; decide; decide)
  | (apply jv_var 5; exact rfl; exact rfl; walk_at "vis"; decide; decide)
  | (apply jv_var 6; exact rfl; exact rfl; walk_at "vis"; decide; decide)
  | (apply jv_var 7; exact rfl; exact rfl; walk_at "vis"; decide; decide)
  | (apply jv_var 8; exact rfl; exact rfl; walk_at "vis"; decide; decide)
  | (apply jv_var 9; exact rfl; exact rfl; walk_at "vis"; decide; decide)
  | (apply jv_var 10; exact rfl; exact rfl; walk_at "vis"; decide; decide)
  | (apply jv_var 11; exact rfl; exact rfl; walk_at "vis"; decide; decide)
  | (apply jv_var 12; exact rfl; exact rfl; walk_at "vis"; decide; decide)
  | (apply jv_var 13; exact rfl; exact rfl; walk_at "vis"; decide; decide)
  | (apply jv_var 14; exact rfl; exact rfl; walk_at "vis"; decide; decide)
  | (apply jv_var 15; exact rfl; exact rfl; walk_at "vis"; decide; decide)
  | (apply jv_var 16; exact rfl; exact rfl; walk_at "vis"; decide; decide)
  | (apply jv_var 17; exact rfl; exact rfl; walk_at "vis"; decide; decide)
  | (apply jv_var 18; exact rfl; exact rfl; walk_at "vis"; decide; decide)
  | (apply jv_var 19; exact rfl; exact rfl; walk_at "vis"; decide; decide))
local macro_rules | `(tactic| walk_at "bm") => `(tactic| first
  | assumption)
local macro_rules | `(tactic| walk_at "call") => `(tactic| first
  | fail "call")
local macro_rules | `(tactic| walk_at "calld") => `(tactic| first
  | fail "calld")
local macro_rules | `(tactic| walk_at "kit") => `(tactic| first
  | assumption
  | exact kit_ii
  | exact kit_ib
  | exact kit_bi
  | exact kit_bb
  | exact kit_li
  | exact kit_ll
  | exact kit_tt
  | exact kit_tl
  | exact kit_lt
  | exact kit_tb)
local macro_rules | `(tactic| walk_at "ns") => `(tactic| first
  | exact fun _ _ => rfl)
local macro_rules | `(tactic| walk_at "jv") => `(tactic| first
  | exact jv_int
  | exact jv_bl
  | exact jv_non
  | exact jv_str
  | walk_at "var"
  | (apply jv_add; walk_at "jv"; walk_at "jv")
  | (apply jv_sub; walk_at "jv"; walk_at "jv")
  | (apply jv_neg; walk_at "jv")
  | (apply jv_mul; walk_at "jv"; walk_at "jv"; walk_at "mulok")
  | (apply jv_fdiv; walk_at "jv"; walk_at "jv"; walk_at "divok")
  | (apply jv_mod; walk_at "jv"; walk_at "jv"; walk_at "side")
  | (apply jv_band; walk_at "jv"; walk_at "jv")
  | (apply jv_cmp; walk_at "jo"; (first | exact rfl | exact nomark _))
  | (apply jv_chain op_le op_le; walk_at "jv"; walk_at "jv"; walk_at "jv"; with_unfolding_all rfl)
  | (apply jv_chain op_le op_lt; walk_at "jv"; walk_at "jv"; walk_at "jv"; with_unfolding_all rfl)
  | (apply jv_and; walk_at "jv"; intro hand; walk_at "jv")
  | (apply jv_or; walk_at "jv"; intro hor; walk_at "jv")
  | (apply jv_not; walk_at "jv")
  | (apply jv_one; walk_at "jv")
  | (apply jv_lenM; walk_at "bm"; walk_at "jd"; exact rfl; walk_at "ns")
  | (apply jv_len; walk_at "bm"; walk_at "jd"; exact rfl; walk_at "ns")
  | (apply jv_all; exact rfl; walk_at "bm"; walk_at "jd"; exact rfl; decide +kernel; walk_at "ns")
  | (apply jv_any; exact rfl; walk_at "bm"; walk_at "jd"; exact rfl; decide +kernel; walk_at "ns")
  | (apply jv_lenT; walk_at "bm"; walk_at "jd"; exact rfl; walk_at "ns")
  | walk_at "call"
  | (apply jv_isi; (first | exact boot_tint | exact boot_tbool | exact boot_tlist | exact boot_ttuple); walk_at "bm"; walk_at "bm"; walk_at "jd"; walk_at "kit"; exact rfl; exact rfl; exact boot_isi; walk_at "ns"; decide; decide)
  | (apply jv_lenSet; exact rfl; walk_at "bm"; walk_at "bm"; walk_at "jd"; walk_at "side"; exact rfl; exact rfl; walk_at "ns")
  | (apply jv_ifE; walk_at "jt"; intro hif; walk_at "jv"; intro hif; walk_at "jv")
  | (apply JD.toI; walk_at "jx")
  | (apply JD.toB; walk_at "jx")
  | (apply JD.toS; walk_at "jx"))
local macro_rules | `(tactic| walk_at "mulok") => `(tactic| first
  | exact Or.inr ⟨by decide, by decide⟩
  | exact Or.inl ⟨by decide, by decide⟩
  | exact Or.inl ⟨by omega, by omega⟩
  | exact Or.inr ⟨by omega, by omega⟩)
local macro_rules | `(tactic| walk_at "divok") => `(tactic| first
  | exact ⟨by decide, by decide⟩
  | exact ⟨by omega, by omega⟩)
local macro_rules | `(tactic| walk_at "jx") => `(tactic| first
  | (apply jd_ixN; walk_at "jd"; walk_at "jv"; exact fun _ _ => rfl; walk_at "side")
  | (apply jd_ixNs; walk_at "jd"; walk_at "jv"; exact fun _ _ => rfl; walk_at "side")
  | (apply jd_ixP; walk_at "jd"; walk_at "jv"; exact fun _ _ => rfl; walk_at "side")
  | (apply jd_ixPs; walk_at "jd"; walk_at "jv"; exact fun _ _ => rfl; walk_at "side")
  | (apply jd_ixI; walk_at "jd"; walk_at "jv"; exact fun _ _ => rfl; walk_at "side")
  | (apply jd_ixP1; walk_at "jd")
  | (apply jd_ixP2; walk_at "jd")
  | walk_at "calld")
local macro_rules | `(tactic| walk_at "jd") => `(tactic| first
  | (apply JV.toD; walk_at "var"; walk_at "dp")
  | walk_at "jx"
  | (apply jd_list; walk_at "jad"; exact Nat.le_of_ble_eq_true rfl)
  | (apply jd_tuple; walk_at "jad"; exact Nat.le_of_ble_eq_true rfl)
  | (apply jd_listOf; walk_at "bm"; walk_at "jd"; exact rfl; exact boot_tlist; walk_at "ns")
  | (apply JV.toD (v := V.int _); walk_at "jv"; exact Dx.int _)
  | (apply JV.toD (v := V.bl _); walk_at "jv"; exact Dx.bl _)
  | (apply JV.toD (v := V.str _); walk_at "jv"; exact Dx.str _)
  | (apply jd_ifE; walk_at "jt"; intro hif; walk_at "jd"; intro hif; walk_at "jd"))
local macro_rules | `(tactic| walk_at "jad") => `(tactic| first
  | exact jad_nil
  | (apply jad_cons; walk_at "jd"; walk_at "jad"; walk_at "ns"))
local macro_rules | `(tactic| walk_at "jo") => `(tactic| first
  | (apply jo_isN; walk_at "jv")
  | (apply jo_notN; walk_at "jv")
  | (apply jo_eqI; walk_at "jv"; walk_at "jv")
  | (apply jo_neI; walk_at "jv"; walk_at "jv")
  | (apply jo_lt; walk_at "jv"; walk_at "jv")
  | (apply jo_le; walk_at "jv"; walk_at "jv")
  | (apply jo_gt; walk_at "jv"; walk_at "jv")
  | (apply jo_ge; walk_at "jv"; walk_at "jv")
  | (apply jo_inN; walk_at "hu"; walk_at "jv"; walk_at "jd")
  | (apply jo_niN; walk_at "hu"; walk_at "jv"; walk_at "jd")
  | (apply jo_eqD; walk_at "hu"; walk_at "jd"; walk_at "jd"; walk_at "shp"; walk_at "shp")
  | (apply jo_neD; walk_at "hu"; walk_at "jd"; walk_at "jd"; walk_at "shp"; walk_at "shp"))
local macro_rules | `(tactic| walk_at "shp") => `(tactic| first
  | assumption
  | exact Shp.shaped eLL _
  | exact Shp.shaped ePs _
  | exact Shp.shaped eNs _
  | exact Shp.shaped ePss _
  | exact Shp.shaped eP _
  | exact Shp.shaped eN _
  | exact Shp.shaped eI _
  | decide)
local macro_rules | `(tactic| walk_at "jw") => `(tactic| first
  | (apply jw_one_and; walk_at "jt")
  | (apply jw_one_or; walk_at "jt")
  | (apply jw_and; walk_at "jt"; intro hand; walk_at "jw")
  | (apply jw_or; walk_at "jt"; intro hor; walk_at "jw"))
local macro_rules | `(tactic| walk_at "jt") => `(tactic| first
  | (apply jt_w; walk_at "jw")
  | (apply jt_cmp; walk_at "jo"; (first | exact rfl | exact nomark _))
  | (apply jt_not; walk_at "jt")
  | (apply jt_val; walk_at "jv"; exact fun _ => rfl)
  | (apply jt_chain op_le op_le; walk_at "jv"; walk_at "jv"; walk_at "jv"; with_unfolding_all rfl))
local macro_rules | `(tactic| walk_at "camp") => `(tactic| first | assumption | (refine' CampAt.mono ?_ (by assumption); walk_at "ex"))
local macro_rules | `(tactic| walk_at "calld") => `(tactic| first
  | (apply jd_told; assumption; walk_at "var"; walk_at "camp"; exact rfl)
  | walk_at "calld2")
local macro_rules | `(tactic| walk_at "calld2") => `(tactic| first
  | fail "calld2")
local macro_rules | `(tactic| walk_at "room") => `(tactic| first
  | assumption
  | exact Room.mono (by assumption) (by decide))
local macro_rules | `(tactic| walk_at "bm") => `(tactic| first
  | assumption
  | exact Tx.len (by assumption)
  | exact Tx.range (by assumption)
  | exact Tx.list (by assumption)
  | exact Tx.all (by assumption)
  | exact Tx.any (by assumption)
  | exact Tx.isi (by assumption)
  | exact Tx.int (by assumption)
  | exact Tx.bool (by assumption)
  | exact Tx.set (by assumption)
  | exact Tx.tup (by assumption))
local macro_rules | `(tactic| walk_at "call") => `(tactic| first
  | (apply jv_size; assumption; walk_at "var"; walk_at "camp"; exact rfl)
  | (apply jv_index; walk_at "hu"; walk_at "jd"; walk_at "jv"; walk_at "side"; walk_at "ns"; exact rfl; exact rfl; exact rfl)
  | (apply jv_would; assumption; assumption; walk_at "room"; walk_at "var"; walk_at "camp"; walk_at "jv"; walk_at "jv"; walk_at "side"; walk_at "side"; walk_at "ns"; walk_at "ns"; exact rfl; exact rfl)
  | walk_at "call2")
local macro_rules | `(tactic| walk_at "call2") => `(tactic| first
  | fail "call2")
theorem dg_add_ok (n : Nat) : (dg n).length + (":" : Str).length ≤ sizeLine := by
  rw [dg_len, sizeLine_eq, show (":" : Str).length = 1 by decide +kernel]
  decide
theorem cut_one {α : Type} (x : α) (xs : List α) : cut (x :: xs) (some 1) none = xs := by
  have h : HT.sIx (x :: xs).length 0 (some 1) = 1 := by
    simp [HT.sIx]
  unfold cut
  rw [h]
  simp [HT.sIx]
theorem le16 {n m k : Nat} (h : n ≤ 200) (h2 : m ≤ 20) (h3 : k ≤ 1) : n + m * k ≤ 16777216 := by
  have : m * k ≤ 20 * 1 := Nat.mul_le_mul h2 h3
  omega
section
variable {X : Cx} {σ : L2.St} {e o a b c : Expr} {es : List Expr} {G : Hp} {pos : Pos} {x : Str}
theorem jv_dg {n : Nat} {p : Pos} (hm : X.mg "str" = none) (ha : JV X σ a G (.int (n : Int))) (hn : n < 6) (hg : Gl X "str") (he : NoStar a) : JV X σ (.Call (.Name "str" p) [a] [] pos) G (.str (dg n)) :=
  JV.is (jv_strI hm ha (log_ok hn) hg he) (by rw [dg_str n hn])
theorem jv_dgc {n : Nat} {p p2 : Pos} {j : Nat} (hm : X.mg "str" = none) (ha : JV X σ a G (.int (n : Int))) (hn : n < 6) (hg : Gl X "str") (he : NoStar a) : JV X σ (.BinOp (.Call (.Name "str" p) [a] [] p2) .Add (.Constant (.str ":") j p3) pos) G (.str (dg n ++ ":")) :=
  jv_addS (jv_dg hm ha hn hg he) jv_str (dg_add_ok n)
theorem jv_row {row : List Nat} {n : Nat} {p1 p2 p3 p4 p5 p6 p8 ap : Pos} {j j2 : Nat} (hm : X.mg "str" = none) (ha : JV X σ a G (.int (n : Int))) (hn : n < 6) (hlc : JD X σ b G (.list (row.map fun o => eS (dg o)))) (hl : row.length ≤ 6) (hg : Gl X "str") (he : NoStar a)
    (hb : attributeBase (.Constant (.str " ") j p1) "join" X.env (eval (.Constant (.str " ") j p1) X.env) = eval (.Constant (.str " ") j p1) X.env) (hline : (ap.endLine == pos.line) = true) :
    JV X σ (.Call (.Attribute (.Constant (.str " ") j p1) "join" ap) [.BinOp (.List [.BinOp (.Call (.Name "str" p2) [a] [] p3) .Add (.Constant (.str ":") j2 p4) p5] p6) .Add b p8] [] pos) G (.str (rowText n row)) :=
  jv_join (ys := wordsOf n row) jv_str (JD.is (JN.toD (jn_cat (ds := [eS (dg n ++ ":")]) (jd_list (jad_cons (JV.toD (jv_dgc hm ha hn hg he) (Dx.str _)) jad_nil (fun _ _ => rfl)) (by rw [sizeLine_eq]; exact Nat.le_of_ble_eq_true rfl)) hlc (by rw [List.length_map, List.length_singleton]; omega))) (by unfold wordsOf; rw [List.map_cons, List.map_map]; rfl))
    (le16 (by rw [words_sum]; omega) (by rw [words_len]; omega) (by rw [sp_len]; exact Nat.le_refl _)) (fun _ _ => rfl) hb hline
end
def Row6 (c : Nat) (row : List Nat) : Prop := c < 6 ∧ row.Nodup ∧ c ∉ row ∧ ∀ x ∈ row, x < 6
theorem Row6.len {c : Nat} {row : List Nat} (h : Row6 c row) : row.length ≤ 6 := nodup_bound 6 row h.2.1 h.2.2.2
theorem ValidL.row {L : List (List Nat)} (v : ValidL L) {i : Nat} (hi : i < L.length) : Row6 i (L.getD i []) :=
  ⟨Nat.lt_of_lt_of_le hi v.six, v.nd i hi, v.self i hi, fun x hx => Nat.lt_of_lt_of_le (v.mem i hi x hx) v.six⟩
section
variable {P : Program} {w : World} {K : PySem.W.Frag} {mg : Str → Option Value} {base : Heap} {C : Addr}
abbrev spWritten (K : PySem.W.Frag) (C : Addr) : Sp := spOf ValidL (fun i => [kCamp K C i]) (fun i => kV (.str (textOf i)))
theorem ok_written {f : Addr} {fd : FuncData} (F : Fun K "written" "written" s_written f fd) (T : Tx K mg C) (hstr : mg "str" = none) : FnOk P w K mg base CX0 1 f fd ["camp"] (spWritten K C) := by
  refine fun_ok F sc_written (fun _ => rfl) ?_
  rintro cdv A outer s H vs Q E L G hr hv al h k
  obtain ⟨_, rfl, ⟨p, rfl, hc⟩⟩ := al.one
  try dsimp only at hv hc k ⊢
  have nd := sc_written.nd
  have h6 := hv.six
  refine b_setN (n := 1) h nd rfl (by walk_at "loc") (Or.inl rfl) (fun H1 l h1 => ?_)
  refine b_for h1 (f := eN) (xs := List.range L.length) (ji_range1 T.range (by walk_at "jv") (by omega) rfl (by walk_at "ns")) PassesOwn.never rfl (fun _ => rfl) (fun G2 H2 h2 e2 => ?_)
  refine ⟨fun pre σ' G' H' => ∃ ws o2, σ' = [some (.ref p), some (.ref l), o2, none] ∧ Hs G H G' H' [(l, .lst ws)] ∧ Ex G2 G' ∧ ws.length = pre.length ∧ DxAll G' ws ((pre.map fun c => rowText c (L.getD c [])).map eS), ?_, ?_, ?_, ?_⟩
  · exact ⟨[], none, rfl, h2, Ex.refl _, rfl, .nil⟩
  · rintro pre σ' G' H' ⟨ws, o2, rfl, hs, e, _⟩
    exact ⟨e, hs.ex⟩
  · rintro pre c post v σ' G' H' hxs ⟨ws, o2, rfl, hs, e, hwl, hd⟩ pv
    cases pv
    have hcl : c < L.length := by
      have : c ∈ List.range L.length := by rw [hxs]; simp
      simpa using this
    have hpl : pre.length ≤ 6 := by
      have := congrArg List.length hxs
      rw [List.length_range, List.length_append] at this
      omega
    have hrow := hv.row hcl
    refine wg_name (n := 2) nd rfl (by walk_at "loc") (Or.inl rfl) ?_
    refine b_append (n := 1) (d := eS (rowText c (L.getD c []))) hs rfl rfl (by walk_at "vis") (JV.toD (jv_row hstr (by walk_at "jv") hrow.1 (JN.toD (jn_lc (n := 3) (f0 := eN) (xs := L.getD c []) (f := fun o => eS (dg o)) (ji_list (by walk_at "jd")) (by have := hrow.len; omega) rfl nd rfl (fun _ _ _ _ _ => ⟨by walk_at "loc", by walk_at "loc"⟩) (by first | kernel_rfl | rfl) (fun _ => rfl) ?_)) hrow.len rfl (by walk_at "ns") rfl rfl) (Dx.str _)) (by omega) rfl rfl (by walk_at "ns") rfl rfl rfl rfl (fun G3 H3 v3 h3 e3 d3 => b_nil ⟨G3, _, _, rfl, h3, e.trans e3, by rw [List.length_append, List.length_append, hwl]; rfl, ?_⟩)
    · intro s h C cl fp y hy G2 u e3 pu
      cases pu
      exact JV.toD (jv_dg hstr (by walk_at "jv") (hrow.2.2.2 y hy) rfl (by walk_at "ns")) (Dx.str _)
    · rw [List.map_append, List.map_append]
      exact (hd.mono e3).append (.cons d3 .nil)
  · rintro σ' G' H' ⟨ws, o2, rfl, hs, e, _, hd⟩
    obtain ⟨h3, e3⟩ := hs.fix
    have hP : Dx (upd G' l (.lst ws)) (.ref l) (.list ((rowsOf L).map eS)) := .lst upd_same (hd.mono e3)
    refine b_ret h3 (jv_join (ys := rowsOf L) jv_str (by walk_at "jd") (le16 (Nat.le_trans (rowsOf_sum h6 fun i hi => hv.len hi) (by decide)) (by rw [rows_len]; omega) (by rw [nl_len]; exact Nat.le_refl _)) (by walk_at "ns") rfl rfl) (fun H' h' => k _ _ _ _ h' rfl)
end
section
variable {X : Cx} {σ : L2.St} {e o a b c : Expr} {es : List Expr} {G : Hp} {pos : Pos} {x : Str} {C p : Addr} {L : List (List Nat)}
theorem jv_written {ap : Pos} (M : Df X.prog X.w X.K X.mg X.base "written" 1 (spWritten X.K C)) (hr : Room 1 X.A) (ha : JP X σ a G (kCamp X.K C L)) (hv : ValidL L) (hg : Gl X "written") (na : NoStar a)
    (hpl : (backTo pos (starEach [] X.env)).any (·.1) = false) : JV X σ (.Call (.Name "written" ap) [a] [] pos) G (.str (textOf L)) :=
  (jp_call M hr hg L hv (jal_cons ha mo_Camp (fun _ _ => jal_nil) na) na (by decide) hpl).toV
end
end TP

set_option Elab.async false
set_option linter.all false
set_option maxRecDepth 100000
set_option maxHeartbeats 2000000
namespace TP
open PySem PySem.Spec PyProof.Rows L2
open Evl (Ex)
-- tactics of this text: what an expression is worth (jv jd jt jo jw), growth (ex), what remains (side); call, calld: what the text adds
local macro_rules | `(tactic| walk_at "ex") => `(tactic| first | exact Ex.refl _ | assumption | (refine' Ex.trans ?_ (by assumption); walk_at "ex"))
local macro_rules | `(tactic| walk_at "vis") => `(tactic| first
  | exact Or.inl rfl
  | exact Or.inr (Or.inl rfl)
  | exact Or.inr (Or.inr rfl))
local macro_rules | `(tactic| walk_at "loc") => `(tactic| first
  | exact Or.inl rfl
  | exact Or.inr rfl)
local macro_rules | `(tactic| walk_at "side") => `(tactic| first
  | assumption
  | omega
  | decide
  | exact rfl
  | (simp_all; done)
  | (simp_all; omega))
local macro_rules | `(tactic| walk_at "hu") => `(tactic| first
  | exact room65 (by assumption)
  | exact Room.units (by assumption))
local macro_rules | `(tactic| walk_at "dp") => `(tactic| first | assumption | (refine' Dx.mono ?_ (by assumption); walk_at "ex"))
local macro_rules | `(tactic| walk_at "var") => `(tactic| first
  | (apply jv_var 0; exact rfl; exact rfl; walk_at "vis"; decide; decide)
  | (apply jv_var 1; exact rfl; exact rfl; walk_at "vis"; decide; decide)
  | (apply jv_var 2; exact rfl; exact rfl; walk_at "vis"; decide; decide)
  | (apply jv_var 3; exact rfl; exact rfl; walk_at "vis"; decide; decide)
  | (apply jv_var 4; exact rfl; exact rfl; walk_at "vis"; decide; decide)
  | (apply jv_var 5; exact rfl; exact rfl; walk_at "vis"; decide; decide)
  | (apply jv_var 6; exact rfl; exact rfl; walk_at "vis"; decide; decide)
  | (apply jv_var 7; exact rfl; exact rfl; walk_at "vis"; decide; decide)
  | (apply jv_var 8; exact rfl; exact rfl; walk_at "vis"; decide; decide)
  | (apply jv_var 9; exact rfl; exact rfl; walk_at "vis"; decide; decide)
  | (apply jv_var 10; exact rfl; exact rfl; walk_at "vis"; decide; decide)
  | (apply jv_var 11; exact rfl; exact rfl; walk_at "vis"; decide; decide)
  | (apply jv_var 12; exact rfl; exact rfl; walk_at "vis"; decide; decide)
  | (apply jv_var 13; exact rfl; exact rfl; walk_at "vis"; decide; decide)
  | (apply jv_var 14; exact rfl; exact rfl; walk_at "vis"; decide; decide)
  | (apply jv_var 15; exact rfl; exact rfl; walk_at "vis"; decide; decide)
  | (apply jv_var 16; exact rfl; exact rfl; walk_at "vis"; decide; decide)
  | (apply jv_var 17; exact rfl; exact rfl; walk_at "vis"; decide; decide)
  | (apply jv_var 18; exact rfl; exact rfl; walk_at "vis"; decide; decide)
  | (apply jv_var 19; exact rfl; exact rfl; walk_at "vis"; decide; decide))
local macro_rules | `(tactic| walk_at "bm") => `(tactic| first
  | assumption)
local macro_rules | `(tactic| walk_at "call") => `(tactic| first
  | fail "call")
local macro_rules | `(tactic| walk_at "calld") => `(tactic| first
  | fail "calld")
local macro_rules | `(tactic| walk_at "kit") => `(tactic| first
  | assumption
  | exact kit_ii
  | exact kit_ib
  | exact kit_bi
  | exact kit_bb
  | exact kit_li
  | exact kit_ll
  | exact kit_tt
  | exact kit_tl
  | exact kit_lt
  | exact kit_tb)
local macro_rules | `(tactic| walk_at "ns") => `(tactic| first
  | exact fun _ _ => rfl)
local macro_rules | `(tactic| walk_at "jv") => `(tactic| first
  | exact jv_int
  | exact jv_bl
  | exact jv_non
  | exact jv_str
  | walk_at "var"
  | (apply jv_add; walk_at "jv"; walk_at "jv")
  | (apply jv_sub; walk_at "jv"; walk_at "jv")
  | (apply jv_neg; walk_at "jv")
  | (apply jv_mul; walk_at "jv"; walk_at "jv"; walk_at "mulok")
  | (apply jv_fdiv; walk_at "jv"; walk_at "jv"; walk_at "divok")
  | (apply jv_mod; walk_at "jv"; walk_at "jv"; walk_at "side")
  | (apply jv_band; walk_at "jv"; walk_at "jv")
  | (apply jv_cmp; walk_at "jo"; (first | exact rfl | exact nomark _))
  | (apply jv_chain op_le op_le; walk_at "jv"; walk_at "jv"; walk_at "jv"; with_unfolding_all rfl)
  | (apply jv_chain op_le op_lt; walk_at "jv"; walk_at "jv"; walk_at "jv"; with_unfolding_all rfl)
  | (apply jv_and; walk_at "jv"; intro hand; walk_at "jv")
  | (apply jv_or; walk_at "jv"; intro hor; walk_at "jv")
  | (apply jv_not; walk_at "jv")
  | (apply jv_one; walk_at "jv")
  | (apply jv_lenM; walk_at "bm"; walk_at "jd"; exact rfl; walk_at "ns")
  | (apply jv_len; walk_at "bm"; walk_at "jd"; exact rfl; walk_at "ns")
  | (apply jv_all; exact rfl; walk_at "bm"; walk_at "jd"; exact rfl; decide +kernel; walk_at "ns")
  | (apply jv_any; exact rfl; walk_at "bm"; walk_at "jd"; exact rfl; decide +kernel; walk_at "ns")
  | (apply jv_lenT; walk_at "bm"; walk_at "jd"; exact rfl; walk_at "ns")
  | walk_at "call"
  | (apply jv_isi; (first | exact boot_tint | exact boot_tbool | exact boot_tlist | exact boot_ttuple); walk_at "bm"; walk_at "bm"; walk_at "jd"; walk_at "kit"; exact rfl; exact rfl; exact boot_isi; walk_at "ns"; decide; decide)
  | (apply jv_lenSet; exact rfl; walk_at "bm"; walk_at "bm"; walk_at "jd"; walk_at "side"; exact rfl; exact rfl; walk_at "ns")
  | (apply jv_ifE; walk_at "jt"; intro hif; walk_at "jv"; intro hif; walk_at "jv")
  | (apply JD.toI; walk_at "jx")
  | (apply JD.toB; walk_at "jx")
  | (apply JD.toS; walk_at "jx"))
local macro_rules | `(tactic| walk_at "mulok") => `(tactic| first
  | exact Or.inr ⟨by decide, by decide⟩
  | exact Or.inl ⟨by decide, by decide⟩
  | exact Or.inl ⟨by omega, by omega⟩
  | exact Or.inr ⟨by omega, by omega⟩)
local macro_rules | `(tactic| walk_at "divok") => `(tactic| first
  | exact ⟨by decide, by decide⟩
  | exact ⟨by omega, by omega⟩)
local macro_rules | `(tactic| walk_at "jx") => `(tactic| first
  | (apply jd_ixN; walk_at "jd"; walk_at "jv"; exact fun _ _ => rfl; walk_at "side")
  | (apply jd_ixNs; walk_at "jd"; walk_at "jv"; exact fun _ _ => rfl; walk_at "side")
  | (apply jd_ixP; walk_at "jd"; walk_at "jv"; exact fun _ _ => rfl; walk_at "side")
  | (apply jd_ixPs; walk_at "jd"; walk_at "jv"; exact fun _ _ => rfl; walk_at "side")
  | (apply jd_ixI; walk_at "jd"; walk_at "jv"; exact fun _ _ => rfl; walk_at "side")
  | (apply jd_ixP1; walk_at "jd")
  | (apply jd_ixP2; walk_at "jd")
  | walk_at "calld")
local macro_rules | `(tactic| walk_at "jd") => `(tactic| first
  | (apply JV.toD; walk_at "var"; walk_at "dp")
  | walk_at "jx"
  | (apply jd_list; walk_at "jad"; exact Nat.le_of_ble_eq_true rfl)
  | (apply jd_tuple; walk_at "jad"; exact Nat.le_of_ble_eq_true rfl)
  | (apply jd_listOf; walk_at "bm"; walk_at "jd"; exact rfl; exact boot_tlist; walk_at "ns")
  | (apply JV.toD (v := V.int _); walk_at "jv"; exact Dx.int _)
  | (apply JV.toD (v := V.bl _); walk_at "jv"; exact Dx.bl _)
  | (apply JV.toD (v := V.str _); walk_at "jv"; exact Dx.str _)
  | (apply jd_ifE; walk_at "jt"; intro hif; walk_at "jd"; intro hif; walk_at "jd"))
local macro_rules | `(tactic| walk_at "jad") => `(tactic| first
  | exact jad_nil
  | (apply jad_cons; walk_at "jd"; walk_at "jad"; walk_at "ns"))
local macro_rules | `(tactic| walk_at "jo") => `(tactic| first
  | (apply jo_isN; walk_at "jv")
  | (apply jo_notN; walk_at "jv")
  | (apply jo_eqI; walk_at "jv"; walk_at "jv")
  | (apply jo_neI; walk_at "jv"; walk_at "jv")
  | (apply jo_lt; walk_at "jv"; walk_at "jv")
  | (apply jo_le; walk_at "jv"; walk_at "jv")
  | (apply jo_gt; walk_at "jv"; walk_at "jv")
  | (apply jo_ge; walk_at "jv"; walk_at "jv")
  | (apply jo_inN; walk_at "hu"; walk_at "jv"; walk_at "jd")
  | (apply jo_niN; walk_at "hu"; walk_at "jv"; walk_at "jd")
  | (apply jo_eqD; walk_at "hu"; walk_at "jd"; walk_at "jd"; walk_at "shp"; walk_at "shp")
  | (apply jo_neD; walk_at "hu"; walk_at "jd"; walk_at "jd"; walk_at "shp"; walk_at "shp"))
local macro_rules | `(tactic| walk_at "shp") => `(tactic| first
  | assumption
  | exact Shp.shaped eLL _
  | exact Shp.shaped ePs _
  | exact Shp.shaped eNs _
  | exact Shp.shaped ePss _
  | exact Shp.shaped eP _
  | exact Shp.shaped eN _
  | exact Shp.shaped eI _
  | decide)
local macro_rules | `(tactic| walk_at "jw") => `(tactic| first
  | (apply jw_one_and; walk_at "jt")
  | (apply jw_one_or; walk_at "jt")
  | (apply jw_and; walk_at "jt"; intro hand; walk_at "jw")
  | (apply jw_or; walk_at "jt"; intro hor; walk_at "jw"))
local macro_rules | `(tactic| walk_at "jt") => `(tactic| first
  | (apply jt_w; walk_at "jw")
  | (apply jt_cmp; walk_at "jo"; (first | exact rfl | exact nomark _))
  | (apply jt_not; walk_at "jt")
  | (apply jt_val; walk_at "jv"; exact fun _ => rfl)
  | (apply jt_chain op_le op_le; walk_at "jv"; walk_at "jv"; walk_at "jv"; with_unfolding_all rfl))
local macro_rules | `(tactic| walk_at "camp") => `(tactic| first | assumption | (refine' CampAt.mono ?_ (by assumption); walk_at "ex"))
local macro_rules | `(tactic| walk_at "calld") => `(tactic| first
  | (apply jd_told; assumption; walk_at "var"; walk_at "camp"; exact rfl)
  | walk_at "calld2")
local macro_rules | `(tactic| walk_at "calld2") => `(tactic| first
  | fail "calld2")
local macro_rules | `(tactic| walk_at "room") => `(tactic| first
  | assumption
  | exact Room.mono (by assumption) (by decide))
local macro_rules | `(tactic| walk_at "bm") => `(tactic| first
  | assumption
  | exact Tx.len (by assumption)
  | exact Tx.range (by assumption)
  | exact Tx.list (by assumption)
  | exact Tx.all (by assumption)
  | exact Tx.any (by assumption)
  | exact Tx.isi (by assumption)
  | exact Tx.int (by assumption)
  | exact Tx.bool (by assumption)
  | exact Tx.set (by assumption)
  | exact Tx.tup (by assumption))
local macro_rules | `(tactic| walk_at "call") => `(tactic| first
  | (apply jv_size; assumption; walk_at "var"; walk_at "camp"; exact rfl)
  | (apply jv_index; walk_at "hu"; walk_at "jd"; walk_at "jv"; walk_at "side"; walk_at "ns"; exact rfl; exact rfl; exact rfl)
  | (apply jv_would; assumption; assumption; walk_at "room"; walk_at "var"; walk_at "camp"; walk_at "jv"; walk_at "jv"; walk_at "side"; walk_at "side"; walk_at "ns"; walk_at "ns"; exact rfl; exact rfl)
  | walk_at "call2")
local macro_rules | `(tactic| walk_at "call2") => `(tactic| first
  | fail "call2")
theorem Dx.ref_of {G : Hp} {v : V} {ds : List PyData} (h : Dx G v (.list ds)) : ∃ a xs, v = .ref a ∧ G a = some (.lst xs) ∧ DxAll G xs ds := by
  cases h with
  | lst h1 h2 => exact ⟨_, _, rfl, h1, h2⟩
section
variable {X : Cx} {σ : L2.St} {e o a b c : Expr} {es : List Expr} {G : Hp} {pos : Pos} {x : Str}
/-- an item of a tuple of numbers -/
theorem jd_ixTN {ns : List Int} {n : Nat} (ha : JD X σ a G (.tuple (ns.map .int))) (hb : JV X σ b G (.int (n : Int))) (hs : PlainIx b) (h : n < ns.length) : JD X σ (.Subscript a b pos) G (.int (ns.getD n 0)) := by
  refine jd_ixT ha hb (atI_nat ?_) hs
  rw [List.getElem?_map, List.getElem?_eq_getElem h, List.getD_eq_getElem?_getD, List.getElem?_eq_getElem h]
  rfl
end
section
variable {P : Program} {w : World} {K : PySem.W.Frag} {mg : Str → Option Value} {base : Heap} {C : Addr}
/-! ### the law's own readers -/
abbrev spCell (K : PySem.W.Frag) : Sp := spOf (fun _ : List Int × Nat => True) (fun i => [kS K i.1, kI (i.2 : Int)]) (fun i => kI (i.1.getD i.2 0))
theorem ok_cell {f : Addr} {fd : FuncData} (F : Fun K "_law_cell_at" "_law_cell_at" s_L_cell_at f fd) (T : Tx K mg C) : FnOk P w K mg base CX0 1 f fd ["_law_script", "_law_k"] (spCell K) := by
  refine fun_ok F sc_L_cell_at (fun _ => rfl) ?_
  rintro cdv A outer s H vs Q E ⟨ns, n⟩ G hr _ al h k
  obtain ⟨_, _, rfl, ⟨sa, rfl, hs⟩, rfl⟩ := al.two
  try dsimp only at hs k ⊢
  refine b_if (p := decide ((n : Int) < (ns.length : Int))) h (jt_cmp (jo_lt (by walk_at "jv") (jv_lenS T.len (by walk_at "var") hs rfl (by walk_at "ns"))) rfl) (fun e H1 h1 => ?_) (fun e H1 h1 => b_nil ?_)
  · have hn : n < ns.length := by simpa using e
    exact b_ret h1 (v := .int (ns.getD n 0)) (jv_ixS (by walk_at "var") hs (by walk_at "var") hn (fun _ _ => rfl)) (fun H' h' => k _ _ _ _ h' rfl)
  · have hn : ¬ n < ns.length := by simpa using e
    refine b_ret h1 (v := .int 0) (by walk_at "jv") (fun H' h' => k _ _ _ _ h' ?_)
    show V.int 0 = V.int (ns.getD n 0)
    rw [List.getD_eq_getElem?_getD, List.getElem?_eq_none (by omega)]
    rfl
def primes8 : List Int := [1000003, 1000033, 1000037, 1000039, 1000081, 1000099, 1000117, 1000121]
theorem primes8_pos (n : Nat) (h : n < 8) : 0 < primes8.getD n 0 := by
  match n, h with
  | 0, _ => decide
  | 1, _ => decide
  | 2, _ => decide
  | 3, _ => decide
  | 4, _ => decide
  | 5, _ => decide
  | 6, _ => decide
  | 7, _ => decide
def drawI (cell : Int) (n many : Nat) : Int := (cell * 48271 + (n : Int) * 69621 + cell / 1000003 % 1000003 * 40692) % primes8.getD (n % 8) 0 % (many : Int)
def drawN (cell : Int) (n many : Nat) : Nat := (drawI cell n many).toNat
theorem drawN_eq (cell : Int) (n : Nat) {many : Nat} (h : 0 < many) : (drawN cell n many : Int) = drawI cell n many := by
  have := Int.emod_nonneg ((cell * 48271 + (n : Int) * 69621 + cell / 1000003 % 1000003 * 40692) % primes8.getD (n % 8) 0) (show (many : Int) ≠ 0 by omega)
  exact Int.toNat_of_nonneg this
theorem drawN_lt (cell : Int) (n : Nat) {many : Nat} (h : 0 < many) : drawN cell n many < many := by
  have h1 := drawN_eq cell n h
  have h2 : drawI cell n many < many := Int.emod_lt_of_pos _ (by omega)
  omega
abbrev spDraw : Sp := spOf (fun i : Int × Nat × Nat => 0 < i.2.2) (fun i => [kI i.1, kI (i.2.1 : Int), kI (i.2.2 : Int)]) (fun i => kI (drawN i.1 i.2.1 i.2.2 : Int))
theorem ok_draw {f : Addr} {fd : FuncData} (F : Fun K "_law_draw" "_law_draw" s_L_draw f fd) (T : Tx K mg C) : FnOk P w K mg base CX0 1 f fd ["_law_cell", "_law_k", "_law_many"] spDraw := by
  refine fun_ok F sc_L_draw (fun _ => rfl) ?_
  rintro cdv A outer s H vs Q E ⟨cell, n, many⟩ G hr hm al h k
  obtain ⟨_, _, _, rfl, rfl, rfl, rfl⟩ := al.three
  try dsimp only at hm k ⊢
  have nd := sc_L_draw.nd
  refine b_setD (n := 3) h (d := .tuple (primes8.map .int)) (JD.is (d1 := .tuple [.int 1000003, .int 1000033, .int 1000037, .int 1000039, .int 1000081, .int 1000099, .int 1000117, .int 1000121]) (by walk_at "jd") rfl) nd rfl (by walk_at "loc") rfl (Or.inl rfl) (fun G1 H1 pr h1 e1 hp => ?_)
  refine b_setV (n := 4) h1 (v := .int (cell * 48271 + (n : Int) * 69621 + cell / 1000003 % 1000003 * 40692)) (by walk_at "jv") nd rfl (by walk_at "loc") rfl (Or.inl rfl) (fun H2 h2 => ?_)
  have h8 : n % 8 < 8 := Nat.mod_lt _ (by decide)
  have hpos := primes8_pos _ h8
  refine b_ret h2 (v := .int ((cell * 48271 + (n : Int) * 69621 + cell / 1000003 % 1000003 * 40692) % primes8.getD (n % 8) 0 % (many : Int))) ?_ (fun H' h' => k _ _ _ _ h' ?_)
  · refine jv_mod (jv_mod (by walk_at "jv") (JD.toI (jd_ixTN (by walk_at "jd") (JV.is (by walk_at "jv") (by show V.int ((n : Int) % 8) = V.int ((n % 8 : Nat) : Int); congr 1) ) (fun _ _ => rfl) h8)) hpos) (by walk_at "jv") (by omega)
  · show V.int (drawI cell n many) = V.int (drawN cell n many : Int)
    rw [drawN_eq _ _ hm]
abbrev spLW : Sp := spOf (fun i : List (List Nat) × Nat × Nat => i.2.1 < i.1.length ∧ i.2.2 < i.1.length) (fun i => [kD (eLL i.1), kI i.2.1, kI i.2.2]) (fun i => kB (would i.1 i.2.1 i.2.2))
theorem ok_Lwould {f : Addr} {fd : FuncData} (F : Fun K "_law_would" "_law_would" s_L_would f fd) : FnOk P w K mg base CX0 1 f fd ["_law_lists_here", "_law_one", "_law_other_here"] spLW := by
  refine fun_ok F sc_L_would (fun _ => rfl) ?_
  rintro cdv A outer s H vs Q E ⟨L, a, b⟩ G hr ⟨ha, hb⟩ al h k
  obtain ⟨lv, _, _, rfl, hL, rfl, rfl⟩ := al.three
  try dsimp only at ha hb hL k ⊢
  exact b_ret h (v := .bl (would L a b)) (by unfold would; walk_at "jv") (fun H' h' => k _ _ _ _ h' rfl)
abbrev spLR : Sp := spOf (fun i : List (List Nat) × Nat × Nat × Nat => i.2.1 < i.1.length ∧ (¬ i.2.2.1 = i.2.2.2 → ¬ i.2.2.1 = i.2.1 → ¬ i.2.2.2 = i.2.1 → i.2.2.1 ∈ i.1.getD i.2.1 [] ∧ i.2.2.2 ∈ i.1.getD i.2.1 [])) (fun i => [kD (eLL i.1), kI i.2.1, kI i.2.2.1, kI i.2.2.2]) (fun i => kB (rather i.1 i.2.1 i.2.2.1 i.2.2.2))
theorem ok_Lrather {f : Addr} {fd : FuncData} (F : Fun K "_law_rather" "_law_rather" s_L_rather f fd) : FnOk P w K mg base CX0 1 f fd ["_law_lists_here", "_law_camper", "_law_one", "_law_other_here"] spLR := by
  refine fun_ok F sc_L_rather (fun _ => rfl) ?_
  rintro cdv A outer s H vs Q E ⟨L, c, a, b⟩ G hr ⟨hc0, hin⟩ al h k
  obtain ⟨lv, _, _, _, rfl, hL, rfl, rfl, rfl⟩ := al.four
  try dsimp only at hc0 hin hL k ⊢
  refine b_if (p := decide ((a : Int) = c) || decide ((a : Int) = b)) h (by walk_at "jt") (fun e H1 h1 => ?_) (fun e H1 h1 => ?_)
  · refine b_ret h1 (v := .bl false) (by walk_at "jv") (fun H' h' => k _ _ _ _ h' ?_)
    simp only [Bool.or_eq_true, decide_eq_true_eq, Int.ofNat_inj] at e
    have : a = b ∨ a = c := e.symm
    simp [rather, this]
  · simp only [Bool.or_eq_false_iff, decide_eq_false_iff_not, Int.ofNat_inj] at e
    refine b_nil ?_
    by_cases hbc : b = c
    · refine b_ret h1 (v := .bl (decide ((b : Int) = c) || false)) ?_ (fun H' h' => k _ _ _ _ h' ?_)
      · refine jv_or (by walk_at "jv") (fun z => ?_)
        subst hbc
        simp at z
      · simp [rather, e, hbc]
    · obtain ⟨i1, i2⟩ := hin e.2 e.1 hbc
      refine b_ret h1 (v := .bl (decide ((b : Int) = c) || decide (((L.getD c []).idxOf a : Int) < ((L.getD c []).idxOf b : Int)))) (by walk_at "jv") (fun H' h' => k _ _ _ _ h' ?_)
      have hbc2 : ¬ (b : Int) = c := by omega
      simp [rather, e, hbc, hbc2]
end
section
variable {X : Cx} {σ : L2.St} {e o a b c : Expr} {es : List Expr} {G : Hp} {pos : Pos} {x : Str} {L : List (List Nat)}
theorem jv_Lwould {m n : Nat} {ap : Pos} (M : Df X.prog X.w X.K X.mg X.base "_law_would" 1 spLW) (hr : Room 1 X.A) (ho : JD X σ o G (eLL L)) (ha : JV X σ a G (.int (m : Int))) (hb : JV X σ b G (.int (n : Int))) (hm : m < L.length) (hn : n < L.length) (hg : Gl X "_law_would") (no : NoStar o) (na : NoStar a) (nb : NoStar b)
    (hpl : (backTo pos (starEach [a, b] X.env)).any (·.1) = false) : JV X σ (.Call (.Name "_law_would" ap) [o, a, b] [] pos) G (.bl (would L m n)) :=
  (jp_call M hr hg (L, m, n) ⟨hm, hn⟩ (jal_cons ho.toP mo_D (fun _ e => jal_cons (ha.mono e).toPV mo_V (fun _ e2 => jal_cons (hb.mono (e.trans e2)).toPV mo_V (fun _ _ => jal_nil) nb) na) no) no (by decide) hpl).toB
theorem jv_Lrather {m n q : Nat} {ap : Pos} (M : Df X.prog X.w X.K X.mg X.base "_law_rather" 1 spLR) (hr : Room 1 X.A) (ho : JD X σ o G (eLL L)) (ha : JV X σ a G (.int (m : Int))) (hb : JV X σ b G (.int (n : Int))) (hc : JV X σ c G (.int (q : Int))) (hm : m < L.length) (hin : ¬ n = q → ¬ n = m → ¬ q = m → n ∈ L.getD m [] ∧ q ∈ L.getD m []) (hg : Gl X "_law_rather") (no : NoStar o) (na : NoStar a) (nb : NoStar b) (nc : NoStar c)
    (hpl : (backTo pos (starEach [a, b, c] X.env)).any (·.1) = false) : JV X σ (.Call (.Name "_law_rather" ap) [o, a, b, c] [] pos) G (.bl (rather L m n q)) :=
  (jp_call M hr hg (L, m, n, q) ⟨hm, hin⟩ (jal_cons ho.toP mo_D (fun _ e => jal_cons (ha.mono e).toPV mo_V (fun _ e2 => jal_cons (hb.mono (e.trans e2)).toPV mo_V (fun _ e3 => jal_cons (hc.mono ((e.trans e2).trans e3)).toPV mo_V (fun _ _ => jal_nil) nc) nb) na) no) no (by decide) hpl).toB
theorem jv_draw {m n : Nat} {i : Int} {ap : Pos} (M : Df X.prog X.w X.K X.mg X.base "_law_draw" 1 spDraw) (hr : Room 1 X.A) (ha : JV X σ a G (.int i)) (hb : JV X σ b G (.int (m : Int))) (hc : JV X σ c G (.int (n : Int))) (hn : 0 < n) (hg : Gl X "_law_draw") (na : NoStar a) (nb : NoStar b) (nc : NoStar c)
    (hpl : (backTo pos (starEach [b, c] X.env)).any (·.1) = false) : JV X σ (.Call (.Name "_law_draw" ap) [a, b, c] [] pos) G (.int (drawN i m n : Int)) :=
  (jp_call M hr hg (i, m, n) hn (jal_cons ha.toPV mo_V (fun _ e => jal_cons (hb.mono e).toPV mo_V (fun _ e2 => jal_cons (hc.mono (e.trans e2)).toPV mo_V (fun _ _ => jal_nil) nc) nb) na) na (by decide) hpl).toI
theorem jv_cell {ns : List Int} {n : Nat} {sa : Addr} {ap : Pos} (M : Df X.prog X.w X.K X.mg X.base "_law_cell_at" 1 (spCell X.K)) (hr : Room 1 X.A) (ha : JV X σ a G (.ref sa)) (hs : Scr X.K G sa ns) (hb : JV X σ b G (.int (n : Int))) (hg : Gl X "_law_cell_at") (na : NoStar a) (nb : NoStar b)
    (hpl : (backTo pos (starEach [b] X.env)).any (·.1) = false) : JV X σ (.Call (.Name "_law_cell_at" ap) [a, b] [] pos) G (.int (ns.getD n 0)) :=
  (jp_call M hr hg (ns, n) trivial (jal_cons (ha.toP ⟨sa, rfl, hs⟩) mo_S (fun _ e => jal_cons (hb.mono e).toPV mo_V (fun _ _ => jal_nil) nb) na) na (by decide) hpl).toI
end
end TP

set_option Elab.async false
set_option linter.all false
set_option maxRecDepth 100000
set_option maxHeartbeats 2000000
namespace TP
open PySem PySem.Spec PyProof.Rows L2
open Evl (Ex)
-- tactics of this text: what an expression is worth (jv jd jt jo jw), growth (ex), what remains (side); call, calld: what the text adds
local macro_rules | `(tactic| walk_at "ex") => `(tactic| first | exact Ex.refl _ | assumption | (refine' Ex.trans ?_ (by assumption); walk_at "ex"))
local macro_rules | `(tactic| walk_at "vis") => `(tactic| first
  | exact Or.inl rfl
  | exact Or.inr (Or.inl rfl)
  | exact Or.inr (Or.inr rfl))
local macro_rules | `(tactic| walk_at "loc") => `(tactic| first
  | exact Or.inl rfl
  | exact Or.inr rfl)
local macro_rules | `(tactic| walk_at "side") => `(tactic| first
  | assumption
  | omega
  | decide
  | exact rfl
  | (simp_all; done)
  | (simp_all; omega))
local macro_rules | `(tactic| walk_at "hu") => `(tactic| first
  | exact room65 (by assumption)
  | exact Room.units (by assumption))
local macro_rules | `(tactic| walk_at "dp") => `(tactic| first | assumption | (refine' Dx.mono ?_ (by assumption); walk_at "ex"))
local macro_rules | `(tactic| walk_at "var") => `(tactic| first
  | (apply jv_var 0; exact rfl; exact rfl; walk_at "vis"; decide; decide)
  | (apply jv_var 1; exact rfl; exact rfl; walk_at "vis"; decide; decide)
  | (apply jv_var 2; exact rfl; exact rfl; walk_at "vis"; decide; decide)
  | (apply jv_var 3; exact rfl; exact rfl; walk_at "vis"; decide; decide)
  | (apply jv_var 4; exact rfl; exact rfl; walk_at "vis"; decide; decide)
  | (apply jv_var 5; exact rfl; exact rfl; walk_at "vis"; decide; decide)
  | (apply jv_var 6; exact rfl; exact rfl; walk_at "vis"; decide; decide)
  | (apply jv_var 7; exact rfl; exact rfl; walk_at "vis"; decide; decide)
  | (apply jv_var 8; exact rfl; exact rfl; walk_at "vis"; decide; decide)
  | (apply jv_var 9; exact rfl; exact rfl; walk_at "vis"; decide; decide)
  | (apply jv_var 10; exact rfl; exact rfl; walk_at "vis"; decide; decide)
  | (apply jv_var 11; exact rfl; exact rfl; walk_at "vis"; decide; decide)
  | (apply jv_var 12; exact rfl; exact rfl; walk_at "vis"; decide; decide)
  | (apply jv_var 13; exact rfl; exact rfl; walk_at "vis"; decide; decide)
  | (apply jv_var 14; exact rfl; exact rfl; walk_at "vis"; decide; decide)
  | (apply jv_var 15; exact rfl; exact rfl; walk_at "vis"; decide; decide)
  | (apply jv_var 16; exact rfl; exact rfl; walk_at "vis"; decide; decide)
  | (apply jv_var 17; exact rfl; exact rfl; walk_at "vis"; decide; decide)
  | (apply jv_var 18; exact rfl; exact rfl; walk_at "vis"; decide; decide)
  | (apply jv_var 19; exact rfl; exact rfl; walk_at "vis"; decide; decide))
local macro_rules | `(tactic| walk_at "bm") => `(tactic| first
  | assumption)
local macro_rules | `(tactic| walk_at "call") => `(tactic| first
  | fail "call")
local macro_rules | `(tactic| walk_at "calld") => `(tactic| first
  | fail "calld")
local macro_rules | `(tactic| walk_at "kit") => `(tactic| first
  | assumption
  | exact kit_ii
  | exact kit_ib
  | exact kit_bi
  | exact kit_bb
  | exact kit_li
  | exact kit_ll
  | exact kit_tt
  | exact kit_tl
  | exact kit_lt
  | exact kit_tb)
local macro_rules | `(tactic| walk_at "ns") => `(tactic| first
  | exact fun _ _ => rfl)
local macro_rules | `(tactic| walk_at "jv") => `(tactic| first
  | exact jv_int
  | exact jv_bl
  | exact jv_non
  | exact jv_str
  | walk_at "var"
  | (apply jv_add; walk_at "jv"; walk_at "jv")
  | (apply jv_sub; walk_at "jv"; walk_at "jv")
  | (apply jv_neg; walk_at "jv")
  | (apply jv_mul; walk_at "jv"; walk_at "jv"; walk_at "mulok")
  | (apply jv_fdiv; walk_at "jv"; walk_at "jv"; walk_at "divok")
  | (apply jv_mod; walk_at "jv"; walk_at "jv"; walk_at "side")
  | (apply jv_band; walk_at "jv"; walk_at "jv")
  | (apply jv_cmp; walk_at "jo"; (first | exact rfl | exact nomark _))
  | (apply jv_chain op_le op_le; walk_at "jv"; walk_at "jv"; walk_at "jv"; with_unfolding_all rfl)
  | (apply jv_chain op_le op_lt; walk_at "jv"; walk_at "jv"; walk_at "jv"; with_unfolding_all rfl)
  | (apply jv_and; walk_at "jv"; intro hand; walk_at "jv")
  | (apply jv_or; walk_at "jv"; intro hor; walk_at "jv")
  | (apply jv_not; walk_at "jv")
  | (apply jv_one; walk_at "jv")
  | (apply jv_lenM; walk_at "bm"; walk_at "jd"; exact rfl; walk_at "ns")
  | (apply jv_len; walk_at "bm"; walk_at "jd"; exact rfl; walk_at "ns")
  | (apply jv_all; exact rfl; walk_at "bm"; walk_at "jd"; exact rfl; decide +kernel; walk_at "ns")
  | (apply jv_any; exact rfl; walk_at "bm"; walk_at "jd"; exact rfl; decide +kernel; walk_at "ns")
  | (apply jv_lenT; walk_at "bm"; walk_at "jd"; exact rfl; walk_at "ns")
  | walk_at "call"
  | (apply jv_isi; (first | exact boot_tint | exact boot_tbool | exact boot_tlist | exact boot_ttuple); walk_at "bm"; walk_at "bm"; walk_at "jd"; walk_at "kit"; exact rfl; exact rfl; exact boot_isi; walk_at "ns"; decide; decide)
  | (apply jv_lenSet; exact rfl; walk_at "bm"; walk_at "bm"; walk_at "jd"; walk_at "side"; exact rfl; exact rfl; walk_at "ns")
  | (apply jv_ifE; walk_at "jt"; intro hif; walk_at "jv"; intro hif; walk_at "jv")
  | (apply JD.toI; walk_at "jx")
  | (apply JD.toB; walk_at "jx")
  | (apply JD.toS; walk_at "jx"))
local macro_rules | `(tactic| walk_at "mulok") => `(tactic| first
  | exact Or.inr ⟨by decide, by decide⟩
  | exact Or.inl ⟨by decide, by decide⟩
  | exact Or.inl ⟨by omega, by omega⟩
  | exact Or.inr ⟨by omega, by omega⟩)
local macro_rules | `(tactic| walk_at "divok") => `(tactic| first
  | exact ⟨by decide, by decide⟩
  | exact ⟨by omega, by omega⟩)
local macro_rules | `(tactic| walk_at "jx") => `(tactic| first
  | (apply jd_ixN; walk_at "jd"; walk_at "jv"; exact fun _ _ => rfl; walk_at "side")
  | (apply jd_ixNs; walk_at "jd"; walk_at "jv"; exact fun _ _ => rfl; walk_at "side")
  | (apply jd_ixP; walk_at "jd"; walk_at "jv"; exact fun _ _ => rfl; walk_at "side")
  | (apply jd_ixPs; walk_at "jd"; walk_at "jv"; exact fun _ _ => rfl; walk_at "side")
  | (apply jd_ixI; walk_at "jd"; walk_at "jv"; exact fun _ _ => rfl; walk_at "side")
  | (apply jd_ixP1; walk_at "jd")
  | (apply jd_ixP2; walk_at "jd")
  | walk_at "calld")
local macro_rules | `(tactic| walk_at "jd") => `(tactic| first
  | (apply JV.toD; walk_at "var"; walk_at "dp")
  | walk_at "jx"
  | (apply jd_list; walk_at "jad"; exact Nat.le_of_ble_eq_true rfl)
  | (apply jd_tuple; walk_at "jad"; exact Nat.le_of_ble_eq_true rfl)
  | (apply jd_listOf; walk_at "bm"; walk_at "jd"; exact rfl; exact boot_tlist; walk_at "ns")
  | (apply JV.toD (v := V.int _); walk_at "jv"; exact Dx.int _)
  | (apply JV.toD (v := V.bl _); walk_at "jv"; exact Dx.bl _)
  | (apply JV.toD (v := V.str _); walk_at "jv"; exact Dx.str _)
  | (apply jd_ifE; walk_at "jt"; intro hif; walk_at "jd"; intro hif; walk_at "jd"))
local macro_rules | `(tactic| walk_at "jad") => `(tactic| first
  | exact jad_nil
  | (apply jad_cons; walk_at "jd"; walk_at "jad"; walk_at "ns"))
local macro_rules | `(tactic| walk_at "jo") => `(tactic| first
  | (apply jo_isN; walk_at "jv")
  | (apply jo_notN; walk_at "jv")
  | (apply jo_eqI; walk_at "jv"; walk_at "jv")
  | (apply jo_neI; walk_at "jv"; walk_at "jv")
  | (apply jo_lt; walk_at "jv"; walk_at "jv")
  | (apply jo_le; walk_at "jv"; walk_at "jv")
  | (apply jo_gt; walk_at "jv"; walk_at "jv")
  | (apply jo_ge; walk_at "jv"; walk_at "jv")
  | (apply jo_inN; walk_at "hu"; walk_at "jv"; walk_at "jd")
  | (apply jo_niN; walk_at "hu"; walk_at "jv"; walk_at "jd")
  | (apply jo_eqD; walk_at "hu"; walk_at "jd"; walk_at "jd"; walk_at "shp"; walk_at "shp")
  | (apply jo_neD; walk_at "hu"; walk_at "jd"; walk_at "jd"; walk_at "shp"; walk_at "shp"))
local macro_rules | `(tactic| walk_at "shp") => `(tactic| first
  | assumption
  | exact Shp.shaped eLL _
  | exact Shp.shaped ePs _
  | exact Shp.shaped eNs _
  | exact Shp.shaped ePss _
  | exact Shp.shaped eP _
  | exact Shp.shaped eN _
  | exact Shp.shaped eI _
  | decide)
local macro_rules | `(tactic| walk_at "jw") => `(tactic| first
  | (apply jw_one_and; walk_at "jt")
  | (apply jw_one_or; walk_at "jt")
  | (apply jw_and; walk_at "jt"; intro hand; walk_at "jw")
  | (apply jw_or; walk_at "jt"; intro hor; walk_at "jw"))
local macro_rules | `(tactic| walk_at "jt") => `(tactic| first
  | (apply jt_w; walk_at "jw")
  | (apply jt_cmp; walk_at "jo"; (first | exact rfl | exact nomark _))
  | (apply jt_not; walk_at "jt")
  | (apply jt_val; walk_at "jv"; exact fun _ => rfl)
  | (apply jt_chain op_le op_le; walk_at "jv"; walk_at "jv"; walk_at "jv"; with_unfolding_all rfl))
local macro_rules | `(tactic| walk_at "camp") => `(tactic| first | assumption | (refine' CampAt.mono ?_ (by assumption); walk_at "ex"))
local macro_rules | `(tactic| walk_at "calld") => `(tactic| first
  | (apply jd_told; assumption; walk_at "var"; walk_at "camp"; exact rfl)
  | walk_at "calld2")
local macro_rules | `(tactic| walk_at "calld2") => `(tactic| first
  | fail "calld2")
local macro_rules | `(tactic| walk_at "room") => `(tactic| first
  | assumption
  | exact Room.mono (by assumption) (by decide))
local macro_rules | `(tactic| walk_at "bm") => `(tactic| first
  | assumption
  | exact Tx.len (by assumption)
  | exact Tx.range (by assumption)
  | exact Tx.list (by assumption)
  | exact Tx.all (by assumption)
  | exact Tx.any (by assumption)
  | exact Tx.isi (by assumption)
  | exact Tx.int (by assumption)
  | exact Tx.bool (by assumption)
  | exact Tx.set (by assumption)
  | exact Tx.tup (by assumption))
local macro_rules | `(tactic| walk_at "call") => `(tactic| first
  | (apply jv_size; assumption; walk_at "var"; walk_at "camp"; exact rfl)
  | (apply jv_index; walk_at "hu"; walk_at "jd"; walk_at "jv"; walk_at "side"; walk_at "ns"; exact rfl; exact rfl; exact rfl)
  | (apply jv_would; assumption; assumption; walk_at "room"; walk_at "var"; walk_at "camp"; walk_at "jv"; walk_at "jv"; walk_at "side"; walk_at "side"; walk_at "ns"; walk_at "ns"; exact rfl; exact rfl)
  | walk_at "call2")
local macro_rules | `(tactic| walk_at "call2") => `(tactic| first
  | fail "call2")
local macro_rules | `(tactic| walk_at "call2") => `(tactic| first
  | (apply jv_cell; assumption; walk_at "room"; walk_at "var"; assumption; walk_at "jv"; exact rfl; walk_at "ns"; walk_at "ns"; exact rfl)
  | (apply jv_draw; assumption; walk_at "room"; walk_at "jv"; walk_at "jv"; walk_at "jv"; walk_at "side"; exact rfl; walk_at "ns"; walk_at "ns"; walk_at "ns"; exact rfl)
  | (apply jv_Lwould; assumption; walk_at "room"; walk_at "jd"; walk_at "jv"; walk_at "jv"; walk_at "side"; walk_at "side"; exact rfl; walk_at "ns"; walk_at "ns"; walk_at "ns"; exact rfl)
  | (apply jv_Lrather; assumption; walk_at "room"; walk_at "jd"; walk_at "jv"; walk_at "jv"; walk_at "jv"; walk_at "side"; walk_at "side"; exact rfl; walk_at "ns"; walk_at "ns"; walk_at "ns"; walk_at "ns"; exact rfl)
  | walk_at "call3")
local macro_rules | `(tactic| walk_at "call3") => `(tactic| first
  | fail "call3")
theorem openPairs_len {L : List (List Nat)} (hL : L.length ≤ 6) : (openPairs L).length ≤ 36 := by
  have a4 := len_flatMap (f := openRow L) (n := L.length) (List.range L.length) fun y _ => openRow_len L y
  have a5 : (List.range L.length).length * L.length ≤ 6 * 6 := Nat.mul_le_mul (by rw [List.length_range]; exact hL) hL
  exact Nat.le_trans a4 a5
def haveGo (L : List (List Nat)) : List (Nat × Nat) → List Nat → List Nat
  | [], m => m
  | p :: ps, m => if (decide (m.getD p.1 0 = p.1) && decide (m.getD p.2 0 = p.2)) = true ∧ would L p.1 p.2 = true then haveGo L ps (matesStep m p) else []
def haveL (L : List (List Nat)) (ps : List (Nat × Nat)) : List Nat := haveGo L ps (List.range L.length)
section
variable {P : Program} {w : World} {K : PySem.W.Frag} {mg : Str → Option Value} {base : Heap} {C : Addr}
abbrev spLO : Sp := spOfN (fun i : List (List Nat) => i.length ≤ 6) (fun i => [kD (eLL i)]) (fun i => (openPairs i).map eP)
theorem ok_Lopen {f : Addr} {fd : FuncData} (F : Fun K "_law_open" "_law_open" s_L_open f fd) (T : Tx K mg C) (W : Df P w K mg base "_law_would" 1 spLW) : FnOk P w K mg base CX0 2 f fd ["_law_lists_here"] spLO := by
  refine fun_okN F sc_L_open (fun _ => rfl) ?_
  rintro cdv A outer s H vs Q E L G hr hL al h k
  obtain ⟨lv, rfl, hL2⟩ := al.one
  try dsimp only at hL hL2 k ⊢
  have nd := sc_L_open.nd
  refine b_setN (n := 1) h nd rfl (by walk_at "loc") (Or.inl rfl) (fun H1 l h1 => ?_)
  refine b_for h1 (f := eN) (xs := List.range L.length) (ji_range1 T.range (by walk_at "jv") (by omega) rfl (by walk_at "ns")) PassesOwn.never rfl (fun _ => rfl) (fun G1 H2 h2 e2 => ?_)
  refine ⟨fun pre σ' G' H' => ∃ ws o1 o2, σ' = [some lv, some (.ref l), o1, o2] ∧ Hs G H G' H' [(l, .lst ws)] ∧ Ex G1 G' ∧ DxAll G' ws ((pre.flatMap (openRow L)).map eP), ?_, ?_, ?_, ?_⟩
  · exact ⟨[], none, none, rfl, h2, Ex.refl _, .nil⟩
  · rintro pre σ' G' H' ⟨ws, o1, o2, rfl, hs, e, _⟩
    exact ⟨e, hs.ex⟩
  · rintro pre x post v σ' G' H' hxs ⟨ws, o1, o2, rfl, hs, e, hd⟩ pv
    cases pv
    have hx : x < L.length := by
      have : x ∈ List.range L.length := by rw [hxs]; simp
      simpa using this
    have hwl : ws.length ≤ 36 := by
      have a1 := hd.length
      have a4 := len_flatMap (f := openRow L) (n := L.length) pre fun y _ => openRow_len L y
      have a3 := congrArg List.length hxs
      rw [List.length_range, List.length_append] at a3
      have a5 : pre.length * L.length ≤ 6 * 6 := Nat.mul_le_mul (by omega) hL
      rw [List.length_map] at a1
      omega
    refine wg_name (n := 2) nd rfl (by walk_at "loc") (Or.inl rfl) ?_
    refine b_for hs (f := fun k : Nat => .int (((x : Int) + 1) + (k : Nat))) (xs := List.range (L.length - (x + 1))) (JI.is (ji_range2 T.range (by walk_at "jv") (by walk_at "jv") (by omega) (by omega) rfl (by walk_at "ns") (by walk_at "ns")) (by rw [show ((L.length : Int) - ((x : Int) + 1)).toNat = L.length - (x + 1) by omega])) PassesOwn.never rfl (fun _ => rfl) (fun G2 H3 h3 e3 => ?_)
    refine ⟨fun pr σ' G' H' => ∃ us o2, σ' = [some lv, some (.ref l), some (.int (x : Int)), o2] ∧ Hs G H G' H' [(l, .lst (ws ++ us))] ∧ Ex G2 G' ∧ DxAll G' us (((pr.filter (fun k => would L x (x + 1 + k))).map fun k => (x, x + 1 + k)).map eP), ?_, ?_, ?_, ?_⟩
    · exact ⟨[], o2, rfl, by rw [List.append_nil]; exact h3, Ex.refl _, .nil⟩
    · rintro pr σ' G' H' ⟨us, o2, rfl, hs, e, _⟩
      exact ⟨e, hs.ex⟩
    · rintro pr y po v σ' G3 H4 hys ⟨us, o2, rfl, hs3, e4, hd3⟩ pv
      cases pv
      have hy : y < L.length - (x + 1) := by
        have : y ∈ List.range (L.length - (x + 1)) := by rw [hys]; simp
        simpa using this
      have e5 : (x : Int) + 1 + (y : Int) = ((x + 1 + y : Nat) : Int) := by omega
      rw [e5]
      refine wg_name (n := 3) nd rfl (by walk_at "loc") (Or.inl rfl) ?_
      refine b_if (p := would L x (x + 1 + y)) hs3 (by walk_at "jt") (fun hb H5 h5 => ?_) (fun hb H5 h5 => ?_)
      · refine b_append (n := 1) (d := eP (x, x + 1 + y)) h5 rfl rfl (by walk_at "vis") (by walk_at "jd") ?_ rfl rfl (by walk_at "ns") rfl rfl rfl rfl (fun G6 H6 v6 h6 e6 d6 => b_nil (b_nil ⟨G6, us ++ [v6], _, rfl, by rw [← List.append_assoc]; exact h6, e4.trans e6, ?_⟩))
        · have a1 := hd3.length
          have a2 := congrArg List.length hys
          rw [List.length_range, List.length_append, List.length_cons] at a2
          have a3 := List.length_filter_le (fun k => would L x (x + 1 + k)) pr
          rw [List.length_map, List.length_map] at a1
          rw [List.length_append]
          omega
        · rw [List.filter_append, List.filter_cons_of_pos (p := fun k => would L x (x + 1 + k)) hb, List.filter_nil, List.map_append, List.map_append]
          exact (hd3.mono e6).snoc d6
      · refine b_nil (b_nil ⟨G3, us, _, rfl, h5, e4, ?_⟩)
        rw [List.filter_append, List.filter_cons_of_neg (p := fun k => would L x (x + 1 + k)) (by rw [hb]; decide), List.filter_nil, List.append_nil]
        exact hd3
    · rintro σ' G3 H4 ⟨us, o2, rfl, hs3, e4, hd3⟩
      refine b_nil ⟨G3, ws ++ us, _, _, rfl, hs3, (e.trans e3).trans e4, ?_⟩
      rw [List.flatMap_append, List.map_append]
      refine (hd.mono (e3.trans e4)).append ?_
      have : [x].flatMap (openRow L) = openRow L x := by simp
      rw [this]
      exact hd3
  · rintro σ' G' H' ⟨ws, o1, o2, rfl, hs, e, hd⟩
    exact b_retOwn (n := 1) rfl rfl (by walk_at "vis") rfl rfl (k _ _ _ _ _ hs hd)
/-! ### what each has -/
abbrev spLH : Sp := spOfN (fun i : List (List Nat) × List (Nat × Nat) => i.1.length ≤ 6 ∧ ∀ p ∈ i.2, p.1 < i.1.length ∧ p.2 < i.1.length) (fun i => [kD (eLL i.1), kD (ePs i.2)]) (fun i => (haveL i.1 i.2).map eN)
theorem ok_Lhave {f : Addr} {fd : FuncData} (F : Fun K "_law_have" "_law_have" s_L_have f fd) (T : Tx K mg C) (W : Df P w K mg base "_law_would" 1 spLW) {a1 a2 : Str} (h1 : (n_L_have.take 2) = [a1, a2]) : FnOk P w K mg base CX0 2 f fd [a1, a2] spLH := by
  cases h1
  refine fun_okN F sc_L_have (fun _ => rfl) ?_
  rintro cdv A outer s H vs Q E ⟨L, ps⟩ G hr ⟨hL, hps⟩ al h k
  obtain ⟨lv, pv, rfl, hL2, hp⟩ := al.two
  try dsimp only at hL hps hL2 hp k ⊢
  have nd := sc_L_have.nd
  refine b_setNw (n := 2) h (jn_listRg rfl T.list T.range (by walk_at "jv") (by omega) rfl rfl (by walk_at "ns")) nd rfl (by walk_at "loc") rfl (Or.inl rfl) (fun G1 H1 l vs h1 e1 hd1 => ?_)
  refine b_for h1 (f := eP) (xs := ps) (ji_list (by walk_at "jd")) PassesOwn.never rfl (fun _ => rfl) (fun G2 H2 h2 e2 => ?_)
  refine ⟨fun pre σ' G' H' => ∃ ws o1 o2 o3, σ' = [some lv, some pv, some (.ref l), o1, o2, o3] ∧ Hs G H G' H' [(l, .lst ws)] ∧ Ex G2 G' ∧ DxAll G' ws ((pre.foldl matesStep (List.range L.length)).map eN) ∧ (∀ post, haveL L (pre ++ post) = haveGo L post (pre.foldl matesStep (List.range L.length))), ?_, ?_, ?_, ?_⟩
  · exact ⟨vs, none, none, none, rfl, h2, Ex.refl _, hd1.mono e2, fun _ => rfl⟩
  · rintro pre σ' G' H' ⟨ws, o1, o2, o3, rfl, hs, e, _⟩
    exact ⟨e, hs.ex⟩
  · rintro pre x post v σ' G' H' hxs ⟨ws, o1, o2, o3, rfl, hs, e, hd, hgo⟩ pv2
    obtain ⟨t, rfl, ht⟩ := pv2.pair
    obtain ⟨x1, x2⟩ := hps x (by rw [hxs]; simp)
    have hm : (pre.foldl matesStep (List.range L.length)).length = L.length := by rw [foldl_mates_len, List.length_range]
    have hl : ws.length = L.length := by rw [hd.length, List.length_map, hm]
    generalize hmm : pre.foldl matesStep (List.range L.length) = m at *
    refine wg_pair (n := 3) (m := 4) rfl nd rfl (by walk_at "loc") (Or.inl rfl) rfl (by walk_at "loc") (Or.inl rfl) (SqT.of (hs.ex _ _ (e _ _ ht))) ?_ rfl rfl rfl rfl
    obtain ⟨eg, e5⟩ := hs.seen
    have hdm : Dx (upd G' l (.lst ws)) (.ref l) (eNs m) := .lst upd_same (hd.mono e5)
    have m1 : x.1 < m.length := by omega
    have m2 : x.2 < m.length := by omega
    refine b_setVG (n := 5) hs eg (v := .bl (decide (m.getD x.1 0 = x.1) && decide (m.getD x.2 0 = x.2))) (JV.is (by walk_at "jv") (by simp only [Int.ofNat_inj])) nd rfl (by walk_at "loc") rfl (Or.inl rfl) (fun H3 h3 => ?_)
    have hgo1 := hgo (x :: post)
    rw [← hxs] at hgo1
    refine b_if (p := !(decide (m.getD x.1 0 = x.1) && decide (m.getD x.2 0 = x.2)) || !would L x.1 x.2) h3 (by walk_at "jt") (fun hb H4 h4 => ?_) (fun hb H4 h4 => b_nil ?_)
    · refine b_retN (dss := []) h4 (jn_list jad_nil (Nat.zero_le _)) (fun G5 H5 q us h5 d5 => k _ _ _ _ _ h5 ?_)
      have : haveL L ps = [] := by
        rw [hgo1]
        unfold haveGo
        rw [if_neg]
        rintro ⟨z1, z2⟩
        rw [z1, z2] at hb
        cases hb
      rw [this]
      exact d5
    · have hb2 : (decide (m.getD x.1 0 = x.1) && decide (m.getD x.2 0 = x.2)) = true ∧ would L x.1 x.2 = true := by
        cases h1 : (decide (m.getD x.1 0 = x.1) && decide (m.getD x.2 0 = x.2)) <;> cases h2 : would L x.1 x.2 <;> rw [h1, h2] at hb <;> first | exact ⟨rfl, rfl⟩ | cases hb
      refine b_setItem (n := 2) (m := x.1) h4 (d := eN x.2) (by walk_at "jd") rfl rfl (by walk_at "vis") (by walk_at "jv") (by omega) rfl rfl rfl rfl rfl (pg_sub pe_w pe_w set_list) (fun G3 H5 v3 h5 e3 d3 => ?_)
      refine b_setItem (n := 2) (m := x.2) h5 (d := eN x.1) (by walk_at "jd") rfl rfl (by walk_at "vis") (by walk_at "jv") (by rw [List.length_set]; omega) rfl rfl rfl rfl rfl (pg_sub pe_w pe_w set_list) (fun G4 H6 v4 h6 e4 d4 => ?_)
      have ef : (pre ++ [x]).foldl matesStep (List.range L.length) = matesStep m x := by rw [List.foldl_append, hmm]; rfl
      refine b_nil ⟨G4, _, _, _, _, rfl, h6, (e.trans e3).trans e4, ?_, ?_⟩
      · rw [ef]
        unfold matesStep
        rw [List.map_set, List.map_set]
        exact (((hd.mono e3).set _ d3).mono e4).set _ d4
      · intro post2
        rw [ef, List.append_assoc, hgo]
        show haveGo L (x :: post2) m = _
        rw [show haveGo L (x :: post2) m = haveGo L post2 (matesStep m x) from by rw [haveGo, if_pos hb2]]
  · rintro σ' G' H' ⟨ws, o1, o2, o3, rfl, hs, e, hd, hgo⟩
    refine b_retOwn (n := 2) rfl rfl (by walk_at "vis") rfl rfl (k _ _ _ _ _ hs ?_)
    have := hgo []
    rw [List.append_nil] at this
    rw [this]
    exact hd
end
end TP

set_option Elab.async false
set_option linter.all false
set_option maxRecDepth 100000
set_option maxHeartbeats 2000000
namespace TP
open PySem PySem.Spec PyProof.Rows L2
open Evl (Ex)
-- tactics of this text: what an expression is worth (jv jd jt jo jw), growth (ex), what remains (side); call, calld: what the text adds
local macro_rules | `(tactic| walk_at "ex") => `(tactic| first | exact Ex.refl _ | assumption | (refine' Ex.trans ?_ (by assumption); walk_at "ex"))
local macro_rules | `(tactic| walk_at "vis") => `(tactic| first
  | exact Or.inl rfl
  | exact Or.inr (Or.inl rfl)
  | exact Or.inr (Or.inr rfl))
local macro_rules | `(tactic| walk_at "loc") => `(tactic| first
  | exact Or.inl rfl
  | exact Or.inr rfl)
local macro_rules | `(tactic| walk_at "side") => `(tactic| first
  | assumption
  | omega
  | decide
  | exact rfl
  | (simp_all; done)
  | (simp_all; omega))
local macro_rules | `(tactic| walk_at "hu") => `(tactic| first
  | exact room65 (by assumption)
  | exact Room.units (by assumption))
local macro_rules | `(tactic| walk_at "dp") => `(tactic| first | assumption | (refine' Dx.mono ?_ (by assumption); walk_at "ex"))
local macro_rules | `(tactic| walk_at "var") => `(tactic| first
  | (apply jv_var 0; exact rfl; exact rfl; walk_at "vis"; decide; decide)
  | (apply jv_var 1; exact rfl; exact rfl; walk_at "vis"; decide; decide)
  | (apply jv_var 2; exact rfl; exact rfl; walk_at "vis"; decide; decide)
  | (apply jv_var 3; exact rfl; exact rfl; walk_at "vis"; decide; decide)
  | (apply jv_var 4; exact rfl; exact rfl; walk_at "vis"; decide; decide)
  | (apply jv_var 5; exact rfl; exact rfl; walk_at "vis"; decide; decide)
  | (apply jv_var 6; exact rfl; exact rfl; walk_at "vis"; decide; decide)
  | (apply jv_var 7; exact rfl; exact rfl; walk_at "vis"; decide; decide)
  | (apply jv_var 8; exact rfl; exact rfl; walk_at "vis"; decide; decide)
  | (apply jv_var 9; exact rfl; exact rfl; walk_at "vis"; decide; decide)
  | (apply jv_var 10; exact rfl; exact rfl; walk_at "vis"; decide; decide)
  | (apply jv_var 11; exact rfl; exact rfl; walk_at "vis"; decide; decide)
  | (apply jv_var 12; exact rfl; exact rfl; walk_at "vis"; decide; decide)
  | (apply jv_var 13; exact rfl; exact rfl; walk_at "vis"; decide; decide)
  | (apply jv_var 14; exact rfl; exact rfl; walk_at "vis"; decide; decide)
  | (apply jv_var 15; exact rfl; exact rfl; walk_at "vis"; decide; decide)
  | (apply jv_var 16; exact rfl; exact rfl; walk_at "vis"; decide; decide)
  | (apply jv_var 17; exact rfl; exact rfl; walk_at "vis"; decide; decide)
  | (apply jv_var 18; exact rfl; exact rfl; walk_at "vis"; decide; decide)
  | (apply jv_var 19; exact rfl; exact rfl; walk_at "vis"; decide; decide))
local macro_rules | `(tactic| walk_at "bm") => `(tactic| first
  | assumption)
local macro_rules | `(tactic| walk_at "call") => `(tactic| first
  | fail "call")
local macro_rules | `(tactic| walk_at "calld") => `(tactic| first
  | fail "calld")
local macro_rules | `(tactic| walk_at "kit") => `(tactic| first
  | assumption
  | exact kit_ii
  | exact kit_ib
  | exact kit_bi
  | exact kit_bb
  | exact kit_li
  | exact kit_ll
  | exact kit_tt
  | exact kit_tl
  | exact kit_lt
  | exact kit_tb)
local macro_rules | `(tactic| walk_at "ns") => `(tactic| first
  | exact fun _ _ => rfl)
local macro_rules | `(tactic| walk_at "jv") => `(tactic| first
  | exact jv_int
  | exact jv_bl
  | exact jv_non
  | exact jv_str
  | walk_at "var"
  | (apply jv_add; walk_at "jv"; walk_at "jv")
  | (apply jv_sub; walk_at "jv"; walk_at "jv")
  | (apply jv_neg; walk_at "jv")
  | (apply jv_mul; walk_at "jv"; walk_at "jv"; walk_at "mulok")
  | (apply jv_fdiv; walk_at "jv"; walk_at "jv"; walk_at "divok")
  | (apply jv_mod; walk_at "jv"; walk_at "jv"; walk_at "side")
  | (apply jv_band; walk_at "jv"; walk_at "jv")
  | (apply jv_cmp; walk_at "jo"; (first | exact rfl | exact nomark _))
  | (apply jv_chain op_le op_le; walk_at "jv"; walk_at "jv"; walk_at "jv"; with_unfolding_all rfl)
  | (apply jv_chain op_le op_lt; walk_at "jv"; walk_at "jv"; walk_at "jv"; with_unfolding_all rfl)
  | (apply jv_and; walk_at "jv"; intro hand; walk_at "jv")
  | (apply jv_or; walk_at "jv"; intro hor; walk_at "jv")
  | (apply jv_not; walk_at "jv")
  | (apply jv_one; walk_at "jv")
  | (apply jv_lenM; walk_at "bm"; walk_at "jd"; exact rfl; walk_at "ns")
  | (apply jv_len; walk_at "bm"; walk_at "jd"; exact rfl; walk_at "ns")
  | (apply jv_all; exact rfl; walk_at "bm"; walk_at "jd"; exact rfl; decide +kernel; walk_at "ns")
  | (apply jv_any; exact rfl; walk_at "bm"; walk_at "jd"; exact rfl; decide +kernel; walk_at "ns")
  | (apply jv_lenT; walk_at "bm"; walk_at "jd"; exact rfl; walk_at "ns")
  | walk_at "call"
  | (apply jv_isi; (first | exact boot_tint | exact boot_tbool | exact boot_tlist | exact boot_ttuple); walk_at "bm"; walk_at "bm"; walk_at "jd"; walk_at "kit"; exact rfl; exact rfl; exact boot_isi; walk_at "ns"; decide; decide)
  | (apply jv_lenSet; exact rfl; walk_at "bm"; walk_at "bm"; walk_at "jd"; walk_at "side"; exact rfl; exact rfl; walk_at "ns")
  | (apply jv_ifE; walk_at "jt"; intro hif; walk_at "jv"; intro hif; walk_at "jv")
  | (apply JD.toI; walk_at "jx")
  | (apply JD.toB; walk_at "jx")
  | (apply JD.toS; walk_at "jx"))
local macro_rules | `(tactic| walk_at "mulok") => `(tactic| first
  | exact Or.inr ⟨by decide, by decide⟩
  | exact Or.inl ⟨by decide, by decide⟩
  | exact Or.inl ⟨by omega, by omega⟩
  | exact Or.inr ⟨by omega, by omega⟩)
local macro_rules | `(tactic| walk_at "divok") => `(tactic| first
  | exact ⟨by decide, by decide⟩
  | exact ⟨by omega, by omega⟩)
local macro_rules | `(tactic| walk_at "jx") => `(tactic| first
  | (apply jd_ixN; walk_at "jd"; walk_at "jv"; exact fun _ _ => rfl; walk_at "side")
  | (apply jd_ixNs; walk_at "jd"; walk_at "jv"; exact fun _ _ => rfl; walk_at "side")
  | (apply jd_ixP; walk_at "jd"; walk_at "jv"; exact fun _ _ => rfl; walk_at "side")
  | (apply jd_ixPs; walk_at "jd"; walk_at "jv"; exact fun _ _ => rfl; walk_at "side")
  | (apply jd_ixI; walk_at "jd"; walk_at "jv"; exact fun _ _ => rfl; walk_at "side")
  | (apply jd_ixP1; walk_at "jd")
  | (apply jd_ixP2; walk_at "jd")
  | walk_at "calld")
local macro_rules | `(tactic| walk_at "jd") => `(tactic| first
  | (apply JV.toD; walk_at "var"; walk_at "dp")
  | walk_at "jx"
  | (apply jd_list; walk_at "jad"; exact Nat.le_of_ble_eq_true rfl)
  | (apply jd_tuple; walk_at "jad"; exact Nat.le_of_ble_eq_true rfl)
  | (apply jd_listOf; walk_at "bm"; walk_at "jd"; exact rfl; exact boot_tlist; walk_at "ns")
  | (apply JV.toD (v := V.int _); walk_at "jv"; exact Dx.int _)
  | (apply JV.toD (v := V.bl _); walk_at "jv"; exact Dx.bl _)
  | (apply JV.toD (v := V.str _); walk_at "jv"; exact Dx.str _)
  | (apply jd_ifE; walk_at "jt"; intro hif; walk_at "jd"; intro hif; walk_at "jd"))
local macro_rules | `(tactic| walk_at "jad") => `(tactic| first
  | exact jad_nil
  | (apply jad_cons; walk_at "jd"; walk_at "jad"; walk_at "ns"))
local macro_rules | `(tactic| walk_at "jo") => `(tactic| first
  | (apply jo_isN; walk_at "jv")
  | (apply jo_notN; walk_at "jv")
  | (apply jo_eqI; walk_at "jv"; walk_at "jv")
  | (apply jo_neI; walk_at "jv"; walk_at "jv")
  | (apply jo_lt; walk_at "jv"; walk_at "jv")
  | (apply jo_le; walk_at "jv"; walk_at "jv")
  | (apply jo_gt; walk_at "jv"; walk_at "jv")
  | (apply jo_ge; walk_at "jv"; walk_at "jv")
  | (apply jo_inN; walk_at "hu"; walk_at "jv"; walk_at "jd")
  | (apply jo_niN; walk_at "hu"; walk_at "jv"; walk_at "jd")
  | (apply jo_eqD; walk_at "hu"; walk_at "jd"; walk_at "jd"; walk_at "shp"; walk_at "shp")
  | (apply jo_neD; walk_at "hu"; walk_at "jd"; walk_at "jd"; walk_at "shp"; walk_at "shp"))
local macro_rules | `(tactic| walk_at "shp") => `(tactic| first
  | assumption
  | exact Shp.shaped eLL _
  | exact Shp.shaped ePs _
  | exact Shp.shaped eNs _
  | exact Shp.shaped ePss _
  | exact Shp.shaped eP _
  | exact Shp.shaped eN _
  | exact Shp.shaped eI _
  | decide)
local macro_rules | `(tactic| walk_at "jw") => `(tactic| first
  | (apply jw_one_and; walk_at "jt")
  | (apply jw_one_or; walk_at "jt")
  | (apply jw_and; walk_at "jt"; intro hand; walk_at "jw")
  | (apply jw_or; walk_at "jt"; intro hor; walk_at "jw"))
local macro_rules | `(tactic| walk_at "jt") => `(tactic| first
  | (apply jt_w; walk_at "jw")
  | (apply jt_cmp; walk_at "jo"; (first | exact rfl | exact nomark _))
  | (apply jt_not; walk_at "jt")
  | (apply jt_val; walk_at "jv"; exact fun _ => rfl)
  | (apply jt_chain op_le op_le; walk_at "jv"; walk_at "jv"; walk_at "jv"; with_unfolding_all rfl))
local macro_rules | `(tactic| walk_at "camp") => `(tactic| first | assumption | (refine' CampAt.mono ?_ (by assumption); walk_at "ex"))
local macro_rules | `(tactic| walk_at "calld") => `(tactic| first
  | (apply jd_told; assumption; walk_at "var"; walk_at "camp"; exact rfl)
  | walk_at "calld2")
local macro_rules | `(tactic| walk_at "calld2") => `(tactic| first
  | fail "calld2")
local macro_rules | `(tactic| walk_at "room") => `(tactic| first
  | assumption
  | exact Room.mono (by assumption) (by decide))
local macro_rules | `(tactic| walk_at "bm") => `(tactic| first
  | assumption
  | exact Tx.len (by assumption)
  | exact Tx.range (by assumption)
  | exact Tx.list (by assumption)
  | exact Tx.all (by assumption)
  | exact Tx.any (by assumption)
  | exact Tx.isi (by assumption)
  | exact Tx.int (by assumption)
  | exact Tx.bool (by assumption)
  | exact Tx.set (by assumption)
  | exact Tx.tup (by assumption))
local macro_rules | `(tactic| walk_at "call") => `(tactic| first
  | (apply jv_size; assumption; walk_at "var"; walk_at "camp"; exact rfl)
  | (apply jv_index; walk_at "hu"; walk_at "jd"; walk_at "jv"; walk_at "side"; walk_at "ns"; exact rfl; exact rfl; exact rfl)
  | (apply jv_would; assumption; assumption; walk_at "room"; walk_at "var"; walk_at "camp"; walk_at "jv"; walk_at "jv"; walk_at "side"; walk_at "side"; walk_at "ns"; walk_at "ns"; exact rfl; exact rfl)
  | walk_at "call2")
local macro_rules | `(tactic| walk_at "call2") => `(tactic| first
  | fail "call2")
local macro_rules | `(tactic| walk_at "call2") => `(tactic| first
  | (apply jv_cell; assumption; walk_at "room"; walk_at "var"; assumption; walk_at "jv"; exact rfl; walk_at "ns"; walk_at "ns"; exact rfl)
  | (apply jv_draw; assumption; walk_at "room"; walk_at "jv"; walk_at "jv"; walk_at "jv"; walk_at "side"; exact rfl; walk_at "ns"; walk_at "ns"; walk_at "ns"; exact rfl)
  | (apply jv_Lwould; assumption; walk_at "room"; walk_at "jd"; walk_at "jv"; walk_at "jv"; walk_at "side"; walk_at "side"; exact rfl; walk_at "ns"; walk_at "ns"; walk_at "ns"; exact rfl)
  | (apply jv_Lrather; assumption; walk_at "room"; walk_at "jd"; walk_at "jv"; walk_at "jv"; walk_at "jv"; walk_at "side"; walk_at "side"; exact rfl; walk_at "ns"; walk_at "ns"; walk_at "ns"; walk_at "ns"; exact rfl)
  | walk_at "call3")
local macro_rules | `(tactic| walk_at "call3") => `(tactic| first
  | fail "call3")
section
variable {X : Cx} {σ : L2.St} {e o a b c : Expr} {es : List Expr} {G : Hp} {pos : Pos} {x : Str} {L : List (List Nat)} {ps : List (Nat × Nat)}
theorem jn_Lopen {ap : Pos} (M : Df X.prog X.w X.K X.mg X.base "_law_open" 2 spLO) (hr : Room 2 X.A) (ho : JD X σ o G (eLL L)) (hL : L.length ≤ 6) (hg : Gl X "_law_open") (no : NoStar o) (hpl : (backTo pos (starEach [] X.env)).any (·.1) = false) : JN X σ (.Call (.Name "_law_open" ap) [o] [] pos) G ((openPairs L).map eP) :=
  jn_call M hr hg L hL (jal_cons ho.toP mo_D (fun _ _ => jal_nil) no) no (by decide) hpl
theorem jn_Lhave {ap : Pos} (M : Df X.prog X.w X.K X.mg X.base "_law_have" 2 spLH) (hr : Room 2 X.A) (ho : JD X σ o G (eLL L)) (ha : JD X σ a G (ePs ps)) (hL : L.length ≤ 6) (hp : ∀ p ∈ ps, p.1 < L.length ∧ p.2 < L.length) (hg : Gl X "_law_have") (no : NoStar o) (na : NoStar a) (hpl : (backTo pos (starEach [a] X.env)).any (·.1) = false) : JN X σ (.Call (.Name "_law_have" ap) [o, a] [] pos) G ((haveL L ps).map eN) :=
  jn_call M hr hg (L, ps) ⟨hL, hp⟩ (jal_cons ho.toP mo_D (fun _ e => jal_cons (ha.mono e).toP mo_D (fun _ _ => jal_nil) na) no) no (by decide) hpl
end
section
variable {P : Program} {w : World} {K : PySem.W.Frag} {mg : Str → Option Value} {base : Heap} {C : Addr}
abbrev spLB : Sp := spOfN (fun i : List (List Nat) × List Nat => i.1.length ≤ 6 ∧ OkM i.1 i.2) (fun i => [kD (eLL i.1), kD (eNs i.2)]) (fun i => ((openPairs i.1).filter (blocks i.1 i.2)).map eP)
theorem ok_Lbroken {f : Addr} {fd : FuncData} (F : Fun K "_law_broken" "_law_broken" s_L_broken f fd) (T : Tx K mg C) (MO : Df P w K mg base "_law_open" 2 spLO) (MR : Df P w K mg base "_law_rather" 1 spLR) : FnOk P w K mg base CX0 3 f fd ["_law_lists_here", "_law_have_here"] spLB := by
  refine fun_okN F sc_L_broken (fun _ => rfl) ?_
  rintro cdv A outer s H vs Q E ⟨L, m⟩ G hr ⟨hL, okm⟩ al h k
  obtain ⟨lv, mv, rfl, hL2, hm⟩ := al.two
  try dsimp only at hL okm hL2 hm k ⊢
  have nd := sc_L_broken.nd
  have ml := okm.1
  refine b_setN (n := 2) h nd rfl (by walk_at "loc") (Or.inl rfl) (fun H3 l h3 => ?_)
  refine b_for h3 (f := eP) (xs := openPairs L) (ji_list (JN.toD (jn_Lopen MO (hr.mono (by decide)) (by walk_at "jd") hL rfl (by walk_at "ns") rfl))) PassesOwn.never rfl (fun _ => rfl) (fun G3 H4 h4 e3 => ?_)
  refine ⟨fun pre σ' G' H' => ∃ ws o1 o2 o3, σ' = [some lv, some mv, some (.ref l), o1, o2, o3] ∧ Hs G H G' H' [(l, .lst ws)] ∧ Ex G3 G' ∧ DxAll G' ws ((pre.filter (blocks L m)).map eP), ?_, ?_, ?_, ?_⟩
  · exact ⟨[], none, none, none, rfl, h4, Ex.refl _, .nil⟩
  · rintro pre σ' G' H' ⟨ws, o1, o2, o3, rfl, hs, e, _⟩
    exact ⟨e, hs.ex⟩
  · rintro pre x post v σ' G' H' hxs ⟨ws, o1, o2, o3, rfl, hs, e, hd⟩ pv2
    obtain ⟨t, rfl, ht⟩ := pv2.pair
    have hx : x ∈ openPairs L := by rw [hxs]; simp
    obtain ⟨x1, x2, hw⟩ := mem_open.mp hx
    have x3 : x.1 < L.length := by omega
    have r1 := rather_ok okm x3 hw
    have r2 := rather_ok okm x2 (by rw [would_symm]; exact hw)
    have m1 : x.1 < m.length := by omega
    have m2 : x.2 < m.length := by omega
    refine wg_pair (n := 3) (m := 4) rfl nd rfl (by walk_at "loc") (Or.inl rfl) rfl (by walk_at "loc") (Or.inl rfl) (SqT.of (hs.ex _ _ (e _ _ ht))) ?_ rfl rfl rfl rfl
    refine b_setV (n := 5) hs (v := .bl (rather L x.1 x.2 (m.getD x.1 0))) (by walk_at "jv") nd rfl (by walk_at "loc") rfl (Or.inl rfl) (fun H4 h4 => ?_)
    refine b_if (p := blocks L m x) h4 (by unfold blocks; walk_at "jt") (fun hb H5 h5 => ?_) (fun hb H5 h5 => ?_)
    · refine b_append (n := 2) (d := eP x) h5 rfl rfl (by walk_at "vis") (by walk_at "jd") ?_ rfl rfl (by walk_at "ns") rfl rfl rfl rfl (fun G6 H6 v6 h6 e6 d6 => b_nil (b_nil ⟨G6, _, _, _, _, rfl, h6, e.trans e6, ?_⟩))
      · have a1 := hd.length
        have a2 := congrArg List.length hxs
        rw [List.length_append, List.length_cons] at a2
        have a3 := List.length_filter_le (blocks L m) pre
        have a6 := openPairs_len hL
        rw [List.length_map] at a1
        omega
      · rw [List.filter_append, List.filter_cons_of_pos hb, List.filter_nil, List.map_append]
        exact (hd.mono e6).snoc d6
    · refine b_nil (b_nil ⟨G', ws, _, _, _, rfl, h5, e, ?_⟩)
      rw [List.filter_append, List.filter_cons_of_neg (by rw [hb]; decide), List.filter_nil, List.append_nil]
      exact hd
  · rintro σ' G' H' ⟨ws, o1, o2, o3, rfl, hs, e, hd⟩
    exact b_retOwn (n := 2) rfl rfl (by walk_at "vis") rfl rfl (k _ _ _ _ _ hs hd)
/-! ### whole numbers -/
def IntsD (d : PyData) : Prop := ∃ ns : List Nat, ns.length ≤ 1000 ∧ (d = .list (ns.map eN) ∨ d = .tuple (ns.map eN))
abbrev spLWh : Sp := spOf (fun ds : List PyData => ∀ d ∈ ds, IntsD d) (fun ds => [kD (.list ds)]) (fun _ => kB true)
end
end TP

set_option Elab.async false
set_option linter.all false
set_option maxRecDepth 100000
set_option maxHeartbeats 2000000
namespace TP
open PySem PySem.Spec PyProof.Rows L2
open Evl (Ex)
-- tactics of this text: what an expression is worth (jv jd jt jo jw), growth (ex), what remains (side); call, calld: what the text adds
local macro_rules | `(tactic| walk_at "ex") => `(tactic| first | exact Ex.refl _ | assumption | (refine' Ex.trans ?_ (by assumption); walk_at "ex"))
local macro_rules | `(tactic| walk_at "vis") => `(tactic| first
  | exact Or.inl rfl
  | exact Or.inr (Or.inl rfl)
  | exact Or.inr (Or.inr rfl))
local macro_rules | `(tactic| walk_at "loc") => `(tactic| first
  | exact Or.inl rfl
  | exact Or.inr rfl)
local macro_rules | `(tactic| walk_at "side") => `(tactic| first
  | assumption
  | omega
  | decide
  | exact rfl
  | (simp_all; done)
  | (simp_all; omega))
local macro_rules | `(tactic| walk_at "hu") => `(tactic| first
  | exact room65 (by assumption)
  | exact Room.units (by assumption))
local macro_rules | `(tactic| walk_at "dp") => `(tactic| first | assumption | (refine' Dx.mono ?_ (by assumption); walk_at "ex"))
local macro_rules | `(tactic| walk_at "var") => `(tactic| first
  | (apply jv_var 0; exact rfl; exact rfl; walk_at "vis"; decide; decide)
  | (apply jv_var 1; exact rfl; exact rfl; walk_at "vis"; decide; decide)
  | (apply jv_var 2; exact rfl; exact rfl; walk_at "vis"; decide; decide)
  | (apply jv_var 3; exact rfl; exact rfl; walk_at "vis"; decide; decide)
  | (apply jv_var 4; exact rfl; exact rfl; walk_at "vis"; decide; decide)
  | (apply jv_var 5; exact rfl; exact rfl; walk_at "vis"; decide; decide)
  | (apply jv_var 6; exact rfl; exact rfl; walk_at "vis"; decide; decide)
  | (apply jv_var 7; exact rfl; exact rfl; walk_at "vis"; decide; decide)
  | (apply jv_var 8; exact rfl; exact rfl; walk_at "vis"; decide; decide)
  | (apply jv_var 9; exact rfl; exact rfl; walk_at "vis"; decide; decide)
  | (apply jv_var 10; exact rfl; exact rfl; walk_at "vis"; decide; decide)
  | (apply jv_var 11; exact rfl; exact rfl; walk_at "vis"; decide; decide)
  | (apply jv_var 12; exact rfl; exact rfl; walk_at "vis"; decide; decide)
  | (apply jv_var 13; exact rfl; exact rfl; walk_at "vis"; decide; decide)
  | (apply jv_var 14; exact rfl; exact rfl; walk_at "vis"; decide; decide)
  | (apply jv_var 15; exact rfl; exact rfl; walk_at "vis"; decide; decide)
  | (apply jv_var 16; exact rfl; exact rfl; walk_at "vis"; decide; decide)
  | (apply jv_var 17; exact rfl; exact rfl; walk_at "vis"; decide; decide)
  | (apply jv_var 18; exact rfl; exact rfl; walk_at "vis"; decide; decide)
  | (apply jv_var 19; exact rfl; exact rfl; walk_at "vis"; decide; decide))
local macro_rules | `(tactic| walk_at "bm") => `(tactic| first
  | assumption)
local macro_rules | `(tactic| walk_at "call") => `(tactic| first
  | fail "call")
local macro_rules | `(tactic| walk_at "calld") => `(tactic| first
  | fail "calld")
local macro_rules | `(tactic| walk_at "kit") => `(tactic| first
  | assumption
  | exact kit_ii
  | exact kit_ib
  | exact kit_bi
  | exact kit_bb
  | exact kit_li
  | exact kit_ll
  | exact kit_tt
  | exact kit_tl
  | exact kit_lt
  | exact kit_tb)
local macro_rules | `(tactic| walk_at "ns") => `(tactic| first
  | exact fun _ _ => rfl)
local macro_rules | `(tactic| walk_at "jv") => `(tactic| first
  | exact jv_int
  | exact jv_bl
  | exact jv_non
  | exact jv_str
  | walk_at "var"
  | (apply jv_add; walk_at "jv"; walk_at "jv")
  | (apply jv_sub; walk_at "jv"; walk_at "jv")
  | (apply jv_neg; walk_at "jv")
  | (apply jv_mul; walk_at "jv"; walk_at "jv"; walk_at "mulok")
  | (apply jv_fdiv; walk_at "jv"; walk_at "jv"; walk_at "divok")
  | (apply jv_mod; walk_at "jv"; walk_at "jv"; walk_at "side")
  | (apply jv_band; walk_at "jv"; walk_at "jv")
  | (apply jv_cmp; walk_at "jo"; (first | exact rfl | exact nomark _))
  | (apply jv_chain op_le op_le; walk_at "jv"; walk_at "jv"; walk_at "jv"; with_unfolding_all rfl)
  | (apply jv_chain op_le op_lt; walk_at "jv"; walk_at "jv"; walk_at "jv"; with_unfolding_all rfl)
  | (apply jv_and; walk_at "jv"; intro hand; walk_at "jv")
  | (apply jv_or; walk_at "jv"; intro hor; walk_at "jv")
  | (apply jv_not; walk_at "jv")
  | (apply jv_one; walk_at "jv")
  | (apply jv_lenM; walk_at "bm"; walk_at "jd"; exact rfl; walk_at "ns")
  | (apply jv_len; walk_at "bm"; walk_at "jd"; exact rfl; walk_at "ns")
  | (apply jv_all; exact rfl; walk_at "bm"; walk_at "jd"; exact rfl; decide +kernel; walk_at "ns")
  | (apply jv_any; exact rfl; walk_at "bm"; walk_at "jd"; exact rfl; decide +kernel; walk_at "ns")
  | (apply jv_lenT; walk_at "bm"; walk_at "jd"; exact rfl; walk_at "ns")
  | walk_at "call"
  | (apply jv_isi; (first | exact boot_tint | exact boot_tbool | exact boot_tlist | exact boot_ttuple); walk_at "bm"; walk_at "bm"; walk_at "jd"; walk_at "kit"; exact rfl; exact rfl; exact boot_isi; walk_at "ns"; decide; decide)
  | (apply jv_lenSet; exact rfl; walk_at "bm"; walk_at "bm"; walk_at "jd"; walk_at "side"; exact rfl; exact rfl; walk_at "ns")
  | (apply jv_ifE; walk_at "jt"; intro hif; walk_at "jv"; intro hif; walk_at "jv")
  | (apply JD.toI; walk_at "jx")
  | (apply JD.toB; walk_at "jx")
  | (apply JD.toS; walk_at "jx"))
local macro_rules | `(tactic| walk_at "mulok") => `(tactic| first
  | exact Or.inr ⟨by decide, by decide⟩
  | exact Or.inl ⟨by decide, by decide⟩
  | exact Or.inl ⟨by omega, by omega⟩
  | exact Or.inr ⟨by omega, by omega⟩)
local macro_rules | `(tactic| walk_at "divok") => `(tactic| first
  | exact ⟨by decide, by decide⟩
  | exact ⟨by omega, by omega⟩)
local macro_rules | `(tactic| walk_at "jx") => `(tactic| first
  | (apply jd_ixN; walk_at "jd"; walk_at "jv"; exact fun _ _ => rfl; walk_at "side")
  | (apply jd_ixNs; walk_at "jd"; walk_at "jv"; exact fun _ _ => rfl; walk_at "side")
  | (apply jd_ixP; walk_at "jd"; walk_at "jv"; exact fun _ _ => rfl; walk_at "side")
  | (apply jd_ixPs; walk_at "jd"; walk_at "jv"; exact fun _ _ => rfl; walk_at "side")
  | (apply jd_ixI; walk_at "jd"; walk_at "jv"; exact fun _ _ => rfl; walk_at "side")
  | (apply jd_ixP1; walk_at "jd")
  | (apply jd_ixP2; walk_at "jd")
  | walk_at "calld")
local macro_rules | `(tactic| walk_at "jd") => `(tactic| first
  | (apply JV.toD; walk_at "var"; walk_at "dp")
  | walk_at "jx"
  | (apply jd_list; walk_at "jad"; exact Nat.le_of_ble_eq_true rfl)
  | (apply jd_tuple; walk_at "jad"; exact Nat.le_of_ble_eq_true rfl)
  | (apply jd_listOf; walk_at "bm"; walk_at "jd"; exact rfl; exact boot_tlist; walk_at "ns")
  | (apply JV.toD (v := V.int _); walk_at "jv"; exact Dx.int _)
  | (apply JV.toD (v := V.bl _); walk_at "jv"; exact Dx.bl _)
  | (apply JV.toD (v := V.str _); walk_at "jv"; exact Dx.str _)
  | (apply jd_ifE; walk_at "jt"; intro hif; walk_at "jd"; intro hif; walk_at "jd"))
local macro_rules | `(tactic| walk_at "jad") => `(tactic| first
  | exact jad_nil
  | (apply jad_cons; walk_at "jd"; walk_at "jad"; walk_at "ns"))
local macro_rules | `(tactic| walk_at "jo") => `(tactic| first
  | (apply jo_isN; walk_at "jv")
  | (apply jo_notN; walk_at "jv")
  | (apply jo_eqI; walk_at "jv"; walk_at "jv")
  | (apply jo_neI; walk_at "jv"; walk_at "jv")
  | (apply jo_lt; walk_at "jv"; walk_at "jv")
  | (apply jo_le; walk_at "jv"; walk_at "jv")
  | (apply jo_gt; walk_at "jv"; walk_at "jv")
  | (apply jo_ge; walk_at "jv"; walk_at "jv")
  | (apply jo_inN; walk_at "hu"; walk_at "jv"; walk_at "jd")
  | (apply jo_niN; walk_at "hu"; walk_at "jv"; walk_at "jd")
  | (apply jo_eqD; walk_at "hu"; walk_at "jd"; walk_at "jd"; walk_at "shp"; walk_at "shp")
  | (apply jo_neD; walk_at "hu"; walk_at "jd"; walk_at "jd"; walk_at "shp"; walk_at "shp"))
local macro_rules | `(tactic| walk_at "shp") => `(tactic| first
  | assumption
  | exact Shp.shaped eLL _
  | exact Shp.shaped ePs _
  | exact Shp.shaped eNs _
  | exact Shp.shaped ePss _
  | exact Shp.shaped eP _
  | exact Shp.shaped eN _
  | exact Shp.shaped eI _
  | decide)
local macro_rules | `(tactic| walk_at "jw") => `(tactic| first
  | (apply jw_one_and; walk_at "jt")
  | (apply jw_one_or; walk_at "jt")
  | (apply jw_and; walk_at "jt"; intro hand; walk_at "jw")
  | (apply jw_or; walk_at "jt"; intro hor; walk_at "jw"))
local macro_rules | `(tactic| walk_at "jt") => `(tactic| first
  | (apply jt_w; walk_at "jw")
  | (apply jt_cmp; walk_at "jo"; (first | exact rfl | exact nomark _))
  | (apply jt_not; walk_at "jt")
  | (apply jt_val; walk_at "jv"; exact fun _ => rfl)
  | (apply jt_chain op_le op_le; walk_at "jv"; walk_at "jv"; walk_at "jv"; with_unfolding_all rfl))
local macro_rules | `(tactic| walk_at "camp") => `(tactic| first | assumption | (refine' CampAt.mono ?_ (by assumption); walk_at "ex"))
local macro_rules | `(tactic| walk_at "calld") => `(tactic| first
  | (apply jd_told; assumption; walk_at "var"; walk_at "camp"; exact rfl)
  | walk_at "calld2")
local macro_rules | `(tactic| walk_at "calld2") => `(tactic| first
  | fail "calld2")
local macro_rules | `(tactic| walk_at "room") => `(tactic| first
  | assumption
  | exact Room.mono (by assumption) (by decide))
local macro_rules | `(tactic| walk_at "bm") => `(tactic| first
  | assumption
  | exact Tx.len (by assumption)
  | exact Tx.range (by assumption)
  | exact Tx.list (by assumption)
  | exact Tx.all (by assumption)
  | exact Tx.any (by assumption)
  | exact Tx.isi (by assumption)
  | exact Tx.int (by assumption)
  | exact Tx.bool (by assumption)
  | exact Tx.set (by assumption)
  | exact Tx.tup (by assumption))
local macro_rules | `(tactic| walk_at "call") => `(tactic| first
  | (apply jv_size; assumption; walk_at "var"; walk_at "camp"; exact rfl)
  | (apply jv_index; walk_at "hu"; walk_at "jd"; walk_at "jv"; walk_at "side"; walk_at "ns"; exact rfl; exact rfl; exact rfl)
  | (apply jv_would; assumption; assumption; walk_at "room"; walk_at "var"; walk_at "camp"; walk_at "jv"; walk_at "jv"; walk_at "side"; walk_at "side"; walk_at "ns"; walk_at "ns"; exact rfl; exact rfl)
  | walk_at "call2")
local macro_rules | `(tactic| walk_at "call2") => `(tactic| first
  | fail "call2")
local macro_rules | `(tactic| walk_at "call2") => `(tactic| first
  | (apply jv_cell; assumption; walk_at "room"; walk_at "var"; assumption; walk_at "jv"; exact rfl; walk_at "ns"; walk_at "ns"; exact rfl)
  | (apply jv_draw; assumption; walk_at "room"; walk_at "jv"; walk_at "jv"; walk_at "jv"; walk_at "side"; exact rfl; walk_at "ns"; walk_at "ns"; walk_at "ns"; exact rfl)
  | (apply jv_Lwould; assumption; walk_at "room"; walk_at "jd"; walk_at "jv"; walk_at "jv"; walk_at "side"; walk_at "side"; exact rfl; walk_at "ns"; walk_at "ns"; walk_at "ns"; exact rfl)
  | (apply jv_Lrather; assumption; walk_at "room"; walk_at "jd"; walk_at "jv"; walk_at "jv"; walk_at "jv"; walk_at "side"; walk_at "side"; exact rfl; walk_at "ns"; walk_at "ns"; walk_at "ns"; walk_at "ns"; exact rfl)
  | walk_at "call3")
local macro_rules | `(tactic| walk_at "call3") => `(tactic| first
  | fail "call3")
/-! ### pure: pairs drawn one by one -/
structure Drw (L : List (List Nat)) (found : List (Nat × Nat)) (m : List Nat) : Prop where
  ok : OkP L found
  nd : (flatP found).Nodup
  len : m.length = L.length
  me : ∀ i, i < L.length → (m.getD i 0 = i ↔ i ∉ flatP found)
theorem Drw.step {L : List (List Nat)} {found : List (Nat × Nat)} {m : List Nat} (h : Drw L found m) {x y : Nat × Nat} (h1 : x.1 < L.length) (h2 : x.2 < L.length) (ne : x.1 ≠ x.2) (hw : would L x.1 x.2 = true) (m1 : m.getD x.1 0 = x.1) (m2 : m.getD x.2 0 = x.2) (hy : y = (x.1, x.2) ∨ y = (x.2, x.1)) :
    Drw L (found ++ [y]) (matesStep m x) := by
  have n1 := (h.me x.1 h1).mp m1
  have n2 := (h.me x.2 h2).mp m2
  have ef : flatP (found ++ [y]) = flatP found ++ [y.1, y.2] := by unfold flatP; rw [List.flatMap_append]; rfl
  have my : ∀ i, i ∈ [y.1, y.2] ↔ i = x.1 ∨ i = x.2 := by
    intro i
    rcases hy with rfl | rfl <;> simp <;> omega
  refine ⟨fun p hp => ?_, ?_, (matesStep_len m x).trans h.len, fun i hi => ?_⟩
  · rcases List.mem_append.mp hp with hp | hp
    · exact h.ok p hp
    · rw [List.mem_singleton] at hp
      subst hp
      rcases hy with rfl | rfl
      · exact ⟨h1, h2, hw⟩
      · exact ⟨h2, h1, by rw [would_symm]; exact hw⟩
  · rw [ef, List.nodup_append]
    refine ⟨h.nd, ?_, fun a ha b hb e => ?_⟩
    · rcases hy with rfl | rfl <;> simp <;> omega
    · subst e
      rcases (my a).mp hb with rfl | rfl
      · exact n1 ha
      · exact n2 ha
  · rw [ef, List.mem_append, not_or, my, not_or]
    unfold matesStep
    rw [getD_set, getD_set, List.length_set]
    have hm1 : x.1 < m.length := by rw [h.len]; exact h1
    have hm2 : x.2 < m.length := by rw [h.len]; exact h2
    by_cases e2 : x.2 = i
    · rw [if_pos ⟨e2, hm2⟩]
      constructor
      · intro z; omega
      · rintro ⟨_, _, z⟩; omega
    · rw [if_neg (fun z => e2 z.1)]
      by_cases e1 : x.1 = i
      · rw [if_pos ⟨e1, hm1⟩]
        constructor
        · intro z; omega
        · rintro ⟨_, z, _⟩; omega
      · rw [if_neg (fun z => e1 z.1), h.me i hi]
        constructor
        · intro z; exact ⟨z, fun z => e1 z.symm, fun z => e2 z.symm⟩
        · rintro ⟨z, _⟩; exact z
theorem drw_nil (L : List (List Nat)) : Drw L [] (List.range L.length) := ⟨fun _ h => (by cases h), by unfold flatP; simp, List.length_range, fun i hi => by
  have e : (List.range L.length).getD i 0 = i := by simp [List.getD_eq_getElem?_getD, hi]
  rw [e]
  simp [flatP]⟩
theorem Drw.short {L : List (List Nat)} {found : List (Nat × Nat)} {m : List Nat} (h : Drw L found m) (hL : L.length ≤ 6) : found.length ≤ 6 := by
  have h1 := nodup_bound L.length (flatP found) h.nd fun x hx => by
    unfold flatP at hx
    obtain ⟨p, hp, hx⟩ := List.mem_flatMap.mp hx
    obtain ⟨a, b, _⟩ := h.ok p hp
    simp at hx
    omega
  rw [flatP_len] at h1
  omega
theorem map_eraseIdx {α β : Type} (f : α → β) : ∀ (xs : List α) (n : Nat), (xs.eraseIdx n).map f = (xs.map f).eraseIdx n
  | [], _ => rfl
  | _ :: _, 0 => rfl
  | x :: xs, n + 1 => by
    show f x :: (xs.eraseIdx n).map f = f x :: (xs.map f).eraseIdx n
    rw [map_eraseIdx f xs n]
theorem eqv_nil {α : Type} (f : α → PyData) (xs : List α) : PyData.eqv (.list (xs.map f)) (.list []) = decide (xs.length = 0) := by
  cases xs <;> simp [PyData.eqv, PyData.eqvAll]
section
variable {X : Cx} {σ : L2.St} {e o a b c tg : Expr} {es : List Expr} {G Ge G0 H0 H : Hp} {os : List (Addr × HO)} {pos : Pos} {x y : Str} {rest : List Stmt} {D : Ends}
theorem Hs.seenM {p : Addr} {u : HO} (h : Hs G0 H0 G H os) (hm : (p, u) ∈ os) : Ex (upd G p u) H ∧ Ex G (upd G p u) := by
  obtain ⟨h1, h2, _⟩ := h.own _ hm
  refine ⟨fun a o e => ?_, Ex.new h1⟩
  by_cases q : a = p
  · subst q; rw [upd_same] at e; cases e; exact h2
  · rw [upd_ne q] at e; exact h.ex a o e
theorem Hs.rot {p q r : Addr} {o u z : HO} (h : Hs G0 H0 G H ((p, o) :: (q, u) :: (r, z) :: os)) : Hs G0 H0 G H ((q, u) :: (r, z) :: (p, o) :: os) := h.perm ((List.Perm.swap _ _ _).trans ((List.Perm.swap _ _ _).cons _))
/-- tg = y.pop(e) -/
theorem b_asgPop {m : Nat} {p2 ap2 cp2 q : Pos} {l : Addr} {ys : List V} (h : Hs G0 H0 G H ((l, .lst ys) :: os)) (hs2 : σ[m]? = some (some (.ref l))) (hN2 : X.N[m]? = some y) (hv2 : Vis X.env.scope y) (eg : Ex Ge H) (he : JP X σ e Ge (fun _ v => ∃ d : Nat, d < ys.length ∧ v = .int (d : Int))) (hly : ys.length ≤ 100000)
    (hd2 : (y == ("__debug__" : Str)) = false) (hcd2 : (y == ("__classdict__" : Str)) = false) (ns : NoStar e)
    (hbase2 : attributeBase (.Name y p2) "pop" X.env (eval (.Name y p2) X.env) = eval (.Name y p2) X.env) (hline2 : (ap2.endLine == cp2.line) = true)
    (hfew2 : ((backTo cp2 (starEach [e] X.env)).all (fun x => !x.1) && (backToKw cp2 (keywordEach [] X.env)).all (fun x => x.1.isSome) && decide ([e].length + ([] : List Keyword).length + (if ([] : List Keyword).isEmpty then 0 else 1) < 30)) = true)
    (hsw : swapsWithSole [tg] (.Call (.Attribute (.Name y p2) "pop" ap2) [e] [] cp2) q.line X.env = pure false) (hw : swappedStores [tg] (.Call (.Attribute (.Name y p2) "pop" ap2) [e] [] cp2) X.env = pure none) (h1 : (assignEach [tg] X.env).map (·.2) = [assign tg X.env])
    (k : ∀ H' d z, d < ys.length → ys[d]? = some z → Hs G0 H0 G H' ((l, .lst (ys.eraseIdx d)) :: os) → wG X tg z σ H' fun σ' H'' => wSs X rest D σ' H'') :
    wSs X (.Assign [tg] (.Call (.Attribute (.Name y p2) "pop" ap2) [e] [] cp2) q :: rest) D σ H := by
  refine b_asgW hsw hw h1 ?_
  refine we_lm PySem.F.slot_list_pop PySem.F.type_list_pop mt_popAt (we_var hs2 hN2 hv2 hd2 hcd2 ⟨rfl, ⟨ys, h.at0⟩, ?_⟩) ns hbase2 hline2 hfew2
  refine he H eg _ fun G1 H1 v s ⟨d, hdl, ev⟩ => ?_
  subst ev
  have h1 := h.flat s.h
  have hz : ys[d]? = some ys[d] := List.getElem?_eq_getElem hdl
  refine ⟨l, ys, d, d, ys[d], rfl, rfl, h1.at0, by omega, by omega, ?_, hz, k _ d ys[d] hdl hz h1.put0⟩
  unfold seqIndex?
  have e0 : (if (d : Int) < 0 then (d : Int) + ys.length else d) = d := if_neg (by omega)
  simp only [e0]
  rw [if_pos (by simp; omega)]
  simp
end
section
variable {P : Program} {w : World} {K : PySem.W.Frag} {mg : Str → Option Value} {base : Heap} {C : Addr}
abbrev spLD : Sp := fun vs H Q _ => ∃ (L : List (List Nat)) (cell : Int) (G : Hp), Ex G H ∧ L.length ≤ 6 ∧ Al G [kD (eLL L), kI cell] vs ∧
  ∀ G' H' p ws found m, Stp G H G' H' → H p = none → G' p = none → H' p = some (.lst ws) → DxAll G' ws (found.map eP) → Drw L found m → Q (.ref p) H'
end
end TP

set_option Elab.async false
set_option linter.all false
set_option maxRecDepth 100000
set_option maxHeartbeats 4000000
namespace TP
open PySem PySem.Spec PyProof.Rows L2
open Evl (Ex)
-- tactics of this text: what an expression is worth (jv jd jt jo jw), growth (ex), what remains (side); call, calld: what the text adds
local macro_rules | `(tactic| walk_at "ex") => `(tactic| first | exact Ex.refl _ | assumption | (refine' Ex.trans ?_ (by assumption); walk_at "ex"))
local macro_rules | `(tactic| walk_at "vis") => `(tactic| first
  | exact Or.inl rfl
  | exact Or.inr (Or.inl rfl)
  | exact Or.inr (Or.inr rfl))
local macro_rules | `(tactic| walk_at "loc") => `(tactic| first
  | exact Or.inl rfl
  | exact Or.inr rfl)
local macro_rules | `(tactic| walk_at "side") => `(tactic| first
  | assumption
  | omega
  | decide
  | exact rfl
  | (simp_all; done)
  | (simp_all; omega))
local macro_rules | `(tactic| walk_at "hu") => `(tactic| first
  | exact room65 (by assumption)
  | exact Room.units (by assumption))
local macro_rules | `(tactic| walk_at "dp") => `(tactic| first | assumption | (refine' Dx.mono ?_ (by assumption); walk_at "ex"))
local macro_rules | `(tactic| walk_at "var") => `(tactic| first
  | (apply jv_var 0; exact rfl; exact rfl; walk_at "vis"; decide; decide)
  | (apply jv_var 1; exact rfl; exact rfl; walk_at "vis"; decide; decide)
  | (apply jv_var 2; exact rfl; exact rfl; walk_at "vis"; decide; decide)
  | (apply jv_var 3; exact rfl; exact rfl; walk_at "vis"; decide; decide)
  | (apply jv_var 4; exact rfl; exact rfl; walk_at "vis"; decide; decide)
  | (apply jv_var 5; exact rfl; exact rfl; walk_at "vis"; decide; decide)
  | (apply jv_var 6; exact rfl; exact rfl; walk_at "vis"; decide; decide)
  | (apply jv_var 7; exact rfl; exact rfl; walk_at "vis"; decide; decide)
  | (apply jv_var 8; exact rfl; exact rfl; walk_at "vis"; decide; decide)
  | (apply jv_var 9; exact rfl; exact rfl; walk_at "vis"; decide; decide)
  | (apply jv_var 10; exact rfl; exact rfl; walk_at "vis"; decide; decide)
  | (apply jv_var 11; exact rfl; exact rfl; walk_at "vis"; decide; decide)
  | (apply jv_var 12; exact rfl; exact rfl; walk_at "vis"; decide; decide)
  | (apply jv_var 13; exact rfl; exact rfl; walk_at "vis"; decide; decide)
  | (apply jv_var 14; exact rfl; exact rfl; walk_at "vis"; decide; decide)
  | (apply jv_var 15; exact rfl; exact rfl; walk_at "vis"; decide; decide)
  | (apply jv_var 16; exact rfl; exact rfl; walk_at "vis"; decide; decide)
  | (apply jv_var 17; exact rfl; exact rfl; walk_at "vis"; decide; decide)
  | (apply jv_var 18; exact rfl; exact rfl; walk_at "vis"; decide; decide)
  | (apply jv_var 19; exact rfl; exact rfl; walk_at "vis"; decide; decide))
local macro_rules | `(tactic| walk_at "bm") => `(tactic| first
  | assumption)
local macro_rules | `(tactic| walk_at "call") => `(tactic| first
  | fail "call")
local macro_rules | `(tactic| walk_at "calld") => `(tactic| first
  | fail "calld")
local macro_rules | `(tactic| walk_at "kit") => `(tactic| first
  | assumption
  | exact kit_ii
  | exact kit_ib
  | exact kit_bi
  | exact kit_bb
  | exact kit_li
  | exact kit_ll
  | exact kit_tt
  | exact kit_tl
  | exact kit_lt
  | exact kit_tb)
local macro_rules | `(tactic| walk_at "ns") => `(tactic| first
  | exact fun _ _ => rfl)
local macro_rules | `(tactic| walk_at "jv") => `(tactic| first
  | exact jv_int
  | exact jv_bl
  | exact jv_non
  | exact jv_str
  | walk_at "var"
  | (apply jv_add; walk_at "jv"; walk_at "jv")
  | (apply jv_sub; walk_at "jv"; walk_at "jv")
  | (apply jv_neg; walk_at "jv")
  | (apply jv_mul; walk_at "jv"; walk_at "jv"; walk_at "mulok")
  | (apply jv_fdiv; walk_at "jv"; walk_at "jv"; walk_at "divok")
  | (apply jv_mod; walk_at "jv"; walk_at "jv"; walk_at "side")
  | (apply jv_band; walk_at "jv"; walk_at "jv")
  | (apply jv_cmp; walk_at "jo"; (first | exact rfl | exact nomark _))
  | (apply jv_chain op_le op_le; walk_at "jv"; walk_at "jv"; walk_at "jv"; with_unfolding_all rfl)
  | (apply jv_chain op_le op_lt; walk_at "jv"; walk_at "jv"; walk_at "jv"; with_unfolding_all rfl)
  | (apply jv_and; walk_at "jv"; intro hand; walk_at "jv")
  | (apply jv_or; walk_at "jv"; intro hor; walk_at "jv")
  | (apply jv_not; walk_at "jv")
  | (apply jv_one; walk_at "jv")
  | (apply jv_lenM; walk_at "bm"; walk_at "jd"; exact rfl; walk_at "ns")
  | (apply jv_len; walk_at "bm"; walk_at "jd"; exact rfl; walk_at "ns")
  | (apply jv_all; exact rfl; walk_at "bm"; walk_at "jd"; exact rfl; decide +kernel; walk_at "ns")
  | (apply jv_any; exact rfl; walk_at "bm"; walk_at "jd"; exact rfl; decide +kernel; walk_at "ns")
  | (apply jv_lenT; walk_at "bm"; walk_at "jd"; exact rfl; walk_at "ns")
  | walk_at "call"
  | (apply jv_isi; (first | exact boot_tint | exact boot_tbool | exact boot_tlist | exact boot_ttuple); walk_at "bm"; walk_at "bm"; walk_at "jd"; walk_at "kit"; exact rfl; exact rfl; exact boot_isi; walk_at "ns"; decide; decide)
  | (apply jv_lenSet; exact rfl; walk_at "bm"; walk_at "bm"; walk_at "jd"; walk_at "side"; exact rfl; exact rfl; walk_at "ns")
  | (apply jv_ifE; walk_at "jt"; intro hif; walk_at "jv"; intro hif; walk_at "jv")
  | (apply JD.toI; walk_at "jx")
  | (apply JD.toB; walk_at "jx")
  | (apply JD.toS; walk_at "jx"))
local macro_rules | `(tactic| walk_at "mulok") => `(tactic| first
  | exact Or.inr ⟨by decide, by decide⟩
  | exact Or.inl ⟨by decide, by decide⟩
  | exact Or.inl ⟨by omega, by omega⟩
  | exact Or.inr ⟨by omega, by omega⟩)
local macro_rules | `(tactic| walk_at "divok") => `(tactic| first
  | exact ⟨by decide, by decide⟩
  | exact ⟨by omega, by omega⟩)
local macro_rules | `(tactic| walk_at "jx") => `(tactic| first
  | (apply jd_ixN; walk_at "jd"; walk_at "jv"; exact fun _ _ => rfl; walk_at "side")
  | (apply jd_ixNs; walk_at "jd"; walk_at "jv"; exact fun _ _ => rfl; walk_at "side")
  | (apply jd_ixP; walk_at "jd"; walk_at "jv"; exact fun _ _ => rfl; walk_at "side")
  | (apply jd_ixPs; walk_at "jd"; walk_at "jv"; exact fun _ _ => rfl; walk_at "side")
  | (apply jd_ixI; walk_at "jd"; walk_at "jv"; exact fun _ _ => rfl; walk_at "side")
  | (apply jd_ixP1; walk_at "jd")
  | (apply jd_ixP2; walk_at "jd")
  | walk_at "calld")
local macro_rules | `(tactic| walk_at "jd") => `(tactic| first
  | (apply JV.toD; walk_at "var"; walk_at "dp")
  | walk_at "jx"
  | (apply jd_list; walk_at "jad"; exact Nat.le_of_ble_eq_true rfl)
  | (apply jd_tuple; walk_at "jad"; exact Nat.le_of_ble_eq_true rfl)
  | (apply jd_listOf; walk_at "bm"; walk_at "jd"; exact rfl; exact boot_tlist; walk_at "ns")
  | (apply JV.toD (v := V.int _); walk_at "jv"; exact Dx.int _)
  | (apply JV.toD (v := V.bl _); walk_at "jv"; exact Dx.bl _)
  | (apply JV.toD (v := V.str _); walk_at "jv"; exact Dx.str _)
  | (apply jd_ifE; walk_at "jt"; intro hif; walk_at "jd"; intro hif; walk_at "jd"))
local macro_rules | `(tactic| walk_at "jad") => `(tactic| first
  | exact jad_nil
  | (apply jad_cons; walk_at "jd"; walk_at "jad"; walk_at "ns"))
local macro_rules | `(tactic| walk_at "jo") => `(tactic| first
  | (apply jo_isN; walk_at "jv")
  | (apply jo_notN; walk_at "jv")
  | (apply jo_eqI; walk_at "jv"; walk_at "jv")
  | (apply jo_neI; walk_at "jv"; walk_at "jv")
  | (apply jo_lt; walk_at "jv"; walk_at "jv")
  | (apply jo_le; walk_at "jv"; walk_at "jv")
  | (apply jo_gt; walk_at "jv"; walk_at "jv")
  | (apply jo_ge; walk_at "jv"; walk_at "jv")
  | (apply jo_inN; walk_at "hu"; walk_at "jv"; walk_at "jd")
  | (apply jo_niN; walk_at "hu"; walk_at "jv"; walk_at "jd")
  | (apply jo_eqD; walk_at "hu"; walk_at "jd"; walk_at "jd"; walk_at "shp"; walk_at "shp")
  | (apply jo_neD; walk_at "hu"; walk_at "jd"; walk_at "jd"; walk_at "shp"; walk_at "shp"))
local macro_rules | `(tactic| walk_at "shp") => `(tactic| first
  | assumption
  | exact Shp.shaped eLL _
  | exact Shp.shaped ePs _
  | exact Shp.shaped eNs _
  | exact Shp.shaped ePss _
  | exact Shp.shaped eP _
  | exact Shp.shaped eN _
  | exact Shp.shaped eI _
  | decide)
local macro_rules | `(tactic| walk_at "jw") => `(tactic| first
  | (apply jw_one_and; walk_at "jt")
  | (apply jw_one_or; walk_at "jt")
  | (apply jw_and; walk_at "jt"; intro hand; walk_at "jw")
  | (apply jw_or; walk_at "jt"; intro hor; walk_at "jw"))
local macro_rules | `(tactic| walk_at "jt") => `(tactic| first
  | (apply jt_w; walk_at "jw")
  | (apply jt_cmp; walk_at "jo"; (first | exact rfl | exact nomark _))
  | (apply jt_not; walk_at "jt")
  | (apply jt_val; walk_at "jv"; exact fun _ => rfl)
  | (apply jt_chain op_le op_le; walk_at "jv"; walk_at "jv"; walk_at "jv"; with_unfolding_all rfl))
local macro_rules | `(tactic| walk_at "camp") => `(tactic| first | assumption | (refine' CampAt.mono ?_ (by assumption); walk_at "ex"))
local macro_rules | `(tactic| walk_at "calld") => `(tactic| first
  | (apply jd_told; assumption; walk_at "var"; walk_at "camp"; exact rfl)
  | walk_at "calld2")
local macro_rules | `(tactic| walk_at "calld2") => `(tactic| first
  | fail "calld2")
local macro_rules | `(tactic| walk_at "room") => `(tactic| first
  | assumption
  | exact Room.mono (by assumption) (by decide))
local macro_rules | `(tactic| walk_at "bm") => `(tactic| first
  | assumption
  | exact Tx.len (by assumption)
  | exact Tx.range (by assumption)
  | exact Tx.list (by assumption)
  | exact Tx.all (by assumption)
  | exact Tx.any (by assumption)
  | exact Tx.isi (by assumption)
  | exact Tx.int (by assumption)
  | exact Tx.bool (by assumption)
  | exact Tx.set (by assumption)
  | exact Tx.tup (by assumption))
local macro_rules | `(tactic| walk_at "call") => `(tactic| first
  | (apply jv_size; assumption; walk_at "var"; walk_at "camp"; exact rfl)
  | (apply jv_index; walk_at "hu"; walk_at "jd"; walk_at "jv"; walk_at "side"; walk_at "ns"; exact rfl; exact rfl; exact rfl)
  | (apply jv_would; assumption; assumption; walk_at "room"; walk_at "var"; walk_at "camp"; walk_at "jv"; walk_at "jv"; walk_at "side"; walk_at "side"; walk_at "ns"; walk_at "ns"; exact rfl; exact rfl)
  | walk_at "call2")
local macro_rules | `(tactic| walk_at "call2") => `(tactic| first
  | fail "call2")
local macro_rules | `(tactic| walk_at "call2") => `(tactic| first
  | (apply jv_cell; assumption; walk_at "room"; walk_at "var"; assumption; walk_at "jv"; exact rfl; walk_at "ns"; walk_at "ns"; exact rfl)
  | (apply jv_draw; assumption; walk_at "room"; walk_at "jv"; walk_at "jv"; walk_at "jv"; walk_at "side"; exact rfl; walk_at "ns"; walk_at "ns"; walk_at "ns"; exact rfl)
  | (apply jv_Lwould; assumption; walk_at "room"; walk_at "jd"; walk_at "jv"; walk_at "jv"; walk_at "side"; walk_at "side"; exact rfl; walk_at "ns"; walk_at "ns"; walk_at "ns"; exact rfl)
  | (apply jv_Lrather; assumption; walk_at "room"; walk_at "jd"; walk_at "jv"; walk_at "jv"; walk_at "jv"; walk_at "side"; walk_at "side"; exact rfl; walk_at "ns"; walk_at "ns"; walk_at "ns"; walk_at "ns"; exact rfl)
  | walk_at "call3")
local macro_rules | `(tactic| walk_at "call3") => `(tactic| first
  | fail "call3")
/-! ### pure: rows of a camp -/
structure Row (many c : Nat) (l : List Nat) : Prop where
  nd : l.Nodup
  lt : ∀ x ∈ l, x < many
  no : c ∉ l
theorem Row.take {many c : Nat} {l : List Nat} (h : Row many c l) (n : Nat) : Row many c (l.take n) := ⟨h.nd.sublist (List.take_sublist _ _), fun x hx => h.lt x (List.mem_of_mem_take hx), fun hx => h.no (List.mem_of_mem_take hx)⟩
theorem Row.ring {many c r : Nat} {l : List Nat} (h : Row many c l) (h3 : 3 ≤ r) (hr : r ≤ many) (hc : c < r) : Row many c ([(c + 1) % r, (c + r - 1) % r] ++ l.filter (fun x => !decide (x ∈ [(c + 1) % r, (c + r - 1) % r]))) := by
  have a1 : (c + 1) % r < r := Nat.mod_lt _ (by omega)
  have a2 : (c + r - 1) % r < r := Nat.mod_lt _ (by omega)
  have e1 : (c + 1) % r = if c + 1 < r then c + 1 else 0 := by
    by_cases q : c + 1 < r
    · rw [if_pos q, Nat.mod_eq_of_lt q]
    · rw [if_neg q, show c + 1 = r by omega, Nat.mod_self]
  have e2 : (c + r - 1) % r = if c = 0 then r - 1 else c - 1 := by
    by_cases q : c = 0
    · rw [if_pos q, q, Nat.zero_add, Nat.mod_eq_of_lt (by omega)]
    · rw [if_neg q, show c + r - 1 = (c - 1) + r by omega, Nat.add_mod_right, Nat.mod_eq_of_lt (by omega)]
  have ne : (c + 1) % r ≠ (c + r - 1) % r := by rw [e1, e2]; split <;> split <;> omega
  have n1 : (c + 1) % r ≠ c := by rw [e1]; split <;> omega
  have n2 : (c + r - 1) % r ≠ c := by rw [e2]; split <;> omega
  refine ⟨?_, fun x hx => ?_, fun hx => ?_⟩
  · rw [List.nodup_append]
    refine ⟨by simp [ne], h.nd.filter _, fun a ha b hb e => ?_⟩
    have := (List.mem_filter.mp hb).2
    rw [← e] at this
    rw [decide_eq_true ha] at this
    cases this
  · rcases List.mem_append.mp hx with hx | hx
    · simp at hx
      omega
    · exact h.lt x (List.mem_filter.mp hx).1
  · rcases List.mem_append.mp hx with hx | hx
    · simp at hx
      omega
    · exact h.no (List.mem_filter.mp hx).1
/-- the rows, one for each -/
def Rows (many : Nat) (n : Nat) (L : List (List Nat)) : Prop := L.length = n ∧ ∀ i, i < n → Row many i (L.getD i [])
theorem Rows.valid {many : Nat} {L : List (List Nat)} (h : Rows many many L) (h1 : 1 ≤ many) (h6 : many ≤ 6) : ValidL L := by
  have e := h.1
  exact ⟨by omega, by omega, fun i hi => by rw [e] at hi ⊢; exact (h.2 i hi).lt, fun i hi => (h.2 i (by omega)).nd, fun i hi => (h.2 i (by omega)).no⟩
theorem getD_snoc (L : List (List Nat)) (r : List Nat) (i : Nat) : (L ++ [r]).getD i [] = if i = L.length then r else L.getD i [] := by
  rw [List.getD_eq_getElem?_getD, List.getD_eq_getElem?_getD]
  by_cases h : i = L.length
  · subst h
    simp
  · rw [if_neg h]
    by_cases h2 : i < L.length
    · rw [List.getElem?_append_left h2]
    · rw [List.getElem?_eq_none (by rw [List.length_append, List.length_singleton]; omega), List.getElem?_eq_none (by omega)]
theorem Rows.snoc {many n : Nat} {L : List (List Nat)} (h : Rows many n L) {r : List Nat} (hr : Row many n r) : Rows many (n + 1) (L ++ [r]) := by
  refine ⟨by rw [List.length_append, h.1]; rfl, fun i hi => ?_⟩
  rw [getD_snoc]
  by_cases e : i = L.length
  · rw [if_pos e, e, h.1]; exact hr
  · rw [if_neg e]; exact h.2 i (by have := h.1; omega)
theorem shift_inj {n s x y : Nat} (hs : s < n) (hx : x < n) (hy : y < n) (h : (x + s) % n = (y + s) % n) : x = y := by
  have f : ∀ z, z < n → (z + s) % n = if z + s < n then z + s else z + s - n := fun z hz => by
    by_cases q : z + s < n
    · rw [if_pos q, Nat.mod_eq_of_lt q]
    · rw [if_neg q, Nat.mod_eq_sub_mod (by omega), Nat.mod_eq_of_lt (by omega)]
  rw [f x hx, f y hy] at h
  split at h <;> split at h <;> omega
/-- shifted rows, those of the first k -/
def Shf (L : List (List Nat)) (s k : Nat) (tl : List (List Nat)) : Prop := tl.length = L.length ∧ ∀ c, c < k → tl.getD ((c + s) % L.length) [] = (L.getD c []).map fun x => (x + s) % L.length
theorem getD_setL (m : List (List Nat)) (i j : Nat) (x : List Nat) : (m.set i x).getD j [] = if i = j ∧ i < m.length then x else m.getD j [] := by
  rw [List.getD_eq_getElem?_getD, List.getElem?_set, List.getD_eq_getElem?_getD]
  by_cases h : i = j
  · subst h
    by_cases h2 : i < m.length <;> simp [h2]
  · simp [h]
theorem Shf.step {L : List (List Nat)} {s k : Nat} {tl : List (List Nat)} (h : Shf L s k tl) (hs : s < L.length) (hk : k < L.length) : Shf L s (k + 1) (tl.set ((k + s) % L.length) ((L.getD k []).map fun x => (x + s) % L.length)) := by
  have hm : (k + s) % L.length < L.length := Nat.mod_lt _ (by omega)
  refine ⟨by rw [List.length_set, h.1], fun c hc => ?_⟩
  rw [getD_setL]
  by_cases e : c = k
  · subst e
    rw [if_pos ⟨rfl, by rw [h.1]; exact hm⟩]
  · rw [if_neg (fun z => e (shift_inj hs (by omega) hk z.1.symm))]
    exact h.2 c (by omega)
theorem Shf.rows {L : List (List Nat)} {s : Nat} {tl : List (List Nat)} (h : Shf L s L.length tl) (hs : s < L.length) (hr : Rows L.length L.length L) : Rows L.length L.length tl := by
  refine ⟨h.1, fun i hi => ?_⟩
  have hn : 0 < L.length := by omega
  have hc : (i + (L.length - s)) % L.length < L.length := Nat.mod_lt _ hn
  have e : ((i + (L.length - s)) % L.length + s) % L.length = i := by
    rw [Nat.mod_add_mod, show i + (L.length - s) + s = i + L.length by omega, Nat.add_mod_right, Nat.mod_eq_of_lt hi]
  have q := h.2 _ hc
  rw [e] at q
  have r := hr.2 _ hc
  rw [q]
  refine ⟨?_, fun x hx => ?_, fun hx => ?_⟩
  · refine List.Pairwise.map _ (fun a b h => h) ?_
    refine List.Pairwise.imp_of_mem (fun {a b} ha hb hab => ?_) r.nd
    exact fun z => hab (shift_inj hs (r.lt a ha) (r.lt b hb) z)
  · obtain ⟨y, _, rfl⟩ := List.mem_map.mp hx
    exact Nat.mod_lt _ hn
  · obtain ⟨y, hy, e2⟩ := List.mem_map.mp hx
    have := shift_inj hs (r.lt y hy) hc (by rw [e2, e])
    rw [this] at hy
    exact r.no hy
theorem perm_erase : ∀ (l : List Nat) (d : Nat) (h : d < l.length), (l[d] :: l.eraseIdx d).Perm l
  | x :: l, 0, _ => List.Perm.refl _
  | x :: l, d + 1, h => by
    have ih := perm_erase l d (by simpa using h)
    show (l[d]'(by simpa using h) :: x :: l.eraseIdx d).Perm (x :: l)
    exact (List.Perm.swap _ _ _).trans (ih.cons _)
theorem drawn_row {many c d : Nat} {left told : List Nat} (h : Row many c (left ++ told)) (hd : d < left.length) : Row many c (left.eraseIdx d ++ (told ++ [left[d]])) := by
  have p : (left.eraseIdx d ++ (told ++ [left[d]])).Perm (left ++ told) := by
    have p1 : (left[d] :: left.eraseIdx d).Perm left := perm_erase left d hd
    have p2 : (left.eraseIdx d ++ (told ++ [left[d]])).Perm ((told ++ [left[d]]) ++ left.eraseIdx d) := List.perm_append_comm
    refine p2.trans ?_
    rw [List.append_assoc, List.singleton_append]
    exact (p1.append_left told).trans List.perm_append_comm
  exact ⟨p.nodup_iff.mpr h.nd, fun x hx => h.lt x (p.mem_iff.mp hx), fun hx => h.no (p.mem_iff.mp hx)⟩
theorem start_row (many c : Nat) : Row many c ((List.range many).filter (fun x : Nat => !decide ((x : Int) = (c : Int))) ++ []) := by
  rw [List.append_nil]
  refine ⟨List.nodup_range.filter _, fun x hx => by simpa using (List.mem_filter.mp hx).1, fun hx => ?_⟩
  have := (List.mem_filter.mp hx).2
  simp at this
section
variable {X : Cx} {σ : L2.St} {e o a b c tg : Expr} {es : List Expr} {G Ge G0 H0 H : Hp} {os : List (Addr × HO)} {pos : Pos} {x y : Str} {rest : List Stmt} {D : Ends}
theorem dx_nats (G : Hp) {G' : Hp} {vs : List V} {ns : List Nat} (hd : DxAll G' vs (ns.map eN)) : DxAll G vs (ns.map eN) := by
  have e1 : vs = (ns.map fun n : Nat => (n : Int)).map V.int := DxAll.ints (by rw [List.map_map]; exact hd)
  have e2 := DxAll.of_ints (H := G) (ns.map fun n : Nat => (n : Int))
  rw [← e1, List.map_map] at e2
  exact e2
/-- x = e, a new list of numbers, read over another fixed part -/
theorem b_setNI {n : Nat} {ns : List Nat} {p q : Pos} (h : Hs G0 H0 G H os) (eg : Ex Ge H) (he : JN X σ e Ge (ns.map eN)) (hN : X.N.Nodup) (hi : X.N[n]? = some x) (hx : Loc X.env.scope x) (hs : swapsWith e (some (.Name x p)) q.line X.env = pure false) (hf : X.fn x = true ∨ X.env.scope.names.lookup x = some .local)
    (k : ∀ H' l vs, Hs G0 H0 G H' ((l, .lst vs) :: os) → DxAll G vs (ns.map eN) → wSs X rest D (σ.set n (some (.ref l))) H') : wSs X (.Assign [.Name x p] e q :: rest) D σ H :=
  b_setW hN hi hx hs hf (he H eg _ fun G' H' l vs s hp gp hq hd => k H' l vs (h.newL (.flat h.ex s.h) hp (Evl.fresh_back h.ex hp) hq) (dx_nats G hd))
end
end TP

set_option Elab.async false
set_option linter.all false
set_option maxRecDepth 100000
set_option maxHeartbeats 4000000
namespace TP
open PySem PySem.Spec PyProof.Rows L2
open Evl (Ex)
-- tactics of this text: what an expression is worth (jv jd jt jo jw), growth (ex), what remains (side); call, calld: what the text adds
local macro_rules | `(tactic| walk_at "ex") => `(tactic| first | exact Ex.refl _ | assumption | (refine' Ex.trans ?_ (by assumption); walk_at "ex"))
local macro_rules | `(tactic| walk_at "vis") => `(tactic| first
  | exact Or.inl rfl
  | exact Or.inr (Or.inl rfl)
  | exact Or.inr (Or.inr rfl))
local macro_rules | `(tactic| walk_at "loc") => `(tactic| first
  | exact Or.inl rfl
  | exact Or.inr rfl)
local macro_rules | `(tactic| walk_at "side") => `(tactic| first
  | assumption
  | omega
  | decide
  | exact rfl
  | (simp_all; done)
  | (simp_all; omega))
local macro_rules | `(tactic| walk_at "hu") => `(tactic| first
  | exact room65 (by assumption)
  | exact Room.units (by assumption))
local macro_rules | `(tactic| walk_at "dp") => `(tactic| first | assumption | (refine' Dx.mono ?_ (by assumption); walk_at "ex"))
local macro_rules | `(tactic| walk_at "var") => `(tactic| first
  | (apply jv_var 0; exact rfl; exact rfl; walk_at "vis"; decide; decide)
  | (apply jv_var 1; exact rfl; exact rfl; walk_at "vis"; decide; decide)
  | (apply jv_var 2; exact rfl; exact rfl; walk_at "vis"; decide; decide)
  | (apply jv_var 3; exact rfl; exact rfl; walk_at "vis"; decide; decide)
  | (apply jv_var 4; exact rfl; exact rfl; walk_at "vis"; decide; decide)
  | (apply jv_var 5; exact rfl; exact rfl; walk_at "vis"; decide; decide)
  | (apply jv_var 6; exact rfl; exact rfl; walk_at "vis"; decide; decide)
  | (apply jv_var 7; exact rfl; exact rfl; walk_at "vis"; decide; decide)
  | (apply jv_var 8; exact rfl; exact rfl; walk_at "vis"; decide; decide)
  | (apply jv_var 9; exact rfl; exact rfl; walk_at "vis"; decide; decide)
  | (apply jv_var 10; exact rfl; exact rfl; walk_at "vis"; decide; decide)
  | (apply jv_var 11; exact rfl; exact rfl; walk_at "vis"; decide; decide)
  | (apply jv_var 12; exact rfl; exact rfl; walk_at "vis"; decide; decide)
  | (apply jv_var 13; exact rfl; exact rfl; walk_at "vis"; decide; decide)
  | (apply jv_var 14; exact rfl; exact rfl; walk_at "vis"; decide; decide)
  | (apply jv_var 15; exact rfl; exact rfl; walk_at "vis"; decide; decide)
  | (apply jv_var 16; exact rfl; exact rfl; walk_at "vis"; decide; decide)
  | (apply jv_var 17; exact rfl; exact rfl; walk_at "vis"; decide; decide)
  | (apply jv_var 18; exact rfl; exact rfl; walk_at "vis"; decide; decide)
  | (apply jv_var 19; exact rfl; exact rfl; walk_at "vis"; decide; decide))
local macro_rules | `(tactic| walk_at "bm") => `(tactic| first
  | assumption)
local macro_rules | `(tactic| walk_at "call") => `(tactic| first
  | fail "call")
local macro_rules | `(tactic| walk_at "calld") => `(tactic| first
  | fail "calld")
local macro_rules | `(tactic| walk_at "kit") => `(tactic| first
  | assumption
  | exact kit_ii
  | exact kit_ib
  | exact kit_bi
  | exact kit_bb
  | exact kit_li
  | exact kit_ll
  | exact kit_tt
  | exact kit_tl
  | exact kit_lt
  | exact kit_tb)
local macro_rules | `(tactic| walk_at "ns") => `(tactic| first
  | exact fun _ _ => rfl)
local macro_rules | `(tactic| walk_at "jv") => `(tactic| first
  | exact jv_int
  | exact jv_bl
  | exact jv_non
  | exact jv_str
  | walk_at "var"
  | (apply jv_add; walk_at "jv"; walk_at "jv")
  | (apply jv_sub; walk_at "jv"; walk_at "jv")
  | (apply jv_neg; walk_at "jv")
  | (apply jv_mul; walk_at "jv"; walk_at "jv"; walk_at "mulok")
  | (apply jv_fdiv; walk_at "jv"; walk_at "jv"; walk_at "divok")
  | (apply jv_mod; walk_at "jv"; walk_at "jv"; walk_at "side")
  | (apply jv_band; walk_at "jv"; walk_at "jv")
  | (apply jv_cmp; walk_at "jo"; (first | exact rfl | exact nomark _))
  | (apply jv_chain op_le op_le; walk_at "jv"; walk_at "jv"; walk_at "jv"; with_unfolding_all rfl)
  | (apply jv_chain op_le op_lt; walk_at "jv"; walk_at "jv"; walk_at "jv"; with_unfolding_all rfl)
  | (apply jv_and; walk_at "jv"; intro hand; walk_at "jv")
  | (apply jv_or; walk_at "jv"; intro hor; walk_at "jv")
  | (apply jv_not; walk_at "jv")
  | (apply jv_one; walk_at "jv")
  | (apply jv_lenM; walk_at "bm"; walk_at "jd"; exact rfl; walk_at "ns")
  | (apply jv_len; walk_at "bm"; walk_at "jd"; exact rfl; walk_at "ns")
  | (apply jv_all; exact rfl; walk_at "bm"; walk_at "jd"; exact rfl; decide +kernel; walk_at "ns")
  | (apply jv_any; exact rfl; walk_at "bm"; walk_at "jd"; exact rfl; decide +kernel; walk_at "ns")
  | (apply jv_lenT; walk_at "bm"; walk_at "jd"; exact rfl; walk_at "ns")
  | walk_at "call"
  | (apply jv_isi; (first | exact boot_tint | exact boot_tbool | exact boot_tlist | exact boot_ttuple); walk_at "bm"; walk_at "bm"; walk_at "jd"; walk_at "kit"; exact rfl; exact rfl; exact boot_isi; walk_at "ns"; decide; decide)
  | (apply jv_lenSet; exact rfl; walk_at "bm"; walk_at "bm"; walk_at "jd"; walk_at "side"; exact rfl; exact rfl; walk_at "ns")
  | (apply jv_ifE; walk_at "jt"; intro hif; walk_at "jv"; intro hif; walk_at "jv")
  | (apply JD.toI; walk_at "jx")
  | (apply JD.toB; walk_at "jx")
  | (apply JD.toS; walk_at "jx"))
local macro_rules | `(tactic| walk_at "mulok") => `(tactic| first
  | exact Or.inr ⟨by decide, by decide⟩
  | exact Or.inl ⟨by decide, by decide⟩
  | exact Or.inl ⟨by omega, by omega⟩
  | exact Or.inr ⟨by omega, by omega⟩)
local macro_rules | `(tactic| walk_at "divok") => `(tactic| first
  | exact ⟨by decide, by decide⟩
  | exact ⟨by omega, by omega⟩)
local macro_rules | `(tactic| walk_at "jx") => `(tactic| first
  | (apply jd_ixN; walk_at "jd"; walk_at "jv"; exact fun _ _ => rfl; walk_at "side")
  | (apply jd_ixNs; walk_at "jd"; walk_at "jv"; exact fun _ _ => rfl; walk_at "side")
  | (apply jd_ixP; walk_at "jd"; walk_at "jv"; exact fun _ _ => rfl; walk_at "side")
  | (apply jd_ixPs; walk_at "jd"; walk_at "jv"; exact fun _ _ => rfl; walk_at "side")
  | (apply jd_ixI; walk_at "jd"; walk_at "jv"; exact fun _ _ => rfl; walk_at "side")
  | (apply jd_ixP1; walk_at "jd")
  | (apply jd_ixP2; walk_at "jd")
  | walk_at "calld")
local macro_rules | `(tactic| walk_at "jd") => `(tactic| first
  | (apply JV.toD; walk_at "var"; walk_at "dp")
  | walk_at "jx"
  | (apply jd_list; walk_at "jad"; exact Nat.le_of_ble_eq_true rfl)
  | (apply jd_tuple; walk_at "jad"; exact Nat.le_of_ble_eq_true rfl)
  | (apply jd_listOf; walk_at "bm"; walk_at "jd"; exact rfl; exact boot_tlist; walk_at "ns")
  | (apply JV.toD (v := V.int _); walk_at "jv"; exact Dx.int _)
  | (apply JV.toD (v := V.bl _); walk_at "jv"; exact Dx.bl _)
  | (apply JV.toD (v := V.str _); walk_at "jv"; exact Dx.str _)
  | (apply jd_ifE; walk_at "jt"; intro hif; walk_at "jd"; intro hif; walk_at "jd"))
local macro_rules | `(tactic| walk_at "jad") => `(tactic| first
  | exact jad_nil
  | (apply jad_cons; walk_at "jd"; walk_at "jad"; walk_at "ns"))
local macro_rules | `(tactic| walk_at "jo") => `(tactic| first
  | (apply jo_isN; walk_at "jv")
  | (apply jo_notN; walk_at "jv")
  | (apply jo_eqI; walk_at "jv"; walk_at "jv")
  | (apply jo_neI; walk_at "jv"; walk_at "jv")
  | (apply jo_lt; walk_at "jv"; walk_at "jv")
  | (apply jo_le; walk_at "jv"; walk_at "jv")
  | (apply jo_gt; walk_at "jv"; walk_at "jv")
  | (apply jo_ge; walk_at "jv"; walk_at "jv")
  | (apply jo_inN; walk_at "hu"; walk_at "jv"; walk_at "jd")
  | (apply jo_niN; walk_at "hu"; walk_at "jv"; walk_at "jd")
  | (apply jo_eqD; walk_at "hu"; walk_at "jd"; walk_at "jd"; walk_at "shp"; walk_at "shp")
  | (apply jo_neD; walk_at "hu"; walk_at "jd"; walk_at "jd"; walk_at "shp"; walk_at "shp"))
local macro_rules | `(tactic| walk_at "shp") => `(tactic| first
  | assumption
  | exact Shp.shaped eLL _
  | exact Shp.shaped ePs _
  | exact Shp.shaped eNs _
  | exact Shp.shaped ePss _
  | exact Shp.shaped eP _
  | exact Shp.shaped eN _
  | exact Shp.shaped eI _
  | decide)
local macro_rules | `(tactic| walk_at "jw") => `(tactic| first
  | (apply jw_one_and; walk_at "jt")
  | (apply jw_one_or; walk_at "jt")
  | (apply jw_and; walk_at "jt"; intro hand; walk_at "jw")
  | (apply jw_or; walk_at "jt"; intro hor; walk_at "jw"))
local macro_rules | `(tactic| walk_at "jt") => `(tactic| first
  | (apply jt_w; walk_at "jw")
  | (apply jt_cmp; walk_at "jo"; (first | exact rfl | exact nomark _))
  | (apply jt_not; walk_at "jt")
  | (apply jt_val; walk_at "jv"; exact fun _ => rfl)
  | (apply jt_chain op_le op_le; walk_at "jv"; walk_at "jv"; walk_at "jv"; with_unfolding_all rfl))
local macro_rules | `(tactic| walk_at "camp") => `(tactic| first | assumption | (refine' CampAt.mono ?_ (by assumption); walk_at "ex"))
local macro_rules | `(tactic| walk_at "calld") => `(tactic| first
  | (apply jd_told; assumption; walk_at "var"; walk_at "camp"; exact rfl)
  | walk_at "calld2")
local macro_rules | `(tactic| walk_at "calld2") => `(tactic| first
  | fail "calld2")
local macro_rules | `(tactic| walk_at "room") => `(tactic| first
  | assumption
  | exact Room.mono (by assumption) (by decide))
local macro_rules | `(tactic| walk_at "bm") => `(tactic| first
  | assumption
  | exact Tx.len (by assumption)
  | exact Tx.range (by assumption)
  | exact Tx.list (by assumption)
  | exact Tx.all (by assumption)
  | exact Tx.any (by assumption)
  | exact Tx.isi (by assumption)
  | exact Tx.int (by assumption)
  | exact Tx.bool (by assumption)
  | exact Tx.set (by assumption)
  | exact Tx.tup (by assumption))
local macro_rules | `(tactic| walk_at "call") => `(tactic| first
  | (apply jv_size; assumption; walk_at "var"; walk_at "camp"; exact rfl)
  | (apply jv_index; walk_at "hu"; walk_at "jd"; walk_at "jv"; walk_at "side"; walk_at "ns"; exact rfl; exact rfl; exact rfl)
  | (apply jv_would; assumption; assumption; walk_at "room"; walk_at "var"; walk_at "camp"; walk_at "jv"; walk_at "jv"; walk_at "side"; walk_at "side"; walk_at "ns"; walk_at "ns"; exact rfl; exact rfl)
  | walk_at "call2")
local macro_rules | `(tactic| walk_at "call2") => `(tactic| first
  | fail "call2")
local macro_rules | `(tactic| walk_at "call2") => `(tactic| first
  | (apply jv_cell; assumption; walk_at "room"; walk_at "var"; assumption; walk_at "jv"; exact rfl; walk_at "ns"; walk_at "ns"; exact rfl)
  | (apply jv_draw; assumption; walk_at "room"; walk_at "jv"; walk_at "jv"; walk_at "jv"; walk_at "side"; exact rfl; walk_at "ns"; walk_at "ns"; walk_at "ns"; exact rfl)
  | (apply jv_Lwould; assumption; walk_at "room"; walk_at "jd"; walk_at "jv"; walk_at "jv"; walk_at "side"; walk_at "side"; exact rfl; walk_at "ns"; walk_at "ns"; walk_at "ns"; exact rfl)
  | (apply jv_Lrather; assumption; walk_at "room"; walk_at "jd"; walk_at "jv"; walk_at "jv"; walk_at "jv"; walk_at "side"; walk_at "side"; exact rfl; walk_at "ns"; walk_at "ns"; walk_at "ns"; walk_at "ns"; exact rfl)
  | walk_at "call3")
local macro_rules | `(tactic| walk_at "call3") => `(tactic| first
  | fail "call3")
theorem JN.is {X : Cx} {σ : L2.St} {e : Expr} {G : Hp} {d1 d : List PyData} (h : JN X σ e G d1) (q : d1 = d) : JN X σ e G d := q ▸ h
theorem cut_take {α : Type} (xs : List α) (d : Nat) : cut xs none (some (d : Int)) = xs.take d := by
  unfold cut
  rw [HT.sIx_none, HT.sIx_nat, List.drop_zero, Nat.sub_zero]
  by_cases h : d ≤ xs.length
  · rw [Nat.min_eq_left h]
  · rw [Nat.min_eq_right (by omega), List.take_length, List.take_of_length_le (by omega)]
def tabMany : List Int := [4, 3, 4, 2, 4, 3, 4, 1]
def tabRing : List Int := [3, 5, 3, 4]
theorem tabMany_ok (n : Nat) (h : n < 8) : ∃ m : Nat, 1 ≤ m ∧ m ≤ 4 ∧ tabMany.getD n 0 = (m : Int) := by
  match n, h with
  | 0, _ => exact ⟨4, by decide, by decide, rfl⟩
  | 1, _ => exact ⟨3, by decide, by decide, rfl⟩
  | 2, _ => exact ⟨4, by decide, by decide, rfl⟩
  | 3, _ => exact ⟨2, by decide, by decide, rfl⟩
  | 4, _ => exact ⟨4, by decide, by decide, rfl⟩
  | 5, _ => exact ⟨3, by decide, by decide, rfl⟩
  | 6, _ => exact ⟨4, by decide, by decide, rfl⟩
  | 7, _ => exact ⟨1, by decide, by decide, rfl⟩
theorem tabRing_ok (n : Nat) (h : n < 4) : ∃ m : Nat, 3 ≤ m ∧ m ≤ 5 ∧ tabRing.getD n 0 = (m : Int) := by
  match n, h with
  | 0, _ => exact ⟨3, by decide, by decide, rfl⟩
  | 1, _ => exact ⟨5, by decide, by decide, rfl⟩
  | 2, _ => exact ⟨3, by decide, by decide, rfl⟩
  | 3, _ => exact ⟨4, by decide, by decide, rfl⟩
theorem nat_of {i : Int} {n : Nat} (h0 : 0 ≤ i) (h1 : i < n) : ∃ m : Nat, m < n ∧ i = (m : Int) := ⟨i.toNat, by omega, by omega⟩
section
variable {P : Program} {w : World} {K : PySem.W.Frag} {mg : Str → Option Value} {base : Heap} {C : Addr}
abbrev spLL (K : PySem.W.Frag) : Sp := spOf (fun _ : List Int × Nat => True) (fun i => [kS K i.1, kI (i.2 : Int)]) (fun _ G v => ∃ L, ValidL L ∧ Dx G v (eLL L))
theorem ok_Llists {f : Addr} {fd : FuncData} (F : Fun K "_law_lists" "_law_lists" s_L_lists f fd) (T : Tx K mg C) (hmin : mg "min" = none) (MC : Df P w K mg base "_law_cell_at" 1 (spCell K)) (MD : Df P w K mg base "_law_draw" 1 spDraw) : FnOk P w K mg base CX0 2 f fd ["_law_script", "_law_first"] (spLL K) := by
  refine fun_ok F sc_L_lists (fun _ => rfl) ?_
  rintro cdv A outer s H vs Q E ⟨ns, fi⟩ G hr _ al h k
  obtain ⟨_, _, rfl, ⟨sa, rfl, hsc⟩, rfl⟩ := al.two
  try dsimp only at hsc k ⊢
  have nd := sc_L_lists.nd
  have hr1 : Room 1 _ := hr
  refine b_setV (n := 2) h (v := .int (ns.getD fi 0)) (by walk_at "jv") nd rfl (by walk_at "loc") rfl (Or.inl rfl) (fun H1 h1 => ?_)
  refine b_setV (n := 3) h1 (v := .int (ns.getD (fi + 1) 0)) (jv_cell MC hr (by walk_at "var") hsc (JV.is (by walk_at "jv") (show V.int ((fi : Int) + 1) = V.int ((fi + 1 : Nat) : Int) from rfl)) rfl (by walk_at "ns") (by walk_at "ns") rfl) nd rfl (by walk_at "loc") rfl (Or.inl rfl) (fun H2 h2 => ?_)
  generalize ns.getD fi 0 = cell
  generalize ns.getD (fi + 1) 0 = other
  obtain ⟨m8, hm8, em8⟩ := nat_of (n := 8) (Int.emod_nonneg cell (by decide : (8 : Int) ≠ 0)) (Int.emod_lt_of_pos cell (by decide))
  obtain ⟨many0, hm1, hm4, em0⟩ := tabMany_ok m8 hm8
  refine b_setV (n := 4) h2 (v := .int (many0 : Int)) (JV.is (JD.toI (jd_ixTN (ns := tabMany) (n := m8) (JD.is (d1 := .tuple [.int 4, .int 3, .int 4, .int 2, .int 4, .int 3, .int 4, .int 1]) (by walk_at "jd") rfl) (JV.is (by walk_at "jv") (by rw [em8])) (fun _ _ => rfl) hm8)) (by rw [em0])) nd rfl (by walk_at "loc") rfl (Or.inl rfl) (fun H3 h3 => ?_)
  refine b_ifK (p := decide (cell / 256 % 8 = 1)) (fun s g hp => ∃ many : Nat, 1 ≤ many ∧ many ≤ 6 ∧ s = [some (.ref sa), some (.int (fi : Int)), some (.int cell), some (.int other), some (.int (many : Int)), none, none, none, none, none, none, none, none, none, none] ∧ Hs G H g hp [] ∧ Ex G g) h3 h3.ex (by walk_at "jt") (fun _ H4 h4 _ => ?_) (fun _ H4 h4 _ => b_nil ⟨G, many0, hm1, by omega, rfl, h4, Ex.refl _⟩) ?_
  · obtain ⟨q, hq, eq⟩ := nat_of (n := 4) (Int.emod_nonneg (cell / 2048) (by decide : (4 : Int) ≠ 0)) (Int.emod_lt_of_pos (cell / 2048) (by decide))
    refine b_setV (n := 4) h4 (v := .int ((5 + q / 3 : Nat) : Int)) (JV.is (by walk_at "jv") (by rw [eq]; rfl)) nd rfl (by walk_at "loc") rfl (Or.inl rfl) (fun H5 h5 => b_nil ⟨G, 5 + q / 3, by omega, by omega, rfl, h5, Ex.refl _⟩)
  rintro σ G1 H5 ⟨many, hm1, hm6, rfl, h5, e1⟩
  clear em0 hm4 em8 hm8
  refine b_setV (n := 5) h5 (v := .int (cell / 8 % 4)) (by walk_at "jv") nd rfl (by walk_at "loc") rfl (Or.inl rfl) (fun H6 h6 => ?_)
  generalize hkind : cell / 8 % 4 = kind
  refine b_setN (n := 6) h6 nd rfl (by walk_at "loc") (Or.inl rfl) (fun H7 lh h7 => ?_)
  refine b_for h7 (f := eN) (xs := List.range many) (ji_range1 T.range (by walk_at "jv") (by omega) rfl (by walk_at "ns")) PassesOwn.never rfl (fun _ => rfl) (fun G2 H8 h8 e2 => ?_)
  refine ⟨fun pre σ' G' H' => ∃ ws rows o7 o8 o10 o11 o12, σ' = [some (.ref sa), some (.int (fi : Int)), some (.int cell), some (.int other), some (.int (many : Int)), some (.int kind), some (.ref lh), o7, o8, none, o10, o11, o12, none, none] ∧ Hs G H G' H' [(lh, .lst ws)] ∧ Ex G2 G' ∧ DxAll G' ws (rows.map eNs) ∧ Rows many pre.length rows, ?_, ?_, ?_, ?_⟩
  · exact ⟨[], [], none, none, none, none, none, rfl, h8, Ex.refl _, .nil, rfl, fun i hi => absurd hi (Nat.not_lt_zero _)⟩
  · rintro pre σ' G' H' ⟨ws, rows, o7, o8, o10, o11, o12, rfl, hs, e, _⟩
    exact ⟨e, hs.ex⟩
  · rintro pre c post v σ' G' H' hxs ⟨ws, rows, o7, o8, o10, o11, o12, rfl, hs, e, hdw, hrows⟩ pv
    cases pv
    have hc : c < many := by
      have : c ∈ List.range many := by rw [hxs]; simp
      simpa using this
    have hpl : pre.length = c := by
      have a1 := congrArg (fun l => l[pre.length]?) hxs
      simp only [List.getElem?_append_right (Nat.le_refl _), Nat.sub_self, List.getElem?_cons_zero] at a1
      have hlt : pre.length < many := by
        have := congrArg List.length hxs
        rw [List.length_range, List.length_append, List.length_cons] at this
        omega
      rw [List.getElem?_range hlt] at a1
      exact Option.some.inj a1
    refine wg_name (n := 7) nd rfl (by walk_at "loc") (Or.inl rfl) ?_
    refine b_setLcT (n := 9) (m := 8) (f0 := eN) (xs := List.range many) (p := fun y : Nat => !decide ((y : Int) = (c : Int))) (f := eN) hs (ji_range1 T.range (by walk_at "jv") (by omega) rfl (by walk_at "ns")) (by rw [List.length_range]; omega) rfl nd rfl (fun _ _ _ _ _ => ⟨by walk_at "loc", by walk_at "loc"⟩) (by first | kernel_rfl | rfl) (fun _ => rfl) rfl rfl (sw_true rfl rfl rfl (by decide +kernel)) ?lt ?le (fun G3 H9 l ls0 h9 e3 hdl0 => ?_)
    case lt =>
      intro s h C cl fp y hy G2 u e3 pu
      cases pu
      walk_at "jt"
    case le =>
      intro s h C cl fp y hy hp G2 u e3 pu
      cases pu
      walk_at "jd"
    refine b_setN (n := 10) h9 nd rfl (by walk_at "loc") (Or.inl rfl) (fun H10 t h10 => ?_)
    have hws : ws.length ≤ 6 := by rw [hdw.length, List.length_map, hrows.1]; omega
    have hst := start_row many c
    have hll0 : ((List.range many).filter (fun y : Nat => !decide ((y : Int) = (c : Int)))).length ≤ 6 := by
      have := List.length_filter_le (fun y : Nat => !decide ((y : Int) = (c : Int))) (List.range many)
      rw [List.length_range] at this
      omega
    refine b_while (G := upd G3 l (.lst ls0)) PassesOwn.never (fun n σ Gp H' => ∃ (ls ts : List V) (left told : List Nat), Gp = upd G3 l (.lst ls) ∧ σ = [some (.ref sa), some (.int (fi : Int)), some (.int cell), some (.int other), some (.int (many : Int)), some (.int kind), some (.ref lh), some (.int (c : Int)), some (.ref l), none, some (.ref t), o11, o12, none, none] ∧
      Hs G H G3 H' [(t, .lst ts), (l, .lst ls), (lh, .lst ws)] ∧ DxAll G3 ls (left.map eN) ∧ DxAll G3 ts (told.map eN) ∧ n = left.length ∧ left.length + told.length ≤ 6 ∧ Row many c (left ++ told)) (m0 := ((List.range many).filter (fun y : Nat => !decide ((y : Int) = (c : Int)))).length) ?_ ?_
    · exact ⟨ls0, [], _, [], rfl, rfl, h10, hdl0, .nil, rfl, by simpa using hll0, hst⟩
    · rintro n σ Gp H11 ⟨ls, ts, left, told, rfl, rfl, h11, hdl, hdt, rfl, hlen, hrow⟩
      obtain ⟨eg, eG⟩ := h11.seenM (p := l) (u := .lst ls) (by simp)
      have hdL : Dx (upd G3 l (.lst ls)) (.ref l) (eNs left) := .lst upd_same (hdl.mono eG)
      have hll : ls.length = left.length := by rw [hdl.length, List.length_map]
      have htl : ts.length = told.length := by rw [hdt.length, List.length_map]
      refine ⟨eg, !decide (left.length = 0), JT.is (jt_cmp (jo_neD (Room.units hr) (by walk_at "jd") (jd_list jad_nil (Nat.zero_le _)) (Shp.shaped eNs left) (by decide)) rfl) (by rw [eqv_nil]), fun hb H12 e12 => ?_, fun hb H12 e12 => ?_⟩
      · have hne : 0 < left.length := by
          have : ¬ left.length = 0 := by simpa using hb
          omega
        have h12 := h11.flat e12
        refine b_appendPop (n := 10) (m := 8) h12 rfl rfl (by walk_at "vis") rfl rfl (by walk_at "vis") (eg.trans e12) (JV.toP (v := .int (drawN (other / 3 + 31 * (c : Int)) left.length left.length : Int)) (by walk_at "jv") ⟨_, by rw [hll]; exact drawN_lt _ _ hne, rfl⟩) (by omega) (by omega) rfl rfl rfl rfl (by walk_at "ns") rfl rfl rfl rfl rfl rfl rfl (fun H13 d z hd hz h13 => ?_)
        obtain ⟨dd, q1, pz⟩ := hdl.back hz
        have hdlt : d < left.length := by omega
        rw [List.getElem?_map, List.getElem?_eq_getElem hdlt] at q1
        cases q1
        refine b_nil ⟨(left.eraseIdx d).length, _, by rw [List.length_eraseIdx, if_pos hdlt]; omega, ls.eraseIdx d, ts ++ [z], left.eraseIdx d, told ++ [left[d]], rfl, rfl, h13, ?_, ?_, rfl, ?_, drawn_row hrow hdlt⟩
        · rw [map_eraseIdx]; exact hdl.eraseIdx d
        · rw [List.map_append]; exact hdt.snoc pz
        · rw [List.length_eraseIdx, if_pos hdlt, List.length_append, List.length_singleton]; omega
      · have h12 := (h11.flat e12).swap.tail
        have hl0 : left = [] := by
          have : left.length = 0 := by simpa using hb
          exact List.length_eq_zero_iff.mp this
        subst hl0
        rw [List.nil_append] at hrow
        have htl6 : told.length ≤ 6 := by simpa using hlen
        clear hdL hdl hll h11 eg eG
        -- if kind == 1
        refine b_ifK (p := decide (kind = 1)) (fun s g hp => ∃ t2 ts2 told2 q11 q12, s = [some (.ref sa), some (.int (fi : Int)), some (.int cell), some (.int other), some (.int (many : Int)), some (.int kind), some (.ref lh), some (.int (c : Int)), some (.ref l), none, some (.ref t2), q11, q12, none, none] ∧ Hs G H g hp [(t2, .lst ts2), (lh, .lst ws)] ∧ Ex G3 g ∧ DxAll g ts2 (told2.map eN) ∧ Row many c told2 ∧ told2.length ≤ 6) h12 h12.ex (by walk_at "jt") (fun _ H13 h13 _ => ?_) (fun _ H13 h13 _ => b_nil ⟨G3, t, ts, told, _, _, rfl, h13, Ex.refl _, hdt, hrow, htl6⟩) ?_
        · obtain ⟨eg, eG⟩ := h13.seen
          have hdT : Dx (upd G3 t (.lst ts)) (.ref t) (eNs told) := .lst upd_same (hdt.mono eG)
          refine b_setNI (n := 10) (ns := told.take (drawN (other + 7 * (c : Int)) 6 many)) h13 eg (JN.is (jn_slice (l := none) (h := some (drawN (other + 7 * (c : Int)) 6 many : Int)) (by walk_at "jd") rfl ⟨_, rfl, jv_draw MD hr (by walk_at "jv") (JV.is jv_int (show V.int (6 : Int) = V.int ((6 : Nat) : Int) from rfl)) (by walk_at "jv") (by omega) rfl (by walk_at "ns") (by walk_at "ns") (by walk_at "ns") rfl⟩) (by rw [cut_map, cut_take])) nd rfl (by walk_at "loc") rfl (Or.inl rfl) (fun H14 t2 ts2 h14 hd14 => b_nil ⟨G3, t2, ts2, _, _, _, rfl, h14.swap.tail, Ex.refl _, hd14, hrow.take _, by rw [List.length_take]; omega⟩)
        clear hdt htl hrow htl6 hlen
        rintro σ G4 H14 ⟨t2, ts2, told2, q11, q12, rfl, h14, e4, hd2, hrow2, hl2⟩
        -- if kind == 2 and many > 2
        refine b_ifK (p := decide (kind = 2) && decide ((2 : Int) < (many : Int))) (fun s g hp => ∃ t2 ts2 told2 q11 q12, s = [some (.ref sa), some (.int (fi : Int)), some (.int cell), some (.int other), some (.int (many : Int)), some (.int kind), some (.ref lh), some (.int (c : Int)), some (.ref l), none, some (.ref t2), q11, q12, none, none] ∧ Hs G H g hp [(t2, .lst ts2), (lh, .lst ws)] ∧ Ex G3 g ∧ DxAll g ts2 (told2.map eN) ∧ Row many c told2) h14 h14.ex (by walk_at "jt") (fun hb2 H15 h15 _ => ?_) (fun _ H15 h15 _ => b_nil ⟨G4, t2, ts2, told2, _, _, rfl, h15, e4, hd2, hrow2⟩) ?_
        · have hm3 : 3 ≤ many := by
            simp only [Bool.and_eq_true, decide_eq_true_eq] at hb2
            omega
          obtain ⟨m4, hm4, em4⟩ := nat_of (n := 4) (Int.emod_nonneg (cell / 32) (by decide : (4 : Int) ≠ 0)) (Int.emod_lt_of_pos (cell / 32) (by decide))
          obtain ⟨r0, hr3, hr5, er0⟩ := tabRing_ok m4 hm4
          obtain ⟨r, er, hr3, hrm⟩ : ∃ r : Nat, (if (r0 : Int) < (many : Int) then (r0 : Int) else (many : Int)) = (r : Int) ∧ 3 ≤ r ∧ r ≤ many := by
            by_cases q : r0 < many
            · exact ⟨r0, by rw [if_pos (by omega)], hr3, by omega⟩
            · exact ⟨many, by rw [if_neg (by omega)], hm3, Nat.le_refl _⟩
          refine b_setV (n := 11) h15 (v := .int (r : Int)) (JV.is (jv_min rfl hmin (i := (many : Int)) (j := (r0 : Int)) (by walk_at "jv") (JV.is (JD.toI (jd_ixTN (ns := tabRing) (n := m4) (JD.is (d1 := .tuple [.int 3, .int 5, .int 3, .int 4]) (by walk_at "jd") rfl) (JV.is (by walk_at "jv") (by rw [em4])) (fun _ _ => rfl) hm4)) (by rw [er0])) rfl (by decide +kernel) (by walk_at "ns") (by walk_at "ns")) (by rw [er])) nd rfl (by walk_at "loc") rfl (Or.inl rfl) (fun H16 h16 => ?_)
          refine b_if (p := decide ((c : Int) < (r : Int))) h16 (by walk_at "jt") (fun hb3 H17 h17 => ?_) (fun _ H17 h17 => b_nil (b_nil ⟨G4, t2, ts2, told2, _, _, rfl, h17, e4, hd2, hrow2⟩))
          have hcr : c < r := by simpa using hb3
          have er1 : (c : Int) + (r : Int) - 1 = ((c + r - 1 : Nat) : Int) := by omega
          refine b_setD (n := 12) h17 (d := eNs [(c + 1) % r, (c + r - 1) % r]) (JD.is (d1 := .list [.int (((c : Int) + 1) % (r : Int)), .int (((c : Int) + (r : Int) - 1) % (r : Int))]) (by walk_at "jd") (by rw [er1]; rfl)) nd rfl (by walk_at "loc") rfl (Or.inl rfl) (fun G5 H18 ft h18 e5 hft => ?_)
          obtain ⟨eg, eG⟩ := h18.seen
          have hdT : Dx (upd G5 t2 (.lst ts2)) (.ref t2) (eNs told2) := .lst upd_same ((hd2.mono e5).mono eG)
          have hft2 : Dx (upd G5 t2 (.lst ts2)) ft (eNs [(c + 1) % r, (c + r - 1) % r]) := hft.mono eG
          refine b_setNI (n := 10) (ns := [(c + 1) % r, (c + r - 1) % r] ++ told2.filter (fun x => !decide (x ∈ [(c + 1) % r, (c + r - 1) % r]))) h18 eg (JN.is (jn_cat (by walk_at "jd") (JN.toD (jn_lcT (n := 9) (f0 := eN) (xs := told2) (p := fun x => !decide (x ∈ [(c + 1) % r, (c + r - 1) % r])) (f := eN) (ji_list (by walk_at "jd")) (by omega) rfl nd rfl (fun _ _ _ _ _ => ⟨by walk_at "loc", by walk_at "loc"⟩) (by first | kernel_rfl | rfl) (fun _ => rfl) ?lt2 ?le2)) ?len2) (by rw [List.map_append])) nd rfl (by walk_at "loc") rfl (Or.inl rfl) (fun H19 t3 ts3 h19 hd3 => b_nil (b_nil ⟨G5, t3, ts3, _, _, _, rfl, h19.swap.tail, e4.trans e5, hd3, hrow2.ring hr3 hrm hcr⟩))
          case lt2 =>
            intro s h C cl fp y hy G2 u e3 pu
            cases pu
            walk_at "jt"
          case le2 =>
            intro s h C cl fp y hy hp G2 u e3 pu
            cases pu
            walk_at "jd"
          case len2 =>
            rw [List.length_map, List.length_map]
            have := List.length_filter_le (fun x => !decide (x ∈ [(c + 1) % r, (c + r - 1) % r])) told2
            show 2 + _ ≤ _
            omega
        clear hd2 hrow2 hl2
        rintro σ G5 H15 ⟨t3, ts3, told3, s11, s12, rfl, h15, e5, hd3, hrow3⟩
        obtain ⟨hf, ef⟩ := h15.fix
        have hdT : Dx (upd G5 t3 (.lst ts3)) (.ref t3) (eNs told3) := .lst upd_same (hd3.mono ef)
        refine b_append (n := 6) (d := eNs told3) hf rfl rfl (by walk_at "vis") (by walk_at "jd") (by omega) rfl rfl (by walk_at "ns") rfl rfl rfl rfl (fun G6 H16 v6 h16 e6 d6 => b_nil ⟨G6, ws ++ [v6], rows ++ [told3], _, _, _, _, _, rfl, h16, (e.trans e3).trans ((e5.trans ef).trans e6), ?_, ?_⟩)
        · rw [List.map_append]
          exact (hdw.mono ((e3.trans e5).trans (ef.trans e6))).snoc d6
        · rw [List.length_append, List.length_singleton]
          rw [hpl] at hrows ⊢
          exact hrows.snoc hrow3
  · rintro σ' G' H' ⟨ws, L, o7, o8, o10, o11, o12, rfl, hs, e, hdw, hrows⟩
    rw [List.length_range] at hrows
    have hLn : L.length = many := hrows.1
    obtain ⟨hf, ef⟩ := hs.fix
    have hdL : Dx (upd G' lh (.lst ws)) (.ref lh) (eLL L) := .lst upd_same (hdw.mono ef)
    refine b_if (p := !decide (kind = 2)) hf (by walk_at "jt") (fun _ H9 h9 => ?_) (fun _ H9 h9 => b_nil ?_)
    · exact b_retOwn (n := 6) rfl rfl (by walk_at "vis") rfl rfl (k _ _ _ _ h9 ⟨L, hrows.valid hm1 hm6, hdL⟩)
    · obtain ⟨sh, hsh, esh⟩ := nat_of (n := many) (Int.emod_nonneg (cell / 128) (show (many : Int) ≠ 0 by omega)) (Int.emod_lt_of_pos (cell / 128) (by omega))
      refine b_setV (n := 13) h9 (v := .int (sh : Int)) (JV.is (by walk_at "jv") (by rw [esh])) nd rfl (by walk_at "loc") rfl (Or.inl rfl) (fun H10 h10 => ?_)
      refine b_setLc (n := 10) (m := 14) (f0 := eNs) (xs := L) (f := fun _ => eNs []) h10 (ji_list (by walk_at "jd")) (by omega) rfl nd rfl (fun _ _ _ _ _ => ⟨by walk_at "loc", by walk_at "loc"⟩) (by first | kernel_rfl | rfl) (fun _ => rfl) rfl rfl (sw_true rfl rfl rfl (by decide +kernel)) (fun s h C cl fp y hy G2 u e3 pu => JD.is (d1 := .list []) (by walk_at "jd") rfl) (fun G3 H11 tu ts0 h11 e11 hd11 => ?_)
      refine b_for h11 (f := eN) (xs := List.range many) (ji_range1 T.range (by walk_at "jv") (by omega) rfl (by walk_at "ns")) PassesOwn.never rfl (fun _ => rfl) (fun G4 H12 h12 e12 => ?_)
      refine ⟨fun pre σ' G' H' => ∃ ts tl o7, σ' = [some (.ref sa), some (.int (fi : Int)), some (.int cell), some (.int other), some (.int (many : Int)), some (.int kind), some (.ref lh), o7, o8, none, o10, o11, o12, some (.int (sh : Int)), some (.ref tu)] ∧ Hs G H G' H' [(tu, .lst ts)] ∧ Ex G4 G' ∧ DxAll G' ts (tl.map eNs) ∧ Shf L sh pre.length tl, ?_, ?_, ?_, ?_⟩
      · refine ⟨ts0, L.map fun _ => [], o7, rfl, h12, Ex.refl _, ?_, by rw [List.length_map], fun c hc => absurd hc (Nat.not_lt_zero _)⟩
        rw [List.map_map]
        exact hd11.mono e12
      · rintro pre σ' G' H' ⟨ts, tl, o7, rfl, hs, e, _⟩
        exact ⟨e, hs.ex⟩
      · rintro pre c post v σ' G5 H13 hxs ⟨ts, tl, o7, rfl, hs5, e5, hd5, hshf⟩ pv
        cases pv
        have hc : c < many := by
          have : c ∈ List.range many := by rw [hxs]; simp
          simpa using this
        have hpl : pre.length = c := by
          have a1 := congrArg (fun l => l[pre.length]?) hxs
          simp only [List.getElem?_append_right (Nat.le_refl _), Nat.sub_self, List.getElem?_cons_zero] at a1
          have hlt : pre.length < many := by
            have := congrArg List.length hxs
            rw [List.length_range, List.length_append, List.length_cons] at this
            omega
          rw [List.getElem?_range hlt] at a1
          exact Option.some.inj a1
        rw [hpl] at hshf
        have hcL : c < L.length := by omega
        have hrl : (L.getD c []).length ≤ 6 := (hrows.valid hm1 hm6).len hcL
        refine wg_name (n := 7) nd rfl (by walk_at "loc") (Or.inl rfl) ?_
        refine b_setItem (n := 14) (m := (c + sh) % many) hs5 (d := eNs ((L.getD c []).map fun x => (x + sh) % many)) (JD.is (JN.toD (jn_lc (n := 9) (f0 := eN) (xs := L.getD c []) (f := fun x => eN ((x + sh) % many)) (ji_list (by walk_at "jd")) (by omega) rfl nd rfl (fun _ _ _ _ _ => ⟨by walk_at "loc", by walk_at "loc"⟩) (by first | kernel_rfl | rfl) (fun _ => rfl) ?body)) (by show _ = PyData.list (List.map eN (List.map _ _)); rw [List.map_map]; rfl)) rfl rfl (by walk_at "vis") (JV.is (v := .int (((c + sh) % many : Nat) : Int)) (u := .int (((c : Int) + (sh : Int)) % (many : Int))) (by walk_at "jv") rfl) ?len rfl rfl rfl rfl rfl (pg_sub pe_w pe_w set_list) (fun G6 H14 v6 h6 e6 d6 => ?_)
        case body =>
          intro s h C cl fp y hy G2 u e3 pu
          cases pu
          exact JD.is (d1 := .int (((y : Int) + (sh : Int)) % (many : Int))) (by walk_at "jd") rfl
        case len =>
          rw [hd5.length, List.length_map, hshf.1, hLn]
          exact Nat.mod_lt _ (by omega)
        refine b_nil ⟨G6, _, tl.set ((c + sh) % many) ((L.getD c []).map fun x => (x + sh) % many), _, rfl, h6, e5.trans e6, ?_, ?_⟩
        · rw [List.map_set]
          exact (hd5.mono e6).set _ d6
        · rw [List.length_append, List.length_singleton, hpl, ← hLn]
          exact hshf.step (by omega) hcL
      · rintro σ' G5 H13 ⟨ts, tl, o7, rfl, hs5, e5, hd5, hshf⟩
        rw [List.length_range, ← hLn] at hshf
        rw [← hLn] at hrows
        have hv := (hshf.rows (by omega) hrows).valid (by omega) (by omega)
        obtain ⟨hf5, ef5⟩ := hs5.fix
        exact b_retOwn (n := 14) rfl rfl (by walk_at "vis") rfl rfl (k _ _ _ _ hf5 ⟨tl, hv, .lst upd_same (hd5.mono ef5)⟩)
end
end TP

set_option Elab.async false
set_option linter.all false
set_option maxRecDepth 100000
set_option maxHeartbeats 4000000
namespace TP
open PySem PySem.Spec PyProof.Rows L2
open Evl (Ex)
-- tactics of this text: what an expression is worth (jv jd jt jo jw), growth (ex), what remains (side); call, calld: what the text adds
local macro_rules | `(tactic| walk_at "ex") => `(tactic| first | exact Ex.refl _ | assumption | (refine' Ex.trans ?_ (by assumption); walk_at "ex"))
local macro_rules | `(tactic| walk_at "vis") => `(tactic| first
  | exact Or.inl rfl
  | exact Or.inr (Or.inl rfl)
  | exact Or.inr (Or.inr rfl))
local macro_rules | `(tactic| walk_at "loc") => `(tactic| first
  | exact Or.inl rfl
  | exact Or.inr rfl)
local macro_rules | `(tactic| walk_at "side") => `(tactic| first
  | assumption
  | omega
  | decide
  | exact rfl
  | (simp_all; done)
  | (simp_all; omega))
local macro_rules | `(tactic| walk_at "hu") => `(tactic| first
  | exact room65 (by assumption)
  | exact Room.units (by assumption))
local macro_rules | `(tactic| walk_at "dp") => `(tactic| first | assumption | (refine' Dx.mono ?_ (by assumption); walk_at "ex"))
local macro_rules | `(tactic| walk_at "var") => `(tactic| first
  | (apply jv_var 0; exact rfl; exact rfl; walk_at "vis"; decide; decide)
  | (apply jv_var 1; exact rfl; exact rfl; walk_at "vis"; decide; decide)
  | (apply jv_var 2; exact rfl; exact rfl; walk_at "vis"; decide; decide)
  | (apply jv_var 3; exact rfl; exact rfl; walk_at "vis"; decide; decide)
  | (apply jv_var 4; exact rfl; exact rfl; walk_at "vis"; decide; decide)
  | (apply jv_var 5; exact rfl; exact rfl; walk_at "vis"; decide; decide)
  | (apply jv_var 6; exact rfl; exact rfl; walk_at "vis"; decide; decide)
  | (apply jv_var 7; exact rfl; exact rfl; walk_at "vis"; decide; decide)
  | (apply jv_var 8; exact rfl; exact rfl; walk_at "vis"; decide; decide)
  | (apply jv_var 9; exact rfl; exact rfl; walk_at "vis"; decide; decide)
  | (apply jv_var 10; exact rfl; exact rfl; walk_at "vis"; decide; decide)
  | (apply jv_var 11; exact rfl; exact rfl; walk_at "vis"; decide; decide)
  | (apply jv_var 12; exact rfl; exact rfl; walk_at "vis"; decide; decide)
  | (apply jv_var 13; exact rfl; exact rfl; walk_at "vis"; decide; decide)
  | (apply jv_var 14; exact rfl; exact rfl; walk_at "vis"; decide; decide)
  | (apply jv_var 15; exact rfl; exact rfl; walk_at "vis"; decide; decide)
  | (apply jv_var 16; exact rfl; exact rfl; walk_at "vis"; decide; decide)
  | (apply jv_var 17; exact rfl; exact rfl; walk_at "vis"; decide; decide)
  | (apply jv_var 18; exact rfl; exact rfl; walk_at "vis"; decide; decide)
  | (apply jv_var 19; exact rfl; exact rfl; walk_at "vis"; decide; decide))
local macro_rules | `(tactic| walk_at "bm") => `(tactic| first
  | assumption)
local macro_rules | `(tactic| walk_at "call") => `(tactic| first
  | fail "call")
local macro_rules | `(tactic| walk_at "calld") => `(tactic| first
  | fail "calld")
local macro_rules | `(tactic| walk_at "kit") => `(tactic| first
  | assumption
  | exact kit_ii
  | exact kit_ib
  | exact kit_bi
  | exact kit_bb
  | exact kit_li
  | exact kit_ll
  | exact kit_tt
  | exact kit_tl
  | exact kit_lt
  | exact kit_tb)
local macro_rules | `(tactic| walk_at "ns") => `(tactic| first
  | exact fun _ _ => rfl)
local macro_rules | `(tactic| walk_at "jv") => `(tactic| first
  | exact jv_int
  | exact jv_bl
  | exact jv_non
  | exact jv_str
  | walk_at "var"
  | (apply jv_add; walk_at "jv"; walk_at "jv")
  | (apply jv_sub; walk_at "jv"; walk_at "jv")
  | (apply jv_neg; walk_at "jv")
  | (apply jv_mul; walk_at "jv"; walk_at "jv"; walk_at "mulok")
  | (apply jv_fdiv; walk_at "jv"; walk_at "jv"; walk_at "divok")
  | (apply jv_mod; walk_at "jv"; walk_at "jv"; walk_at "side")
  | (apply jv_band; walk_at "jv"; walk_at "jv")
  | (apply jv_cmp; walk_at "jo"; (first | exact rfl | exact nomark _))
  | (apply jv_chain op_le op_le; walk_at "jv"; walk_at "jv"; walk_at "jv"; with_unfolding_all rfl)
  | (apply jv_chain op_le op_lt; walk_at "jv"; walk_at "jv"; walk_at "jv"; with_unfolding_all rfl)
  | (apply jv_and; walk_at "jv"; intro hand; walk_at "jv")
  | (apply jv_or; walk_at "jv"; intro hor; walk_at "jv")
  | (apply jv_not; walk_at "jv")
  | (apply jv_one; walk_at "jv")
  | (apply jv_lenM; walk_at "bm"; walk_at "jd"; exact rfl; walk_at "ns")
  | (apply jv_len; walk_at "bm"; walk_at "jd"; exact rfl; walk_at "ns")
  | (apply jv_all; exact rfl; walk_at "bm"; walk_at "jd"; exact rfl; decide +kernel; walk_at "ns")
  | (apply jv_any; exact rfl; walk_at "bm"; walk_at "jd"; exact rfl; decide +kernel; walk_at "ns")
  | (apply jv_lenT; walk_at "bm"; walk_at "jd"; exact rfl; walk_at "ns")
  | walk_at "call"
  | (apply jv_isi; (first | exact boot_tint | exact boot_tbool | exact boot_tlist | exact boot_ttuple); walk_at "bm"; walk_at "bm"; walk_at "jd"; walk_at "kit"; exact rfl; exact rfl; exact boot_isi; walk_at "ns"; decide; decide)
  | (apply jv_lenSet; exact rfl; walk_at "bm"; walk_at "bm"; walk_at "jd"; walk_at "side"; exact rfl; exact rfl; walk_at "ns")
  | (apply jv_ifE; walk_at "jt"; intro hif; walk_at "jv"; intro hif; walk_at "jv")
  | (apply JD.toI; walk_at "jx")
  | (apply JD.toB; walk_at "jx")
  | (apply JD.toS; walk_at "jx"))
local macro_rules | `(tactic| walk_at "mulok") => `(tactic| first
  | exact Or.inr ⟨by decide, by decide⟩
  | exact Or.inl ⟨by decide, by decide⟩
  | exact Or.inl ⟨by omega, by omega⟩
  | exact Or.inr ⟨by omega, by omega⟩)
local macro_rules | `(tactic| walk_at "divok") => `(tactic| first
  | exact ⟨by decide, by decide⟩
  | exact ⟨by omega, by omega⟩)
local macro_rules | `(tactic| walk_at "jx") => `(tactic| first
  | (apply jd_ixN; walk_at "jd"; walk_at "jv"; exact fun _ _ => rfl; walk_at "side")
  | (apply jd_ixNs; walk_at "jd"; walk_at "jv"; exact fun _ _ => rfl; walk_at "side")
  | (apply jd_ixP; walk_at "jd"; walk_at "jv"; exact fun _ _ => rfl; walk_at "side")
  | (apply jd_ixPs; walk_at "jd"; walk_at "jv"; exact fun _ _ => rfl; walk_at "side")
  | (apply jd_ixI; walk_at "jd"; walk_at "jv"; exact fun _ _ => rfl; walk_at "side")
  | (apply jd_ixP1; walk_at "jd")
  | (apply jd_ixP2; walk_at "jd")
  | walk_at "calld")
local macro_rules | `(tactic| walk_at "jd") => `(tactic| first
  | (apply JV.toD; walk_at "var"; walk_at "dp")
  | walk_at "jx"
  | (apply jd_list; walk_at "jad"; exact Nat.le_of_ble_eq_true rfl)
  | (apply jd_tuple; walk_at "jad"; exact Nat.le_of_ble_eq_true rfl)
  | (apply jd_listOf; walk_at "bm"; walk_at "jd"; exact rfl; exact boot_tlist; walk_at "ns")
  | (apply JV.toD (v := V.int _); walk_at "jv"; exact Dx.int _)
  | (apply JV.toD (v := V.bl _); walk_at "jv"; exact Dx.bl _)
  | (apply JV.toD (v := V.str _); walk_at "jv"; exact Dx.str _)
  | (apply jd_ifE; walk_at "jt"; intro hif; walk_at "jd"; intro hif; walk_at "jd"))
local macro_rules | `(tactic| walk_at "jad") => `(tactic| first
  | exact jad_nil
  | (apply jad_cons; walk_at "jd"; walk_at "jad"; walk_at "ns"))
local macro_rules | `(tactic| walk_at "jo") => `(tactic| first
  | (apply jo_isN; walk_at "jv")
  | (apply jo_notN; walk_at "jv")
  | (apply jo_eqI; walk_at "jv"; walk_at "jv")
  | (apply jo_neI; walk_at "jv"; walk_at "jv")
  | (apply jo_lt; walk_at "jv"; walk_at "jv")
  | (apply jo_le; walk_at "jv"; walk_at "jv")
  | (apply jo_gt; walk_at "jv"; walk_at "jv")
  | (apply jo_ge; walk_at "jv"; walk_at "jv")
  | (apply jo_inN; walk_at "hu"; walk_at "jv"; walk_at "jd")
  | (apply jo_niN; walk_at "hu"; walk_at "jv"; walk_at "jd")
  | (apply jo_eqD; walk_at "hu"; walk_at "jd"; walk_at "jd"; walk_at "shp"; walk_at "shp")
  | (apply jo_neD; walk_at "hu"; walk_at "jd"; walk_at "jd"; walk_at "shp"; walk_at "shp"))
local macro_rules | `(tactic| walk_at "shp") => `(tactic| first
  | assumption
  | exact Shp.shaped eLL _
  | exact Shp.shaped ePs _
  | exact Shp.shaped eNs _
  | exact Shp.shaped ePss _
  | exact Shp.shaped eP _
  | exact Shp.shaped eN _
  | exact Shp.shaped eI _
  | decide)
local macro_rules | `(tactic| walk_at "jw") => `(tactic| first
  | (apply jw_one_and; walk_at "jt")
  | (apply jw_one_or; walk_at "jt")
  | (apply jw_and; walk_at "jt"; intro hand; walk_at "jw")
  | (apply jw_or; walk_at "jt"; intro hor; walk_at "jw"))
local macro_rules | `(tactic| walk_at "jt") => `(tactic| first
  | (apply jt_w; walk_at "jw")
  | (apply jt_cmp; walk_at "jo"; (first | exact rfl | exact nomark _))
  | (apply jt_not; walk_at "jt")
  | (apply jt_val; walk_at "jv"; exact fun _ => rfl)
  | (apply jt_chain op_le op_le; walk_at "jv"; walk_at "jv"; walk_at "jv"; with_unfolding_all rfl))
local macro_rules | `(tactic| walk_at "camp") => `(tactic| first | assumption | (refine' CampAt.mono ?_ (by assumption); walk_at "ex"))
local macro_rules | `(tactic| walk_at "calld") => `(tactic| first
  | (apply jd_told; assumption; walk_at "var"; walk_at "camp"; exact rfl)
  | walk_at "calld2")
local macro_rules | `(tactic| walk_at "calld2") => `(tactic| first
  | fail "calld2")
local macro_rules | `(tactic| walk_at "room") => `(tactic| first
  | assumption
  | exact Room.mono (by assumption) (by decide))
local macro_rules | `(tactic| walk_at "bm") => `(tactic| first
  | assumption
  | exact Tx.len (by assumption)
  | exact Tx.range (by assumption)
  | exact Tx.list (by assumption)
  | exact Tx.all (by assumption)
  | exact Tx.any (by assumption)
  | exact Tx.isi (by assumption)
  | exact Tx.int (by assumption)
  | exact Tx.bool (by assumption)
  | exact Tx.set (by assumption)
  | exact Tx.tup (by assumption))
local macro_rules | `(tactic| walk_at "call") => `(tactic| first
  | (apply jv_size; assumption; walk_at "var"; walk_at "camp"; exact rfl)
  | (apply jv_index; walk_at "hu"; walk_at "jd"; walk_at "jv"; walk_at "side"; walk_at "ns"; exact rfl; exact rfl; exact rfl)
  | (apply jv_would; assumption; assumption; walk_at "room"; walk_at "var"; walk_at "camp"; walk_at "jv"; walk_at "jv"; walk_at "side"; walk_at "side"; walk_at "ns"; walk_at "ns"; exact rfl; exact rfl)
  | walk_at "call2")
local macro_rules | `(tactic| walk_at "call2") => `(tactic| first
  | fail "call2")
local macro_rules | `(tactic| walk_at "call2") => `(tactic| first
  | (apply jv_cell; assumption; walk_at "room"; walk_at "var"; assumption; walk_at "jv"; exact rfl; walk_at "ns"; walk_at "ns"; exact rfl)
  | (apply jv_draw; assumption; walk_at "room"; walk_at "jv"; walk_at "jv"; walk_at "jv"; walk_at "side"; exact rfl; walk_at "ns"; walk_at "ns"; walk_at "ns"; exact rfl)
  | (apply jv_Lwould; assumption; walk_at "room"; walk_at "jd"; walk_at "jv"; walk_at "jv"; walk_at "side"; walk_at "side"; exact rfl; walk_at "ns"; walk_at "ns"; walk_at "ns"; exact rfl)
  | (apply jv_Lrather; assumption; walk_at "room"; walk_at "jd"; walk_at "jv"; walk_at "jv"; walk_at "jv"; walk_at "side"; walk_at "side"; exact rfl; walk_at "ns"; walk_at "ns"; walk_at "ns"; walk_at "ns"; exact rfl)
  | walk_at "call3")
local macro_rules | `(tactic| walk_at "call3") => `(tactic| first
  | fail "call3")
/-! ### pure: what each has by good pairs -/
theorem haveGo_ok {L : List (List Nat)} : ∀ {ps : List (Nat × Nat)} {m : List Nat}, m.length = L.length → OkP L ps → (flatP ps).Nodup → (∀ i ∈ flatP ps, m.getD i 0 = i) → haveGo L ps m = ps.foldl matesStep m
  | [], _, _, _, _, _ => rfl
  | p :: ps, m, hl, ok, nd, hm => by
    have ef : flatP (p :: ps) = p.1 :: p.2 :: flatP ps := rfl
    rw [ef] at nd hm
    have n1 := List.nodup_cons.mp nd
    have n2 := List.nodup_cons.mp n1.2
    obtain ⟨h1, h2, h3⟩ := ok p List.mem_cons_self
    have e1 := hm p.1 List.mem_cons_self
    have e2 := hm p.2 (List.mem_cons_of_mem _ List.mem_cons_self)
    rw [haveGo, if_pos ⟨by rw [decide_eq_true e1, decide_eq_true e2]; rfl, h3⟩, List.foldl_cons]
    refine haveGo_ok ((matesStep_len m p).trans hl) (fun q hq => ok q (List.mem_cons_of_mem _ hq)) n2.2 fun i hi => ?_
    have q1 : p.1 ≠ i := fun e => n1.1 (by rw [e]; exact List.mem_cons_of_mem _ hi)
    have q2 : p.2 ≠ i := fun e => n2.1 (by rw [e]; exact hi)
    unfold matesStep
    rw [getD_set, getD_set, if_neg (fun z => q2 z.1), if_neg (fun z => q1 z.1)]
    exact hm i (List.mem_cons_of_mem _ (List.mem_cons_of_mem _ hi))
theorem haveL_ok {L : List (List Nat)} {ps : List (Nat × Nat)} (ok : OkP L ps) (nd : (flatP ps).Nodup) : haveL L ps = matesOf L.length ps := haveGo_ok List.length_range ok nd fun i hi => by
  have hlt : i < L.length := by
    unfold flatP at hi
    obtain ⟨p, hp, hx⟩ := List.mem_flatMap.mp hi
    obtain ⟨a, b, _⟩ := ok p hp
    simp at hx
    omega
  simp [List.getD_eq_getElem?_getD, hlt]
/-! ### changing what nobody knows of -/
section
variable {G0 H0 G H G' H' F : Hp} {b : Addr} {o : HO} {os : List (Addr × HO)}
theorem Hs.poke (h : Hs G0 H0 G H []) (hb : G b = none) (h0 : H0 b = none) : Hs G0 H0 G (upd H b o) [] := ⟨⟨h.st.g, Evl.Ex.mut h.ex hb, Evl.Ex.mut h.st.h h0, h.st.fr⟩, fun _ hx => (by simp at hx), by simp⟩
/-- what is new beside what is fixed, without what was made in between -/
theorem Hs.with (h : Hs G0 H0 G H []) (h2 : Hs G0 H0 G' H' []) (e : Ex G G') (eF : Ex F G') (fr : ∀ a, F a ≠ none → H a = none) : Hs G0 H0 (join G F) H' [] := by
  obtain ⟨j1, j2, j3⟩ := join_ex e eF
  refine ⟨⟨h.st.g.trans j1, j3.trans h2.ex, h2.st.h, fun a ha hj => ?_⟩, fun _ hx => (by simp at hx), by simp⟩
  rcases join_fr hj with z | z
  · exact h.st.fr a ha z
  · exact absurd (Evl.fresh_back h.st.h (fr a z)) ha
theorem dxAll_refs {G : Hp} : ∀ {vs : List V} {L : List (List Nat)}, DxAll G vs (L.map eNs) → ∀ x ∈ vs, ∃ b ys l, x = .ref b ∧ G b = some (.lst ys) ∧ l ∈ L ∧ DxAll G ys (l.map eN)
  | _, [], .nil, x, hx => by cases hx
  | _, l :: L, .cons a r, x, hx => by
    rcases List.mem_cons.mp hx with rfl | hx
    · obtain ⟨b, ys, e1, e2, e3⟩ := Dx.ref_of a
      exact ⟨b, ys, l, e1, e2, List.mem_cons_self, e3⟩
    · obtain ⟨b, ys, l', e1, e2, e3, e4⟩ := dxAll_refs r x hx
      exact ⟨b, ys, l', e1, e2, List.mem_cons_of_mem _ e3, e4⟩
end
section
variable {X : Cx} {σ : L2.St} {e o a b c tg iter : Expr} {es : List Expr} {G Ge G0 H0 H : Hp} {os : List (Addr × HO)} {pos : Pos} {x y : Str} {rest body : List Stmt} {D : Ends} {L : List (List Nat)}
/-- for over a list whose items may change -/
theorem b_forV {xs : List V} {la : Addr} {q : Pos} (eg : Ex Ge H) (hit : JV X σ iter Ge (.ref la)) (ha : H la = some (.lst xs)) (hp : PassesOwn (model X.prog X.w) X.A X.env X.xe) (hc : X.calm = true) (hs : ∀ x, foldedSetIterable iter X.env x = pure x)
    (k : ∀ H1, Ex H H1 → ∃ W : List V → L2.St → Hp → Prop, W [] σ H1 ∧ (∀ pre σ H, W pre σ H → H la = some (.lst xs)) ∧
      (∀ pre x post σ' H', xs = pre ++ x :: post → W pre σ' H' → wG X tg x σ' H' fun σ2 H2 => wSs X body { D with nx := W (pre ++ [x]), ct := W (pre ++ [x]), bk := wSs X rest D } σ2 H2) ∧
      (∀ σ' H', W xs σ' H' → wSs X rest D σ' H')) : wSs X (.For tg iter body [] q :: rest) D σ H := by
  refine b_cons ⟨_, ps_for hp hc (pi_list pe_w) pg_w pss_w hs, hit H eg _ fun H1 e1 => ?_⟩
  obtain ⟨W, w0, wx, wt, wd⟩ := k H1 e1
  refine ⟨la, rfl, ⟨xs, SqL.of (e1 _ _ ha)⟩, for_list (K := X.K) (a := la) (xs := xs) (D := { D with nx := wSs X rest D }) (fun i σ H => W (xs.take i) σ H) (by simpa using w0) (fun i σ H _ z => SqL.of (wx _ _ _ z)) ?_ fun σ H z => wd σ H (by simpa using z)⟩
  rintro i x σ' H' hx z
  obtain ⟨hlt, ex⟩ := List.getElem?_eq_some_iff.mp hx
  have split : xs = xs.take i ++ x :: xs.drop (i + 1) := by
    have := List.take_append_drop i xs
    rw [List.drop_eq_getElem_cons hlt, ex] at this
    exact this.symm
  have tk : xs.take (i + 1) = xs.take i ++ [x] := by rw [List.take_succ, hx]; rfl
  have := wt (xs.take i) x (xs.drop (i + 1)) σ' H' split z
  rw [← tk] at this
  exact this
/-- what is drawn -/
theorem b_setDrawn {n : Nat} {cell : Int} {p q ap cp : Pos} (M : Df X.prog X.w X.K X.mg X.base "_law_drawn" 3 spLD) (h : Hs G0 H0 G H os) (hr : Room 3 X.A) (ho : JD X σ a G (eLL L)) (hb : JV X σ b G (.int cell)) (hL : L.length ≤ 6) (hg : Gl X "_law_drawn") (na : NoStar a) (nb : NoStar b) (hpl : (backTo cp (starEach [b] X.env)).any (·.1) = false)
    (hN : X.N.Nodup) (hi : X.N[n]? = some x) (hx : Loc X.env.scope x) (hs : swapsWith (.Call (.Name "_law_drawn" ap) [a, b] [] cp) (some (.Name x p)) q.line X.env = pure false) (hf : X.fn x = true ∨ X.env.scope.names.lookup x = some .local)
    (k : ∀ G' H' l ws found m, Hs G0 H0 G' H' ((l, .lst ws) :: os) → Ex G G' → DxAll G' ws (found.map eP) → Drw L found m → wSs X rest D (σ.set n (some (.ref l))) H') :
    wSs X (.Assign [.Name x p] (.Call (.Name "_law_drawn" ap) [a, b] [] cp) q :: rest) D σ H := by
  obtain ⟨f, fd, ps, hfo, hm, hk, hbn⟩ := M
  refine b_setW hN hi hx hs hf ⟨_, pe_call hfo hr hg hm hk hbn .nil pass0 pa_w (by decide) (na _ _) hpl, ?_⟩
  refine (jal_cons ho.toP mo_D (fun _ e => jal_cons (hb.mono e).toPV mo_V (fun _ _ => jal_nil) nb) na) H h.ex _ fun G1 H1 vs s1 al => ?_
  rw [List.append_nil]
  refine ⟨L, cell, G1, s1.gh, hL, al, fun G2 H2 l ws found m s2 hl gl hq hd hdr => ?_⟩
  have h1 := h.stp s1
  exact k G2 H2 l ws found m (h1.newL s2 hl gl hq) (s1.g.trans s2.g) hd hdr
theorem jd_Llists {ns : List Int} {n : Nat} {sa : Addr} {ap : Pos} (M : Df X.prog X.w X.K X.mg X.base "_law_lists" 2 (spLL X.K)) (hr : Room 2 X.A) (ha : JV X σ a G (.ref sa)) (hs : Scr X.K G sa ns) (hb : JV X σ b G (.int (n : Int))) (hg : Gl X "_law_lists") (na : NoStar a) (nb : NoStar b) (hpl : (backTo pos (starEach [b] X.env)).any (·.1) = false) :
    JP X σ (.Call (.Name "_law_lists" ap) [a, b] [] pos) G (fun G v => ∃ L, ValidL L ∧ Dx G v (eLL L)) :=
  jp_call M hr hg (ns, n) trivial (jal_cons (ha.toP ⟨sa, rfl, hs⟩) mo_S (fun _ e => jal_cons (hb.mono e).toPV mo_V (fun _ _ => jal_nil) nb) na) na (by decide) hpl
theorem jv_Lwhole {ds : List PyData} {ap : Pos} (M : Df X.prog X.w X.K X.mg X.base "_law_whole" 1 spLWh) (hr : Room 1 X.A) (ha : JD X σ a G (.list ds)) (hI : ∀ d ∈ ds, IntsD d) (hg : Gl X "_law_whole") (na : NoStar a) (hpl : (backTo pos (starEach [] X.env)).any (·.1) = false) : JV X σ (.Call (.Name "_law_whole" ap) [a] [] pos) G (.bl true) :=
  (jp_call M hr hg ds hI (jal_cons ha.toP mo_D (fun _ _ => jal_nil) na) na (by decide) hpl).toB
theorem jn_Lbroken {m : List Nat} {ap : Pos} (M : Df X.prog X.w X.K X.mg X.base "_law_broken" 3 spLB) (hr : Room 3 X.A) (ho : JD X σ o G (eLL L)) (ha : JD X σ a G (eNs m)) (hL : L.length ≤ 6) (hm : OkM L m) (hg : Gl X "_law_broken") (no : NoStar o) (na : NoStar a) (hpl : (backTo pos (starEach [a] X.env)).any (·.1) = false) : JN X σ (.Call (.Name "_law_broken" ap) [o, a] [] pos) G (((openPairs L).filter (blocks L m)).map eP) :=
  jn_call M hr hg (L, m) ⟨hL, hm⟩ (jal_cons ho.toP mo_D (fun _ e => jal_cons (ha.mono e).toP mo_D (fun _ _ => jal_nil) na) no) no (by decide) hpl
end
theorem ints_P (ps : List (Nat × Nat)) : ∀ d ∈ ps.map eP, IntsD d := fun d hd => by
  obtain ⟨p, _, rfl⟩ := List.mem_map.mp hd
  exact ⟨[p.1, p.2], by show 2 ≤ 1000; decide, .inr rfl⟩
theorem ints_L {L : List (List Nat)} (hv : ValidL L) : ∀ d ∈ L.map eNs, IntsD d := fun d hd => by
  obtain ⟨l, hl, rfl⟩ := List.mem_map.mp hd
  obtain ⟨i, hi, e⟩ := List.mem_iff_getElem.mp hl
  have := hv.len hi
  rw [List.getD_eq_getElem?_getD, List.getElem?_eq_getElem hi, Option.getD_some, e] at this
  exact ⟨l, by omega, .inl rfl⟩
end TP

set_option Elab.async false
set_option linter.all false
set_option maxRecDepth 100000
set_option maxHeartbeats 2000000
namespace TP
open PySem PySem.Spec PyProof.Rows L2
open Evl (Ex)
/-! ### texts: slices, signs, not in, times; range with a step; max of a list -/
section
variable {X : Cx} {σ : L2.St} {e o a b c tg : Expr} {G : Hp} {pos : Pos} {x y : Str} {i : Int}
theorem jv_sliceS {lo hi : Option Expr} {l h : Option Int} {p2 : Pos} (ha : JV X σ a G (.str x)) (hx : x.length ≤ sizeLine) (hl : JOp X σ lo G l) (hh : JOp X σ hi G h) : JV X σ (.Subscript a (.Slice lo hi none p2) pos) G (.str (cutS x l h)) := ⟨fun H eh Q q => by
  have part : ∀ {w : Option Expr} {i : Option Int}, JOp X σ w G i → ∃ t, PO X w t ∧ ∀ H1, Ex G H1 → ∀ Q : Option Int → Hp → Prop, (∀ H2, Ex H1 H2 → Q i H2) → t σ H1 Q := fun {w i} z => by
    cases w with
    | none =>
      cases z
      exact ⟨_, po_none, fun H1 _ Q q => q H1 (Ex.refl _)⟩
    | some w =>
      obtain ⟨k, rfl, z⟩ := z
      exact ⟨_, po_some pe_w, fun H1 e1 Q q => z H1 e1 _ fun H2 e2 => ⟨k, rfl, q H2 e2⟩⟩
  obtain ⟨t1, p1, r1⟩ := part hl
  obtain ⟨t2, p2, r2⟩ := part hh
  exact ⟨_, pe_slice sl_str pe_w p1 p2, ha H eh _ fun H1 e1 => r1 H1 (eh.trans e1) _ fun H2 e2 => r2 H2 ((eh.trans e1).trans e2) _ fun H3 e3 => ⟨x, rfl, hx, q H3 ((e1.trans e2).trans e3)⟩⟩⟩
theorem jv_ixStr {k : Nat} (ha : JV X σ a G (.str x)) (hb : JV X σ b G (.int i)) (hx : x.length ≤ sizeLine) (h : L2.atI x.cps.toList i = some k) (hs : PlainIx b) : JV X σ (.Subscript a b pos) G (.str ⟨#[k]⟩) := ⟨fun H eh Q q =>
  ⟨_, pe_ix ix_str pe_w pe_w hs, ha H eh _ fun H1 e1 => hb H1 (eh.trans e1) _ fun H2 e2 => ⟨x, i, k, rfl, rfl, hx, h, q H2 (e1.trans e2)⟩⟩⟩
theorem jo_niS (ha : JV X σ a G (.str x)) (hb : JV X σ b G (.str y)) : JO X σ .NotIn a b G (.bl (!(!(Builtin.Str.occurrences y x 0 y.length 1).isEmpty))) := jo_of op_notIn_str ha hb fun H Q q => ⟨x, y, rfl, rfl, q⟩
def times (x : Str) (n : Nat) : Str := ⟨(List.replicate n x.cps).foldl (· ++ ·) #[]⟩
theorem times_cps {k : Nat} : ∀ n : Nat, (times ⟨#[k]⟩ n).cps.toList = List.replicate n k := fun n => by
  have key : ∀ (m : Nat) (acc : Array Nat), ((List.replicate m (#[k] : Array Nat)).foldl (· ++ ·) acc).toList = acc.toList ++ List.replicate m k := fun m => by
    induction m with
    | zero => intro acc; simp
    | succ m ih =>
      intro acc
      rw [List.replicate_succ, List.foldl_cons, ih, List.replicate_succ]
      simp
  have := key n #[]
  simpa [times] using this
theorem times_len {z : Str} {n : Nat} (h : z.length = 1) : (times z n).length = n := by
  obtain ⟨⟨l⟩⟩ := z
  match l, h with
  | [k], _ =>
    have := congrArg List.length (times_cps (k := k) n)
    rw [List.length_replicate] at this
    exact (by simpa [Str.length] using this)
theorem op_mulS : OpR X (binaryOp .Mult) (fun u v H Q => ∃ (z : Str) (n : Nat), u = .str z ∧ v = .int (n : Int) ∧ 2 ≤ n ∧ n ≤ 100000 ∧ z.length = 1 ∧ Q (.str (times z n)) H) := by
  intro pins s σ H u v uv vv Q I ru rv ⟨z, n, eu, ev, n2, n5, z1, q⟩
  subst eu ev
  obtain ⟨t, rfl⟩ := ru
  obtain ⟨t', rfl⟩ := rv
  refine PySem.P.mul_str ?_ ?_ ?_ ?_
  · rw [decide_eq_false (by omega), decide_eq_false (by omega)]; rfl
  · intro _ _
    rw [z1]
    have h1 : (100000 : Int) * 2 ≤ 2 ^ 63 - 1 := by decide
    have h2 : (2 : Int) ≤ (2 ^ 63 - 1) / (n : Int) := by
      apply Int.le_ediv_of_mul_le (by omega)
      omega
    omega
  · intro _ _
    rw [z1]
    unfold Builtin.Str.tooLong
    simp only [decide_eq_false_iff_not]
    rw [sizeLine_eq]
    omega
  · rw [if_neg (by omega), if_neg (by rw [z1]; simp; omega), Int.toNat_natCast]
    exact ⟨times_len z1 ▸ (by rw [sizeLine_eq]; omega), .str (times z n), H, I.tok _, ⟨_, rfl⟩, q⟩
theorem jv_mulS {n : Nat} (ha : JV X σ a G (.str x)) (hb : JV X σ b G (.int (n : Int))) (hx : x.length = 1) (h2 : 2 ≤ n) (h5 : n ≤ 100000) : JV X σ (.BinOp a .Mult b pos) G (.str (times x n)) := jv_op op_mulS ha hb fun H Q q => ⟨x, n, rfl, rfl, h2, h5, hx, q⟩
/-- range(2, n, 2) -/
theorem ji_range3 {n m : Nat} {p : Pos} (hm : X.mg "range" = none) (h1 : JV X σ a G (.int i)) (h2 : JV X σ b G (.int (n : Int))) (h3 : JV X σ c G (.int 2)) (hr : RgC i (n : Int) 2 m) (hg : Gl X "range") (he : NoStar a) (hf : NoStar b) (hc : NoStar c) :
    JI X σ tg (.Call (.Name "range" p) [a, b, c] [] pos) G ((List.range m).map fun k => .int (i + (k : Nat) * 2)) := ⟨fun H eh R q =>
  ⟨_, pi_range3 hg hm (pa_cons pe_w (pa_cons pe_w (pa_cons pe_w pa_nil (hc _ _)) (hf _ _)) (he _ _)) (he _ _) (by rw [hf, hc] <;> rfl), h1 H eh _ fun H1 e1 => h2 H1 (eh.trans e1) _ fun H2 e2 => h3 H2 ((eh.trans e1).trans e2) _ fun H3 e3 => by
  refine ⟨i, n, 2, m, rfl, hr, q G H3 _ (.flat eh ((e1.trans e2).trans e3)) ?_⟩
  have w : Walk (Itc i 2 m) m (fun _ => True) (YFn fun k => .int (i + (k : Nat) * 2)) := walk_rangeC
  unfold WalkD
  rw [List.length_map, List.length_range]
  refine w.mono (fun _ _ => trivial) fun k H x H' hi e y => ⟨y.1, .int (i + (k : Nat) * 2), by simp [hi], ?_⟩
  rw [y.2]
  exact .int _⟩⟩
/-- max(xs) -/
theorem jv_maxL {ns : List Int} {m : Int} {p : Pos} (hc : X.calm = true) (hm : X.mg "max" = none) (ha : JD X σ a G (.list (ns.map .int))) (h1 : m ∈ ns) (h2 : ∀ y ∈ ns, y ≤ m) (hg : Gl X "max") (hb : bootBuiltins "max" = some (.builtin "max")) (he : NoStar a) : JV X σ (.Call (.Name "max" p) [a] [] pos) G (.int m) := ⟨fun H eh Q q =>
  ⟨_, pe_callB (cr_max hc) hg hm hb (pa_cons pe_w pa_nil (he _ _)) (he := he _ _), ha H eh _ fun G1 H1 x s1 p1 => by
    cases p1 with
    | lst hl hd =>
      cases hd.ints
      exact ⟨_, ns, rfl, SqL.of (s1.gh _ _ hl), List.length_pos_of_mem h1, fun z hz hz2 => by
        have : z = m := Int.le_antisymm (h2 z hz) (hz2 m h1)
        rw [this]
        exact q H1 s1.h⟩⟩⟩
end
end TP

set_option Elab.async false
set_option linter.all false
set_option maxRecDepth 100000
set_option maxHeartbeats 2000000
namespace TP
open PySem PySem.Spec PyProof.Rows L2
/-! ### plain: the list that a row tells, what a text is read as -/
theorem dg_inj {a b : Nat} (h : dg a = dg b) : a = b := by
  have := congrArg (fun z : Str => z.cps.toList) h
  simpa [dg] using this
theorem rowText_inj {c : Nat} {as bs : List Nat} (ha : Row6 c as) (hb : Row6 c bs) (h : rowText c as = rowText c bs) : as = bs := by
  have e := congrArg (fun z => Txt.split z " ") h
  simp only [row_split ha.1 ha.2.2.2, row_split hb.1 hb.2.2.2] at e
  unfold wordsOf at e
  have e2 := (List.cons.inj e).2
  clear e h ha hb
  induction as generalizing bs with
  | nil => cases bs with
    | nil => rfl
    | cons => simp at e2
  | cons a as ih => cases bs with
    | nil => simp at e2
    | cons b bs =>
      rw [List.map_cons, List.map_cons] at e2
      rw [dg_inj (List.cons.inj e2).1, ih (List.cons.inj e2).2]
open Classical in
noncomputable def rowO (c : Nat) (row : Str) : Option (List Nat) := if h : ∃ ns, row = rowText c ns ∧ Row6 c ns then some h.choose else none
theorem rowO_of {c : Nat} {row : Str} {ns : List Nat} (h1 : row = rowText c ns) (h2 : Row6 c ns) : rowO c row = some ns := by
  have h : ∃ ns, row = rowText c ns ∧ Row6 c ns := ⟨ns, h1, h2⟩
  unfold rowO
  rw [dif_pos h]
  exact congrArg some (rowText_inj h.choose_spec.2 h2 (h.choose_spec.1.symm.trans h1))
theorem rowO_some {c : Nat} {row : Str} {ns : List Nat} (h : rowO c row = some ns) : row = rowText c ns ∧ Row6 c ns := by
  unfold rowO at h
  split at h
  · rename_i z
    rw [← Option.some.inj h]
    exact z.choose_spec
  · cases h
theorem rowO_none {c : Nat} {row : Str} (h : ∀ ns, row = rowText c ns → ¬ Row6 c ns) : rowO c row = none := by
  cases e : rowO c row with
  | none => rfl
  | some ns => exact absurd (rowO_some e).2 (h ns (rowO_some e).1)
noncomputable def rowsO : Nat → List Str → Nat ⊕ List (List Nat)
  | _, [] => .inr []
  | c, r :: rs => match rowO c r with
    | none => .inl (c + 1)
    | some ns => match rowsO (c + 1) rs with
      | .inl k => .inl k
      | .inr L => .inr (ns :: L)
theorem rowsO_bad : ∀ {rows : List Str} {c i : Nat}, i < rows.length → (∀ j, j < i → rowO (c + j) (rows.getD j ⟨#[]⟩) ≠ none) → rowO (c + i) (rows.getD i ⟨#[]⟩) = none → rowsO c rows = .inl (c + i + 1)
  | [], _, _, h, _, _ => by simp at h
  | r :: rs, c, 0, _, _, h => by
    have h2 : rowO c r = none := h
    show (match rowO c r with | none => Sum.inl (c + 1) | some ns => match rowsO (c + 1) rs with | .inl k => .inl k | .inr L => .inr (ns :: L)) = _
    rw [h2]
  | r :: rs, c, i + 1, hi, hp, h => by
    have h0 := hp 0 (by omega)
    have h0' : rowO c r ≠ none := h0
    obtain ⟨ns, e⟩ := Option.ne_none_iff_exists'.mp h0'
    have ih := rowsO_bad (rows := rs) (c := c + 1) (i := i) (by simpa using hi) (fun j hj => by
      have := hp (j + 1) (by omega)
      rw [show c + (j + 1) = c + 1 + j by omega] at this
      exact this) (by rw [show c + (i + 1) = c + 1 + i by omega] at h; exact h)
    show (match rowO c r with | none => Sum.inl (c + 1) | some ns => match rowsO (c + 1) rs with | .inl k => .inl k | .inr L => .inr (ns :: L)) = _
    rw [e, ih]
    show Sum.inl _ = Sum.inl _
    rw [show c + 1 + i + 1 = c + (i + 1) + 1 by omega]
theorem rowsO_good : ∀ {rows : List Str} {c : Nat} {L : List (List Nat)}, L.length = rows.length → (∀ j, j < rows.length → rowO (c + j) (rows.getD j ⟨#[]⟩) = some (L.getD j [])) → rowsO c rows = .inr L
  | [], _, [], _, _ => rfl
  | [], _, _ :: _, h, _ => by simp at h
  | _ :: _, _, [], h, _ => by simp at h
  | r :: rs, c, l :: L, hl, h => by
    have h0 : rowO c r = some l := h 0 (by simp)
    have ih := rowsO_good (rows := rs) (c := c + 1) (L := L) (by simpa using hl) (fun j hj => by
      have := h (j + 1) (by simpa using hj)
      rw [show c + (j + 1) = c + 1 + j by omega] at this
      exact this)
    show (match rowO c r with | none => Sum.inl (c + 1) | some ns => match rowsO (c + 1) rs with | .inl k => .inl k | .inr L => .inr (ns :: L)) = _
    rw [h0, ih]
theorem rowsO_inr : ∀ {rows : List Str} {c : Nat} {L : List (List Nat)}, rowsO c rows = .inr L → L.length = rows.length ∧ ∀ j, j < rows.length → rowO (c + j) (rows.getD j ⟨#[]⟩) = some (L.getD j [])
  | [], _, L, h => by cases h; exact ⟨rfl, fun j hj => by simp at hj⟩
  | r :: rs, c, L, h => by
    have h' : (match rowO c r with | none => Sum.inl (c + 1) | some ns => match rowsO (c + 1) rs with | .inl k => .inl k | .inr L => .inr (ns :: L)) = Sum.inr L := h
    cases e : rowO c r with
    | none => rw [e] at h'; cases h'
    | some ns =>
      rw [e] at h'
      cases e2 : rowsO (c + 1) rs with
      | inl k => rw [e2] at h'; cases h'
      | inr L2 =>
        rw [e2] at h'
        cases h'
        obtain ⟨h1, h2⟩ := rowsO_inr e2
        refine ⟨by simp [h1], fun j hj => ?_⟩
        cases j with
        | zero => exact e
        | succ j =>
          have := h2 j (by simpa using hj)
          rw [show c + 1 + j = c + (j + 1) by omega] at this
          exact this
abbrev linesOf (t : Str) : List Str := Txt.split t "\n"
/-- some list has a number that no camper has -/
def tooBig (L : List (List Nat)) : Bool := L.any fun r => r.any fun x => decide (L.length ≤ x)
noncomputable def readO (t : Str) : Nat ⊕ List (List Nat) := match rowsO 0 (linesOf t) with
  | .inl k => .inl k
  | .inr L => if tooBig L = true then .inl ((linesOf t).length + 1) else .inr L
noncomputable def dueN (t : Str) : Nat := match readO t with
  | .inl k => k
  | .inr _ => 0
theorem lines_pos (t : Str) : 1 ≤ (linesOf t).length := split_pos _ _
theorem rows_of {t : Str} {L : List (List Nat)} (h : rowsO 0 (linesOf t) = .inr L) : L.length = (linesOf t).length ∧ L.length ≤ 6 ∧ t = textOf L ∧ ∀ j, j < L.length → Row6 j (L.getD j []) := by
  obtain ⟨h1, h2⟩ := rowsO_inr h
  have hr : ∀ j, j < L.length → (linesOf t).getD j ⟨#[]⟩ = rowText j (L.getD j []) ∧ Row6 j (L.getD j []) := fun j hj => by
    have := h2 j (by omega)
    rw [Nat.zero_add] at this
    exact rowO_some this
  have hp := lines_pos t
  have h6 : L.length ≤ 6 := by
    have := (hr (L.length - 1) (by omega)).2.1
    omega
  refine ⟨h1, h6, ?_, fun j hj => (hr j hj).2⟩
  have e : linesOf t = rowsOf L := by
    apply List.ext_getElem
    · rw [rows_len]; exact h1.symm
    · intro i i1 i2
      have := (hr i (by omega)).1
      rw [List.getD_eq_getElem?_getD, List.getElem?_eq_getElem i1] at this
      have e2 : (rowsOf L)[i] = rowText i (L.getD i []) := by simp [rowsOf]
      rw [e2]
      exact this
  have := StrLaws.join_split t "\n"
  show t = Txt.join "\n" (rowsOf L)
  rw [← e]
  exact this.symm.trans (StrLaws.glued_eq_join _ _).symm
theorem valid_read {t : Str} {L : List (List Nat)} (h : rowsO 0 (linesOf t) = .inr L) (hb : tooBig L = false) : ValidL L := by
  obtain ⟨h1, h6, _, hr⟩ := rows_of h
  have hp := lines_pos t
  refine ⟨by omega, h6, fun i hi x hx => ?_, fun i hi => (hr i hi).2.1, fun i hi => (hr i hi).2.2.1⟩
  have hm : L.getD i [] ∈ L := by
    rw [List.getD_eq_getElem?_getD, List.getElem?_eq_getElem hi]
    exact List.getElem_mem hi
  have h1 : ((L.getD i []).any fun x => decide (L.length ≤ x)) = false := Bool.eq_false_iff.mpr (List.any_eq_false.mp hb _ hm)
  have h2 := List.any_eq_false.mp h1 x hx
  have : ¬ L.length ≤ x := fun z => h2 (decide_eq_true z)
  omega
theorem read_cases (t : Str) : (∃ L, readO t = .inr L ∧ rowsO 0 (linesOf t) = .inr L ∧ tooBig L = false) ∨ (∃ k, readO t = .inl k) := by
  unfold readO
  cases e : rowsO 0 (linesOf t) with
  | inl k => exact .inr ⟨k, rfl⟩
  | inr L =>
    cases hb : tooBig L with
    | true => exact .inr ⟨(linesOf t).length + 1, by simp [hb]⟩
    | false => exact .inl ⟨L, by simp [hb], rfl, hb⟩
/-! ### signs and words -/
theorem cnt_count (c : Nat) : ∀ l : List Nat, PyProof.Rows.cnt c l = (l.count c : Int)
  | [] => rfl
  | n :: l => by
    rw [PyProof.Rows.cnt_cons, cnt_count c l, List.count_cons]
    by_cases h : n = c
    · subst h; simp; omega
    · have : ¬ (n == c) = true := by simpa using h
      simp [h]
theorem split_count (x : Str) (c : Nat) : (Txt.split x ⟨#[c]⟩).length = 1 + x.cps.toList.count c := by
  have := PyProof.Rows.split_len x c
  rw [cnt_count] at this
  omega
theorem lines_count (t : Str) : (linesOf t).length = 1 + t.cps.toList.count 10 := by
  have := split_count t 10
  rw [← nl_] at this
  exact this
theorem words_count (t : Str) : (Txt.split t " ").length ≤ 1 + t.length := by
  have := split_count t 32
  rw [← sp_] at this
  rw [this]
  have h2 := List.count_le_length (a := 32) (l := t.cps.toList)
  have h3 : t.cps.toList.length = t.length := by simp [Str.length]
  omega
/-- a row is no longer than the text -/
theorem part_len {x y p : Str} (h : p ∈ Txt.split x y) : p.length ≤ x.length := by
  have key : ∀ {ps : List Str}, p ∈ ps → p.length ≤ (Str.join y ps).length := by
    intro ps
    induction ps with
    | nil => intro h; simp at h
    | cons q ps ih =>
      intro h
      cases ps with
      | nil => rw [List.mem_singleton] at h; subst h; exact Nat.le_refl _
      | cons q2 r =>
        have e : Str.join y (q :: q2 :: r) = q ++ y ++ Str.join y (q2 :: r) := rfl
        rw [e, strLen_append, strLen_append]
        rcases List.mem_cons.mp h with rfl | h
        · omega
        · have := ih h
          omega
  have := key h
  rwa [StrLaws.join_split] at this
theorem part_count {x y p : Str} {k : Nat} (h : p ∈ Txt.split x y) : p.cps.toList.count k ≤ x.cps.toList.count k := by
  have key : ∀ {ps : List Str}, p ∈ ps → p.cps.toList.count k ≤ (Str.join y ps).cps.toList.count k := by
    intro ps
    induction ps with
    | nil => intro h; simp at h
    | cons q ps ih =>
      intro h
      cases ps with
      | nil => rw [List.mem_singleton] at h; subst h; exact Nat.le_refl _
      | cons q2 r =>
        have e : Str.join y (q :: q2 :: r) = q ++ y ++ Str.join y (q2 :: r) := rfl
        rw [e, PySem.Str.cps_append, PySem.Str.cps_append, Array.toList_append, Array.toList_append, List.count_append, List.count_append]
        rcases List.mem_cons.mp h with rfl | h
        · omega
        · have := ih h
          omega
  have := key h
  rwa [StrLaws.join_split] at this
theorem spaces_count (t : Str) : (Txt.split t " ").length = 1 + t.cps.toList.count 32 := by
  have := split_count t 32
  rw [← sp_] at this
  exact this
theorem dg_str10 : ∀ n : Nat, n < 10 → (toString (n : Int) : Str) = dg n := by
  intro n hn
  match n, hn with
  | 0, _ => rfl
  | 1, _ => rfl
  | 2, _ => rfl
  | 3, _ => rfl
  | 4, _ => rfl
  | 5, _ => rfl
  | 6, _ => rfl
  | 7, _ => rfl
  | 8, _ => rfl
  | 9, _ => rfl
/-- a word that is a figure below 6 -/
def okW (w : Str) : Bool := decide (w.length = 1) && !(Builtin.Str.occurrences ("012345" : Str) w 0 ("012345" : Str).length 1).isEmpty
theorem fig_cps : ("012345" : Str).cps.toList = [48, 49, 50, 51, 52, 53] := by decide +kernel
theorem one_cps {w : Str} (h : w.length = 1) : ∃ c, w = ⟨#[c]⟩ := by
  obtain ⟨⟨l⟩⟩ := w
  match l, h with
  | [c], _ => exact ⟨c, rfl⟩
theorem okW_iff {w : Str} : okW w = true ↔ ∃ n, n < 6 ∧ w = dg n := by
  unfold okW
  rw [Bool.and_eq_true, decide_eq_true_eq]
  constructor
  · rintro ⟨h1, h2⟩
    obtain ⟨c, rfl⟩ := one_cps h1
    rw [StrLaws.found_one, decide_eq_true_eq, fig_cps] at h2
    have hc : 48 ≤ c ∧ c ≤ 53 := by
      simp only [List.mem_cons, List.not_mem_nil, or_false] at h2
      omega
    exact ⟨c - 48, by omega, by unfold dg; rw [show 48 + (c - 48) = c by omega]⟩
  · rintro ⟨n, hn, rfl⟩
    refine ⟨rfl, ?_⟩
    unfold dg
    rw [StrLaws.found_one, decide_eq_true_eq, fig_cps]
    simp only [List.mem_cons, List.not_mem_nil, or_false]
    omega
def natW (w : Str) : Nat := w.cps.getD 0 0 - 48
theorem natW_dg (n : Nat) : natW (dg n) = n := by simp [natW, dg]
theorem okWs {ws : List Str} (h : ws.all okW = true) : ws = (ws.map natW).map dg ∧ ∀ x ∈ ws.map natW, x < 6 := by
  induction ws with
  | nil => exact ⟨rfl, fun x hx => by simp at hx⟩
  | cons w ws ih =>
    rw [List.all_cons, Bool.and_eq_true] at h
    obtain ⟨n, hn, rfl⟩ := okW_iff.mp h.1
    obtain ⟨e, m⟩ := ih h.2
    refine ⟨?_, fun x hx => ?_⟩
    · rw [List.map_cons, List.map_cons, natW_dg, ← e]
    · rw [List.map_cons, natW_dg] at hx
      rcases List.mem_cons.mp hx with rfl | hx
      · exact hn
      · exact m x hx
/-- what list_in finds, for a camper below 10 -/
def rowOk (c : Nat) (ws : List Str) : Bool := decide (ws.headD ⟨#[]⟩ = dg c ++ ":") && (ws.tail.all okW && (decide ((ws.tail.map natW).Nodup) && !decide (c ∈ ws.tail.map natW)))
theorem rowO_words {c : Nat} (row : Str) (hc : c < 6) : rowO c row = if rowOk c (Txt.split row " ") = true then some ((Txt.split row " ").tail.map natW) else none := by
  have hp : 1 ≤ (Txt.split row " ").length := split_pos _ _
  have hj : Txt.join " " (Txt.split row " ") = row := (StrLaws.glued_eq_join _ _).trans (StrLaws.join_split row " ")
  generalize hw : Txt.split row " " = ws at *
  obtain ⟨w, r, rfl⟩ : ∃ w r, ws = w :: r := by
    cases ws with
    | nil => simp at hp
    | cons w r => exact ⟨w, r, rfl⟩
  split
  · rename_i h
    simp only [rowOk, List.headD_cons, List.tail_cons, Bool.and_eq_true, decide_eq_true_eq, Bool.not_eq_true', decide_eq_false_iff_not] at h
    obtain ⟨h1, h2, h3, h4⟩ := h
    obtain ⟨e, m⟩ := okWs h2
    refine rowO_of (ns := r.map natW) ?_ ⟨hc, of_decide_eq_true h3, of_decide_eq_false h4, m⟩
    rw [← hj, of_decide_eq_true h1]
    unfold rowText wordsOf
    rw [← e]
  · rename_i h
    refine rowO_none fun ns e h6 => h ?_
    have e2 : w :: r = wordsOf c ns := by rw [← hw, e, row_split h6.1 h6.2.2.2]
    unfold wordsOf at e2
    obtain ⟨e3, e4⟩ := List.cons.inj e2
    have e5 : (ns.map dg).map natW = ns := by
      rw [List.map_map]
      exact List.map_congr_left (fun x _ => natW_dg x) |>.trans (List.map_id' ns)
    simp only [rowOk, List.headD_cons, List.tail_cons, e3, e4, e5]
    rw [decide_eq_true h6.2.1, decide_eq_false h6.2.2.1]
    rw [List.all_eq_true.mpr fun x hx => by
      obtain ⟨n, hn, rfl⟩ := List.mem_map.mp hx
      exact okW_iff.mpr ⟨n, h6.2.2.2 n hn, rfl⟩]
    simp
end TP

set_option Elab.async false
set_option linter.all false
set_option maxRecDepth 100000
set_option maxHeartbeats 2000000
namespace TP
open PySem PySem.Spec PyProof.Rows L2
/-! ### plain: a row by its signs -/
def twin (ps : List (Nat × Nat)) : List Nat := ps.flatMap fun p => [p.1, p.2]
theorem twin_cons (p : Nat × Nat) (ps : List (Nat × Nat)) : twin (p :: ps) = p.1 :: p.2 :: twin ps := rfl
theorem twin_len : ∀ ps : List (Nat × Nat), (twin ps).length = 2 * ps.length
  | [] => rfl
  | p :: ps => by rw [twin_cons, List.length_cons, List.length_cons, twin_len ps, List.length_cons]; omega
theorem twin_inj : ∀ {ps qs : List (Nat × Nat)}, twin ps = twin qs → ps = qs
  | [], [], _ => rfl
  | [], q :: qs, h => by rw [twin_cons] at h; cases h
  | p :: ps, [], h => by rw [twin_cons] at h; cases h
  | (a, b) :: ps, (a', b') :: qs, h => by
    rw [twin_cons, twin_cons] at h
    injection h with h1 h
    injection h with h2 h
    have h1 : a = a' := h1
    have h2 : b = b' := h2
    rw [h1, h2, twin_inj h]
theorem twin_of : ∀ {n : Nat} {l : List Nat}, l.length = 2 * n → ∃ ps, l = twin ps ∧ ps.length = n
  | 0, [], _ => ⟨[], rfl, rfl⟩
  | 0, _ :: _, h => by simp at h
  | n + 1, [], h => by simp at h
  | n + 1, [_], h => by simp at h; omega
  | n + 1, a :: b :: l, h => by
    obtain ⟨ps, rfl, e⟩ := twin_of (n := n) (l := l) (by simp at h; omega)
    exact ⟨(a, b) :: ps, rfl, by simp [e]⟩
theorem twin_at : ∀ {ps : List (Nat × Nat)} {i : Nat} {p : Nat × Nat}, ps[i]? = some p → (twin ps)[2 * i]? = some p.1 ∧ (twin ps)[2 * i + 1]? = some p.2
  | [], i, p, h => by simp at h
  | q :: ps, 0, p, h => by
    cases h
    exact ⟨rfl, rfl⟩
  | q :: ps, i + 1, p, h => by
    have := twin_at (ps := ps) (i := i) (p := p) (by simpa using h)
    rw [twin_cons, show 2 * (i + 1) = 2 * i + 1 + 1 by omega, show 2 * i + 1 + 1 + 1 = (2 * i + 1) + 1 + 1 by omega]
    exact this
theorem jl_dg : ∀ (l : List Nat) (ns : List Nat), jl 32 (l :: ns.map fun n => [48 + n]) = l ++ twin (ns.map fun n => (32, 48 + n))
  | l, [] => by simp [jl, twin]
  | l, n :: ns => by
    have := jl_dg [48 + n] ns
    show l ++ 32 :: jl 32 ([48 + n] :: ns.map fun n => [48 + n]) = _
    rw [this]
    rfl
theorem dgc_cps (c : Nat) : (dg c ++ ":").cps.toList = [48 + c, 58] := by
  rw [co_, PySem.Str.cps_append]
  simp [dg]
theorem row_cps (c : Nat) (ns : List Nat) : (rowText c ns).cps.toList = (48 + c) :: 58 :: twin (ns.map fun n => (32, 48 + n)) := by
  unfold rowText
  show (Builtin.Str.glued " " (wordsOf c ns)).cps.toList = _
  rw [StrLaws.glued_eq_join, sp_, cps_join]
  unfold wordsOf
  rw [List.map_cons, List.map_map, dgc_cps]
  exact jl_dg [48 + c, 58] ns
theorem str_ext {x y : Str} (h : x.cps.toList = y.cps.toList) : x = y := by
  obtain ⟨⟨x⟩⟩ := x
  obtain ⟨⟨y⟩⟩ := y
  have h : x = y := h
  rw [h]
theorem len_cps (x : Str) : x.cps.toList.length = x.length := by simp [Str.length]
theorem cut2_cps (x : Str) : (cutS x none (some 2)).cps.toList = x.cps.toList.take 2 := by
  have h : HT.sIx x.length x.length (some 2) = min 2 x.length := HT.sIx_nat _ _ 2
  show ((x.cps.toList.drop (HT.sIx x.length 0 none)).take (HT.sIx x.length x.length (some 2) - HT.sIx x.length 0 none)).toArray.toList = _
  rw [HT.sIx_none, h, List.drop_zero, Nat.sub_zero, List.toList_toArray]
  rw [← len_cps]
  rcases Nat.le_total 2 x.cps.toList.length with z | z
  · rw [Nat.min_eq_left z]
  · rw [Nat.min_eq_right z, List.take_of_length_le (Nat.le_refl _), List.take_of_length_le z]
theorem row_twin {c : Nat} {row : Str} (h : cutS row none (some 2) = dg c ++ ":") (he : row.length % 2 = 0) : ∃ ps, row.cps.toList = (48 + c) :: 58 :: twin ps ∧ row.length = 2 + 2 * ps.length := by
  have h1 := cut2_cps row
  rw [h, dgc_cps] at h1
  have hl := len_cps row
  generalize row.cps.toList = l at *
  match l, h1 with
  | a :: b :: l, h1 =>
    have h1 : [48 + c, 58] = [a, b] := h1
    injection h1 with e1 h1
    injection h1 with e2 h1
    rw [List.length_cons, List.length_cons] at hl
    obtain ⟨ps, e, hn⟩ := twin_of (n := l.length / 2) (l := l) (by omega)
    have := twin_len ps
    rw [← e] at this
    exact ⟨ps, by rw [← e1, ← e2, e], by omega⟩
theorem rowO_iff {c : Nat} {row : Str} {ps : List (Nat × Nat)} (e : row.cps.toList = (48 + c) :: 58 :: twin ps) (ns : List Nat) : rowO c row = some ns ↔ ps = ns.map (fun n => (32, 48 + n)) ∧ Row6 c ns := by
  constructor
  · intro h
    obtain ⟨h1, h2⟩ := rowO_some h
    rw [h1, row_cps] at e
    injection e with _ e
    injection e with _ e
    exact ⟨(twin_inj e).symm, h2⟩
  · rintro ⟨h1, h2⟩
    exact rowO_of (str_ext (by rw [e, row_cps, h1])) h2
/-- a row of a camper's that does not begin so, or is of odd length -/
theorem rowO_bad {c : Nat} {row : Str} (h : cutS row none (some 2) ≠ dg c ++ ":" ∨ row.length % 2 = 1 ∨ 5 < c) : rowO c row = none := rowO_none fun ns e h6 => by
  rcases h with h | h | h
  · refine h (str_ext ?_)
    rw [cut2_cps, e, row_cps, dgc_cps]
    rfl
  · rw [e, row_len] at h
    omega
  · have := h6.1
    omega
theorem map_take {α β : Type} {f : α → β} (hf : ∀ a b, f a = f b → a = b) : ∀ {xs ys : List α} {n : Nat}, (xs.map f).take n = ys.map f → xs.take n = ys
  | xs, ys, n, h => by
    rw [← List.map_take] at h
    exact List.map_inj_right hf |>.mp h
/-- the i-th pair of signs -/
theorem rowO_at {c : Nat} {row : Str} {ps : List (Nat × Nat)} {ns ns' : List Nat} {i : Nat} {a b : Nat} (e : row.cps.toList = (48 + c) :: 58 :: twin ps) (hi : ps[i]? = some (a, b)) (ht : ps.take i = ns.map (fun n => (32, 48 + n))) (h : rowO c row = some ns') : a = 32 ∧ ∃ n, b = 48 + n ∧ n < 6 ∧ n ∉ ns ++ [c] := by
  obtain ⟨h1, h2⟩ := (rowO_iff e ns').mp h
  rw [h1] at ht hi
  have ht := map_take (fun a b (h : (32, 48 + a) = (32, 48 + b)) => by injection h with _ h; omega) ht
  rw [List.getElem?_map] at hi
  cases hn : ns'[i]? with
  | none => rw [hn] at hi; cases hi
  | some n =>
    rw [hn] at hi
    injection hi with hi
    injection hi with e1 e2
    obtain ⟨hil, en⟩ := List.getElem?_eq_some_iff.mp hn
    have hm : n ∈ ns' := List.mem_of_getElem? hn
    refine ⟨e1.symm, n, e2.symm, h2.2.2.2 n hm, fun hx => ?_⟩
    rw [List.mem_append, List.mem_singleton] at hx
    rcases hx with hx | rfl
    · rw [← ht] at hx
      have := h2.2.1
      rw [← List.take_append_drop i ns', List.nodup_append] at this
      refine this.2.2 n hx n ?_ rfl
      rw [List.drop_eq_getElem_cons hil, en]
      exact List.mem_cons_self
    · exact h2.2.2.1 hm
theorem figs_in (b : Nat) : (!(Builtin.Str.occurrences ("012345" : Str) ⟨#[b]⟩ 0 ("012345" : Str).length 1).isEmpty) = decide (48 ≤ b ∧ b < 54) := by
  rw [StrLaws.found_one, fig_cps]
  refine decide_eq_decide.mpr ?_
  simp only [List.mem_cons, List.not_mem_nil, or_false]
  omega
theorem sign_at {c : Nat} {row : Str} {ps : List (Nat × Nat)} {i : Nat} {p : Nat × Nat} (e : row.cps.toList = (48 + c) :: 58 :: twin ps) (hi : ps[i]? = some p) : L2.atI row.cps.toList (2 + (i : Int) * 2) = some p.1 ∧ L2.atI row.cps.toList (2 + (i : Int) * 2 + 1) = some p.2 := by
  obtain ⟨h1, h2⟩ := twin_at hi
  rw [e]
  constructor
  · rw [show (2 + (i : Int) * 2) = ((2 * i + 1 + 1 : Nat) : Int) by omega]
    exact atI_nat h1
  · rw [show (2 + (i : Int) * 2 + 1) = ((2 * i + 1 + 1 + 1 : Nat) : Int) by omega]
    exact atI_nat h2
theorem rg_two {n m : Nat} (h : n = 2 + 2 * m) (hn : n ≤ 100000) : RgC 2 (n : Int) 2 m := by
  have e : Builtin.Range.rangeSize 2 (n : Int) 2 = (m : Int) := by
    unfold Builtin.Range.rangeSize
    simp only [show (2 : Int) > 0 by decide, if_true]
    split <;> omega
  refine ⟨by decide, by decide, ?_, e⟩
  unfold Builtin.Range.small
  rw [e]
  unfold Builtin.Range.rangeFitsLong
  have f : ∀ i : Int, 0 ≤ i → i ≤ 1000000 → (decide (-2 ^ 63 ≤ i) && decide (i < 2 ^ 63)) = true := fun i h1 h2 => by
    rw [Bool.and_eq_true, decide_eq_true_eq, decide_eq_true_eq]
    omega
  rw [f 2 (by omega) (by omega), f n (by omega) (by omega), f m (by omega) (by omega), if_pos (by omega), f _ (by omega) (by omega), Bool.or_true]
  rfl
theorem range_cut {n c : Nat} {pre post : List Nat} (h : List.range n = pre ++ c :: post) : c = pre.length ∧ pre.length < n := by
  have h1 := congrArg List.length h
  rw [List.length_range, List.length_append, List.length_cons] at h1
  have h2 : (List.range n)[pre.length]? = some c := by rw [h]; simp
  rw [List.getElem?_range (by omega)] at h2
  exact ⟨(Option.some.inj h2).symm, by omega⟩
end TP

set_option Elab.async false
set_option linter.all false
set_option maxRecDepth 100000
set_option maxHeartbeats 4000000
namespace TP
open PySem PySem.Spec PyProof.Rows L2
open Evl (Ex)
-- tactics of this text: what an expression is worth (jv jd jt jo jw), growth (ex), what remains (side); call, calld: what the text adds
local macro_rules | `(tactic| walk_at "ex") => `(tactic| first | exact Ex.refl _ | assumption | (refine' Ex.trans ?_ (by assumption); walk_at "ex"))
local macro_rules | `(tactic| walk_at "vis") => `(tactic| first
  | exact Or.inl rfl
  | exact Or.inr (Or.inl rfl)
  | exact Or.inr (Or.inr rfl))
local macro_rules | `(tactic| walk_at "loc") => `(tactic| first
  | exact Or.inl rfl
  | exact Or.inr rfl)
local macro_rules | `(tactic| walk_at "side") => `(tactic| first
  | assumption
  | omega
  | decide
  | exact rfl
  | (simp_all; done)
  | (simp_all; omega))
local macro_rules | `(tactic| walk_at "hu") => `(tactic| first
  | exact room65 (by assumption)
  | exact Room.units (by assumption))
local macro_rules | `(tactic| walk_at "dp") => `(tactic| first | assumption | (refine' Dx.mono ?_ (by assumption); walk_at "ex"))
local macro_rules | `(tactic| walk_at "var") => `(tactic| first
  | (apply jv_var 0; exact rfl; exact rfl; walk_at "vis"; decide; decide)
  | (apply jv_var 1; exact rfl; exact rfl; walk_at "vis"; decide; decide)
  | (apply jv_var 2; exact rfl; exact rfl; walk_at "vis"; decide; decide)
  | (apply jv_var 3; exact rfl; exact rfl; walk_at "vis"; decide; decide)
  | (apply jv_var 4; exact rfl; exact rfl; walk_at "vis"; decide; decide)
  | (apply jv_var 5; exact rfl; exact rfl; walk_at "vis"; decide; decide)
  | (apply jv_var 6; exact rfl; exact rfl; walk_at "vis"; decide; decide)
  | (apply jv_var 7; exact rfl; exact rfl; walk_at "vis"; decide; decide)
  | (apply jv_var 8; exact rfl; exact rfl; walk_at "vis"; decide; decide)
  | (apply jv_var 9; exact rfl; exact rfl; walk_at "vis"; decide; decide)
  | (apply jv_var 10; exact rfl; exact rfl; walk_at "vis"; decide; decide)
  | (apply jv_var 11; exact rfl; exact rfl; walk_at "vis"; decide; decide)
  | (apply jv_var 12; exact rfl; exact rfl; walk_at "vis"; decide; decide)
  | (apply jv_var 13; exact rfl; exact rfl; walk_at "vis"; decide; decide)
  | (apply jv_var 14; exact rfl; exact rfl; walk_at "vis"; decide; decide)
  | (apply jv_var 15; exact rfl; exact rfl; walk_at "vis"; decide; decide)
  | (apply jv_var 16; exact rfl; exact rfl; walk_at "vis"; decide; decide)
  | (apply jv_var 17; exact rfl; exact rfl; walk_at "vis"; decide; decide)
  | (apply jv_var 18; exact rfl; exact rfl; walk_at "vis"; decide; decide)
  | (apply jv_var 19; exact rfl; exact rfl; walk_at "vis"; decide; decide))
local macro_rules | `(tactic| walk_at "bm") => `(tactic| first
  | assumption)
local macro_rules | `(tactic| walk_at "call") => `(tactic| first
  | fail "call")
local macro_rules | `(tactic| walk_at "calld") => `(tactic| first
  | fail "calld")
local macro_rules | `(tactic| walk_at "kit") => `(tactic| first
  | assumption
  | exact kit_ii
  | exact kit_ib
  | exact kit_bi
  | exact kit_bb
  | exact kit_li
  | exact kit_ll
  | exact kit_tt
  | exact kit_tl
  | exact kit_lt
  | exact kit_tb)
local macro_rules | `(tactic| walk_at "ns") => `(tactic| first
  | exact fun _ _ => rfl)
local macro_rules | `(tactic| walk_at "jv") => `(tactic| first
  | exact jv_int
  | exact jv_bl
  | exact jv_non
  | exact jv_str
  | walk_at "var"
  | (apply jv_add; walk_at "jv"; walk_at "jv")
  | (apply jv_sub; walk_at "jv"; walk_at "jv")
  | (apply jv_neg; walk_at "jv")
  | (apply jv_mul; walk_at "jv"; walk_at "jv"; walk_at "mulok")
  | (apply jv_fdiv; walk_at "jv"; walk_at "jv"; walk_at "divok")
  | (apply jv_mod; walk_at "jv"; walk_at "jv"; walk_at "side")
  | (apply jv_band; walk_at "jv"; walk_at "jv")
  | (apply jv_cmp; walk_at "jo"; (first | exact rfl | exact nomark _))
  | (apply jv_chain op_le op_le; walk_at "jv"; walk_at "jv"; walk_at "jv"; with_unfolding_all rfl)
  | (apply jv_chain op_le op_lt; walk_at "jv"; walk_at "jv"; walk_at "jv"; with_unfolding_all rfl)
  | (apply jv_and; walk_at "jv"; intro hand; walk_at "jv")
  | (apply jv_or; walk_at "jv"; intro hor; walk_at "jv")
  | (apply jv_not; walk_at "jv")
  | (apply jv_one; walk_at "jv")
  | (apply jv_lenM; walk_at "bm"; walk_at "jd"; exact rfl; walk_at "ns")
  | (apply jv_len; walk_at "bm"; walk_at "jd"; exact rfl; walk_at "ns")
  | (apply jv_all; exact rfl; walk_at "bm"; walk_at "jd"; exact rfl; decide +kernel; walk_at "ns")
  | (apply jv_any; exact rfl; walk_at "bm"; walk_at "jd"; exact rfl; decide +kernel; walk_at "ns")
  | (apply jv_lenT; walk_at "bm"; walk_at "jd"; exact rfl; walk_at "ns")
  | walk_at "call"
  | (apply jv_isi; (first | exact boot_tint | exact boot_tbool | exact boot_tlist | exact boot_ttuple); walk_at "bm"; walk_at "bm"; walk_at "jd"; walk_at "kit"; exact rfl; exact rfl; exact boot_isi; walk_at "ns"; decide; decide)
  | (apply jv_lenSet; exact rfl; walk_at "bm"; walk_at "bm"; walk_at "jd"; walk_at "side"; exact rfl; exact rfl; walk_at "ns")
  | (apply jv_ifE; walk_at "jt"; intro hif; walk_at "jv"; intro hif; walk_at "jv")
  | (apply JD.toI; walk_at "jx")
  | (apply JD.toB; walk_at "jx")
  | (apply JD.toS; walk_at "jx"))
local macro_rules | `(tactic| walk_at "mulok") => `(tactic| first
  | exact Or.inr ⟨by decide, by decide⟩
  | exact Or.inl ⟨by decide, by decide⟩
  | exact Or.inl ⟨by omega, by omega⟩
  | exact Or.inr ⟨by omega, by omega⟩)
local macro_rules | `(tactic| walk_at "divok") => `(tactic| first
  | exact ⟨by decide, by decide⟩
  | exact ⟨by omega, by omega⟩)
local macro_rules | `(tactic| walk_at "jx") => `(tactic| first
  | (apply jd_ixN; walk_at "jd"; walk_at "jv"; exact fun _ _ => rfl; walk_at "side")
  | (apply jd_ixNs; walk_at "jd"; walk_at "jv"; exact fun _ _ => rfl; walk_at "side")
  | (apply jd_ixP; walk_at "jd"; walk_at "jv"; exact fun _ _ => rfl; walk_at "side")
  | (apply jd_ixPs; walk_at "jd"; walk_at "jv"; exact fun _ _ => rfl; walk_at "side")
  | (apply jd_ixI; walk_at "jd"; walk_at "jv"; exact fun _ _ => rfl; walk_at "side")
  | (apply jd_ixP1; walk_at "jd")
  | (apply jd_ixP2; walk_at "jd")
  | walk_at "calld")
local macro_rules | `(tactic| walk_at "jd") => `(tactic| first
  | (apply JV.toD; walk_at "var"; walk_at "dp")
  | walk_at "jx"
  | (apply jd_list; walk_at "jad"; exact Nat.le_of_ble_eq_true rfl)
  | (apply jd_tuple; walk_at "jad"; exact Nat.le_of_ble_eq_true rfl)
  | (apply jd_listOf; walk_at "bm"; walk_at "jd"; exact rfl; exact boot_tlist; walk_at "ns")
  | (apply JV.toD (v := V.int _); walk_at "jv"; exact Dx.int _)
  | (apply JV.toD (v := V.bl _); walk_at "jv"; exact Dx.bl _)
  | (apply JV.toD (v := V.str _); walk_at "jv"; exact Dx.str _)
  | (apply jd_ifE; walk_at "jt"; intro hif; walk_at "jd"; intro hif; walk_at "jd"))
local macro_rules | `(tactic| walk_at "jad") => `(tactic| first
  | exact jad_nil
  | (apply jad_cons; walk_at "jd"; walk_at "jad"; walk_at "ns"))
local macro_rules | `(tactic| walk_at "jo") => `(tactic| first
  | (apply jo_isN; walk_at "jv")
  | (apply jo_notN; walk_at "jv")
  | (apply jo_eqI; walk_at "jv"; walk_at "jv")
  | (apply jo_neI; walk_at "jv"; walk_at "jv")
  | (apply jo_lt; walk_at "jv"; walk_at "jv")
  | (apply jo_le; walk_at "jv"; walk_at "jv")
  | (apply jo_gt; walk_at "jv"; walk_at "jv")
  | (apply jo_ge; walk_at "jv"; walk_at "jv")
  | (apply jo_inN; walk_at "hu"; walk_at "jv"; walk_at "jd")
  | (apply jo_niN; walk_at "hu"; walk_at "jv"; walk_at "jd")
  | (apply jo_eqD; walk_at "hu"; walk_at "jd"; walk_at "jd"; walk_at "shp"; walk_at "shp")
  | (apply jo_neD; walk_at "hu"; walk_at "jd"; walk_at "jd"; walk_at "shp"; walk_at "shp"))
local macro_rules | `(tactic| walk_at "shp") => `(tactic| first
  | assumption
  | exact Shp.shaped eLL _
  | exact Shp.shaped ePs _
  | exact Shp.shaped eNs _
  | exact Shp.shaped ePss _
  | exact Shp.shaped eP _
  | exact Shp.shaped eN _
  | exact Shp.shaped eI _
  | decide)
local macro_rules | `(tactic| walk_at "jw") => `(tactic| first
  | (apply jw_one_and; walk_at "jt")
  | (apply jw_one_or; walk_at "jt")
  | (apply jw_and; walk_at "jt"; intro hand; walk_at "jw")
  | (apply jw_or; walk_at "jt"; intro hor; walk_at "jw"))
local macro_rules | `(tactic| walk_at "jt") => `(tactic| first
  | (apply jt_w; walk_at "jw")
  | (apply jt_cmp; walk_at "jo"; (first | exact rfl | exact nomark _))
  | (apply jt_not; walk_at "jt")
  | (apply jt_val; walk_at "jv"; exact fun _ => rfl)
  | (apply jt_chain op_le op_le; walk_at "jv"; walk_at "jv"; walk_at "jv"; with_unfolding_all rfl))
local macro_rules | `(tactic| walk_at "camp") => `(tactic| first | assumption | (refine' CampAt.mono ?_ (by assumption); walk_at "ex"))
local macro_rules | `(tactic| walk_at "calld") => `(tactic| first
  | (apply jd_told; assumption; walk_at "var"; walk_at "camp"; exact rfl)
  | walk_at "calld2")
local macro_rules | `(tactic| walk_at "calld2") => `(tactic| first
  | fail "calld2")
local macro_rules | `(tactic| walk_at "room") => `(tactic| first
  | assumption
  | exact Room.mono (by assumption) (by decide))
local macro_rules | `(tactic| walk_at "bm") => `(tactic| first
  | assumption
  | exact Tx.len (by assumption)
  | exact Tx.range (by assumption)
  | exact Tx.list (by assumption)
  | exact Tx.all (by assumption)
  | exact Tx.any (by assumption)
  | exact Tx.isi (by assumption)
  | exact Tx.int (by assumption)
  | exact Tx.bool (by assumption)
  | exact Tx.set (by assumption)
  | exact Tx.tup (by assumption))
local macro_rules | `(tactic| walk_at "call") => `(tactic| first
  | (apply jv_size; assumption; walk_at "var"; walk_at "camp"; exact rfl)
  | (apply jv_index; walk_at "hu"; walk_at "jd"; walk_at "jv"; walk_at "side"; walk_at "ns"; exact rfl; exact rfl; exact rfl)
  | (apply jv_would; assumption; assumption; walk_at "room"; walk_at "var"; walk_at "camp"; walk_at "jv"; walk_at "jv"; walk_at "side"; walk_at "side"; walk_at "ns"; walk_at "ns"; exact rfl; exact rfl)
  | walk_at "call2")
local macro_rules | `(tactic| walk_at "call2") => `(tactic| first
  | fail "call2")
section
variable {X : Cx} {σ : L2.St} {e o a b c : Expr} {es : List Expr} {G : Hp} {pos p3 : Pos} {x : Str}
theorem log10 {n : Nat} (h : n < 10) : ((n : Int)).natAbs.log2 < 1920 := by
  match n, h with
  | 0, _ => decide
  | 1, _ => decide
  | 2, _ => decide
  | 3, _ => decide
  | 4, _ => decide
  | 5, _ => decide
  | 6, _ => decide
  | 7, _ => decide
  | 8, _ => decide
  | 9, _ => decide
theorem jv_dgc10 {n : Nat} {p p2 : Pos} {j : Nat} (hm : X.mg "str" = none) (ha : JV X σ a G (.int (n : Int))) (hn : n < 10) (hg : Gl X "str") (he : NoStar a) : JV X σ (.BinOp (.Call (.Name "str" p) [a] [] p2) .Add (.Constant (.str ":") j p3) pos) G (.str (dg n ++ ":")) :=
  jv_addS (JV.is (jv_strI hm ha (log10 hn) hg he) (by rw [dg_str10 n hn])) jv_str (dg_add_ok n)
end
section
variable {P : Program} {w : World} {K : PySem.W.Frag} {mg : Str → Option Value} {base : Heap} {C : Addr}
/-- what list_in tells of a row -/
abbrev kLI (c : Nat) (row : Str) : Hp → V → Prop := fun G v => (∃ ns, rowO c row = some ns ∧ Dx G v (eNs ns)) ∨ ((c < 6 → rowO c row = none) ∧ v = .non) ∨ (6 ≤ c ∧ ∃ a, v = .ref a)
theorem rowOk_cons (c : Nat) (w0 : Str) (r : List Str) : rowOk c (w0 :: r) = (decide (w0 = dg c ++ ":") && (r.all okW && (decide (r.map natW).Nodup && !decide (c ∈ r.map natW)))) := rfl
abbrev spLI : Sp := spOf (fun i : Nat × Str => i.1 < 10 ∧ i.2.length ≤ 9000 ∧ (Txt.split i.2 " ").length ≤ 3000) (fun i => [kV (.str i.2), kV (.int (i.1 : Int))]) (fun i => kLI i.1 i.2)
theorem ok_listInG {f : Addr} {fd : FuncData} (F : Fun K "list_in" "list_in" s_list_in f fd) (T : Tx K mg C) (hstr : mg "str" = none) (hfig : ∃ t, mg "FIGURES" = some (.str "012345" t)) : FnOk P w K mg base CX0 1 f fd ["row", "camper"] spLI := by
  refine fun_ok F sc_list_in (fun _ => rfl) ?_
  rintro cdv A outer s H vs Q E ⟨c, row⟩ G hr ⟨hc, hlen, hspl⟩ al h k
  obtain ⟨_, _, rfl, rfl, rfl⟩ := al.two
  try dsimp only at hc hlen hspl k ⊢
  obtain ⟨tf, hfg⟩ := hfig
  have nd := sc_list_in.nd
  have hcount := words_count row
  have hpos : 1 ≤ (Txt.split row " ").length := split_pos _ _
  have hval : c < 6 → rowO c row = if rowOk c (Txt.split row " ") = true then some ((Txt.split row " ").tail.map natW) else none := fun h => rowO_words row h
  have hpart : ∀ q ∈ Txt.split row " ", q.length ≤ row.length := fun q hq => part_len hq
  refine b_setD (n := 2) (d := .list ((Txt.split row " ").map eS)) h (JN.toD (jn_split (by walk_at "jv") jv_str (by decide +kernel) (by rw [sizeLine_eq]; omega) (by walk_at "ns") rfl rfl)) nd rfl (by walk_at "loc") rfl (Or.inl rfl) (fun G1 H1 wv h1 e1 hw => ?_)
  generalize Txt.split row " " = ws at *
  obtain ⟨w0, r, rfl⟩ : ∃ w0 r, ws = w0 :: r := by
    cases ws with
    | nil => simp at hpos
    | cons w0 r => exact ⟨w0, r, rfl⟩
  have rl : r.length ≤ 3000 := by rw [List.length_cons] at hspl; omega
  have retN : ∀ {Xq : Cx} {G1 H1 os} {sts : List Stmt} {D : Ends} {σ : L2.St} {p1 p2 : Pos} {j : Nat}, Hs G H G1 H1 os → rowOk c (w0 :: r) = false → (∀ G' H', Hs G H G' H' os → D.rt .non H') → wSs Xq (.Return (some (.Constant .none j p1)) p2 :: sts) D σ H1 := fun h1 _ kk => b_ret h1 (v := .non) jv_non (fun H' h' => kk _ _ h')
  have kN : ∀ {G1 H1 os}, rowOk c (w0 :: r) = false → Hs G H G1 H1 os → Q .non H1 := fun hb h1 => k _ _ _ _ h1 (.inr (.inl ⟨fun h6 => by rw [hval h6, hb]; rfl, rfl⟩))
  refine' b_if (p := !decide (w0 = dg c ++ ":")) h1 (JT.is (jt_cmp (jo_neS (JD.toS (jd_ix (ds := (w0 :: r).map eS) (d := eS w0) (by walk_at "jd") (i := 0) jv_int (atI_nat (j := 0) rfl) (fun _ _ => rfl))) (jv_dgc10 hstr (by walk_at "jv") hc rfl (by walk_at "ns"))) rfl) rfl) (fun e H2 h2 => b_ret h2 (v := .non) jv_non (fun H' h' => kN (by rw [rowOk_cons, show decide (w0 = dg c ++ ":") = false from by simpa using e]; rfl) h')) (fun e0 H2 h2 => b_nil ?_)
  have hw0 : w0 = dg c ++ ":" := by simpa using e0
  have hsl : ∀ {σ : L2.St} {X : Cx} {p0 p2 p3 p4 : Pos} {j : Nat}, JD X σ (.Name "words" p0) G1 (.list ((w0 :: r).map eS)) → JN X σ (.Subscript (.Name "words" p0) (.Slice (some (.Constant (.int 1) j p2)) none none p3) p4) G1 (r.map eS) := fun {σ X p0 p2 p3 p4 j} h0 => by
    have := jn_slice (l := some 1) (h := none) (p2 := p3) (pos := p4) (lo := some (.Constant (.int 1) j p2)) (hi := none) h0 ⟨1, rfl, jv_int⟩ rfl
    rw [List.map_cons, cut_one] at this
    exact this
  refine' b_if (p := !r.all okW) h2 (JT.is (jt_not (jt_val (jv_all rfl T.all (bs := r.map okW) (JD.is (JN.toD (jn_lc (n := 3) (f0 := eS) (xs := r) (f := fun y => .bool (okW y)) (ji_list (JN.toD (hsl (by walk_at "jd")))) (by omega) rfl nd rfl (fun _ _ _ _ _ => ⟨by walk_at "loc", by walk_at "loc"⟩) (by first | kernel_rfl | rfl) (fun _ => rfl) ?body)) ?eqm) rfl (by decide +kernel) (by walk_at "ns")) (fun _ => rfl))) ?eq1) (fun e H3 h3 => b_ret h3 (v := .non) jv_non (fun H' h' => kN (by rw [rowOk_cons, show r.all okW = false from by simpa using e]; simp) h')) (fun eA H3 h3 => b_nil ?_)
  case body =>
    intro s h C cl fp y hy G2 u e3 pu
    cases pu
    have hyl : y.length ≤ row.length := hpart y (List.mem_cons_of_mem _ hy)
    refine JV.toD (JV.is (jv_and (jv_cmp (jo_eqI (jv_lenStr T.len (by walk_at "jv") (by rw [sizeLine_eq]; omega) rfl (by walk_at "ns")) jv_int) rfl) (fun _ => jv_one (jv_cmp (jo_inS (by walk_at "jv") (jv_glob (v := .str "012345") rfl hfg ⟨_, rfl⟩ rfl)) rfl))) ?_) (Dx.bl _)
    unfold okW
    congr 1
    exact congrArg (· && _) (decide_eq_decide.mpr (by omega))
  case eqm => rw [List.map_map]; rfl
  case eq1 => rw [List.all_map]; rfl
  have hall : r.all okW = true := by simpa using eA
  obtain ⟨er, m6⟩ := okWs hall
  generalize hns : r.map natW = ns at *
  have nl : ns.length ≤ 3000 := by rw [← hns, List.length_map]; exact rl
  refine b_setLc (n := 3) (m := 4) (f0 := eS) (xs := r) (f := fun y => eN (natW y)) h3 (ji_list (JN.toD (hsl (by walk_at "jd")))) (by omega) rfl nd rfl (fun _ _ _ _ _ => ⟨by walk_at "loc", by walk_at "loc"⟩) (by first | kernel_rfl | rfl) (fun _ => rfl) rfl rfl (sw_true rfl rfl rfl (by decide +kernel)) (fun s h C cl fp y hy G2 u e3 pu => ?_) (fun G4 H4 l vs4 h4 e4 hd => ?_)
  · obtain ⟨z, hz, rfl⟩ := okW_iff.mp (List.all_eq_true.mp hall y hy)
    cases pu
    exact JV.toD (JV.is (jv_intS T.int (by walk_at "jv") (dg_int z hz) (by rw [dg_len]; decide) rfl (by walk_at "ns")) (by rw [natW_dg])) (Dx.int _)
  have hd2 : DxAll G4 vs4 (ns.map eN) := by rw [← hns, List.map_map]; exact hd
  obtain ⟨hf, eG⟩ := h4.fix
  have hm : Dx (upd G4 l (.lst vs4)) (.ref l) (eNs ns) := .lst upd_same (hd2.mono eG)
  refine' b_if (p := !decide ns.Nodup || decide (c ∈ ns)) hf (JT.is (jt_w (jw_or (jt_cmp (jo_lt (jv_lenSet (ns := ns.map fun n : Nat => (n : Int)) rfl T.len T.set (JD.is (d1 := eNs ns) (by walk_at "jd") ?eqs) ?len rfl rfl (by walk_at "ns")) (show JV _ _ _ _ (.int (ns.length : Int)) from by walk_at "jv")) rfl) (fun _ => jw_one_or (by walk_at "jt")))) ?eq) (fun e H5 h5 => b_ret h5 (v := .non) jv_non (fun H' h' => kN ?_ h')) (fun eB H5 h5 => b_nil ?_)
  case eqs => rw [List.map_map]; rfl
  case len => rw [List.length_map]; omega
  case eq =>
    have q1 := @dedupI_iff (ns.map fun n : Nat => (n : Int))
    have q2 := dedupI_le (ns.map fun n : Nat => (n : Int))
    have q3 : (ns.map fun n : Nat => (n : Int)).Nodup ↔ ns.Nodup := ⟨fun z => (List.pairwise_map.mp z).imp fun h e => h (by rw [e]), fun z => z.map (fun n : Nat => (n : Int)) fun a b hab h => hab (by have h2 : (a : Int) = (b : Int) := h; omega)⟩
    rw [List.length_map] at q1 q2
    congr 1
    rw [← decide_not]
    refine decide_eq_decide.mpr ?_
    rw [← q3, ← q1]
    omega
  · rw [rowOk_cons, hns, show (decide ns.Nodup && !decide (c ∈ ns)) = false from by rw [← Bool.not_eq_true']; rw [Bool.not_and, Bool.not_not]; exact e]
    simp
  have hB : decide ns.Nodup = true ∧ decide (c ∈ ns) = false := by
    rw [Bool.or_eq_false_iff] at eB
    exact ⟨by simpa using eB.1, eB.2⟩
  refine b_ret h5 (v := .ref l) (by walk_at "var") (fun H' h' => k _ _ _ _ h' ?_)
  by_cases h6 : c < 6
  · refine .inl ⟨ns, ?_, hm⟩
    rw [hval h6, List.tail_cons, hns, if_pos]
    rw [rowOk_cons, hns, decide_eq_true hw0, hall, hB.1, hB.2]
    rfl
  · exact .inr (.inr ⟨by omega, l, rfl⟩)
end
end TP

set_option Elab.async false
set_option linter.all false
set_option maxRecDepth 100000
set_option maxHeartbeats 2000000
namespace TP
open PySem PySem.Spec PyProof.Rows L2
open Evl (Ex)
-- tactics of this text: what an expression is worth (jv jd jt jo jw), growth (ex), what remains (side); call, calld: what the text adds
local macro_rules | `(tactic| walk_at "ex") => `(tactic| first | exact Ex.refl _ | assumption | (refine' Ex.trans ?_ (by assumption); walk_at "ex"))
local macro_rules | `(tactic| walk_at "vis") => `(tactic| first
  | exact Or.inl rfl
  | exact Or.inr (Or.inl rfl)
  | exact Or.inr (Or.inr rfl))
local macro_rules | `(tactic| walk_at "loc") => `(tactic| first
  | exact Or.inl rfl
  | exact Or.inr rfl)
local macro_rules | `(tactic| walk_at "side") => `(tactic| first
  | assumption
  | omega
  | decide
  | exact rfl
  | (simp_all; done)
  | (simp_all; omega))
local macro_rules | `(tactic| walk_at "hu") => `(tactic| first
  | exact room65 (by assumption)
  | exact Room.units (by assumption))
local macro_rules | `(tactic| walk_at "dp") => `(tactic| first | assumption | (refine' Dx.mono ?_ (by assumption); walk_at "ex"))
local macro_rules | `(tactic| walk_at "var") => `(tactic| first
  | (apply jv_var 0; exact rfl; exact rfl; walk_at "vis"; decide; decide)
  | (apply jv_var 1; exact rfl; exact rfl; walk_at "vis"; decide; decide)
  | (apply jv_var 2; exact rfl; exact rfl; walk_at "vis"; decide; decide)
  | (apply jv_var 3; exact rfl; exact rfl; walk_at "vis"; decide; decide)
  | (apply jv_var 4; exact rfl; exact rfl; walk_at "vis"; decide; decide)
  | (apply jv_var 5; exact rfl; exact rfl; walk_at "vis"; decide; decide)
  | (apply jv_var 6; exact rfl; exact rfl; walk_at "vis"; decide; decide)
  | (apply jv_var 7; exact rfl; exact rfl; walk_at "vis"; decide; decide)
  | (apply jv_var 8; exact rfl; exact rfl; walk_at "vis"; decide; decide)
  | (apply jv_var 9; exact rfl; exact rfl; walk_at "vis"; decide; decide)
  | (apply jv_var 10; exact rfl; exact rfl; walk_at "vis"; decide; decide)
  | (apply jv_var 11; exact rfl; exact rfl; walk_at "vis"; decide; decide)
  | (apply jv_var 12; exact rfl; exact rfl; walk_at "vis"; decide; decide)
  | (apply jv_var 13; exact rfl; exact rfl; walk_at "vis"; decide; decide)
  | (apply jv_var 14; exact rfl; exact rfl; walk_at "vis"; decide; decide)
  | (apply jv_var 15; exact rfl; exact rfl; walk_at "vis"; decide; decide)
  | (apply jv_var 16; exact rfl; exact rfl; walk_at "vis"; decide; decide)
  | (apply jv_var 17; exact rfl; exact rfl; walk_at "vis"; decide; decide)
  | (apply jv_var 18; exact rfl; exact rfl; walk_at "vis"; decide; decide)
  | (apply jv_var 19; exact rfl; exact rfl; walk_at "vis"; decide; decide))
local macro_rules | `(tactic| walk_at "bm") => `(tactic| first
  | assumption)
local macro_rules | `(tactic| walk_at "call") => `(tactic| first
  | fail "call")
local macro_rules | `(tactic| walk_at "calld") => `(tactic| first
  | fail "calld")
local macro_rules | `(tactic| walk_at "kit") => `(tactic| first
  | assumption
  | exact kit_ii
  | exact kit_ib
  | exact kit_bi
  | exact kit_bb
  | exact kit_li
  | exact kit_ll
  | exact kit_tt
  | exact kit_tl
  | exact kit_lt
  | exact kit_tb)
local macro_rules | `(tactic| walk_at "ns") => `(tactic| first
  | exact fun _ _ => rfl)
local macro_rules | `(tactic| walk_at "jv") => `(tactic| first
  | exact jv_int
  | exact jv_bl
  | exact jv_non
  | exact jv_str
  | walk_at "var"
  | (apply jv_add; walk_at "jv"; walk_at "jv")
  | (apply jv_sub; walk_at "jv"; walk_at "jv")
  | (apply jv_neg; walk_at "jv")
  | (apply jv_mul; walk_at "jv"; walk_at "jv"; walk_at "mulok")
  | (apply jv_fdiv; walk_at "jv"; walk_at "jv"; walk_at "divok")
  | (apply jv_mod; walk_at "jv"; walk_at "jv"; walk_at "side")
  | (apply jv_band; walk_at "jv"; walk_at "jv")
  | (apply jv_cmp; walk_at "jo"; (first | exact rfl | exact nomark _))
  | (apply jv_chain op_le op_le; walk_at "jv"; walk_at "jv"; walk_at "jv"; with_unfolding_all rfl)
  | (apply jv_chain op_le op_lt; walk_at "jv"; walk_at "jv"; walk_at "jv"; with_unfolding_all rfl)
  | (apply jv_and; walk_at "jv"; intro hand; walk_at "jv")
  | (apply jv_or; walk_at "jv"; intro hor; walk_at "jv")
  | (apply jv_not; walk_at "jv")
  | (apply jv_one; walk_at "jv")
  | (apply jv_lenM; walk_at "bm"; walk_at "jd"; exact rfl; walk_at "ns")
  | (apply jv_len; walk_at "bm"; walk_at "jd"; exact rfl; walk_at "ns")
  | (apply jv_all; exact rfl; walk_at "bm"; walk_at "jd"; exact rfl; decide +kernel; walk_at "ns")
  | (apply jv_any; exact rfl; walk_at "bm"; walk_at "jd"; exact rfl; decide +kernel; walk_at "ns")
  | (apply jv_lenT; walk_at "bm"; walk_at "jd"; exact rfl; walk_at "ns")
  | walk_at "call"
  | (apply jv_isi; (first | exact boot_tint | exact boot_tbool | exact boot_tlist | exact boot_ttuple); walk_at "bm"; walk_at "bm"; walk_at "jd"; walk_at "kit"; exact rfl; exact rfl; exact boot_isi; walk_at "ns"; decide; decide)
  | (apply jv_lenSet; exact rfl; walk_at "bm"; walk_at "bm"; walk_at "jd"; walk_at "side"; exact rfl; exact rfl; walk_at "ns")
  | (apply jv_ifE; walk_at "jt"; intro hif; walk_at "jv"; intro hif; walk_at "jv")
  | (apply JD.toI; walk_at "jx")
  | (apply JD.toB; walk_at "jx")
  | (apply JD.toS; walk_at "jx"))
local macro_rules | `(tactic| walk_at "mulok") => `(tactic| first
  | exact Or.inr ⟨by decide, by decide⟩
  | exact Or.inl ⟨by decide, by decide⟩
  | exact Or.inl ⟨by omega, by omega⟩
  | exact Or.inr ⟨by omega, by omega⟩)
local macro_rules | `(tactic| walk_at "divok") => `(tactic| first
  | exact ⟨by decide, by decide⟩
  | exact ⟨by omega, by omega⟩)
local macro_rules | `(tactic| walk_at "jx") => `(tactic| first
  | (apply jd_ixN; walk_at "jd"; walk_at "jv"; exact fun _ _ => rfl; walk_at "side")
  | (apply jd_ixNs; walk_at "jd"; walk_at "jv"; exact fun _ _ => rfl; walk_at "side")
  | (apply jd_ixP; walk_at "jd"; walk_at "jv"; exact fun _ _ => rfl; walk_at "side")
  | (apply jd_ixPs; walk_at "jd"; walk_at "jv"; exact fun _ _ => rfl; walk_at "side")
  | (apply jd_ixI; walk_at "jd"; walk_at "jv"; exact fun _ _ => rfl; walk_at "side")
  | (apply jd_ixP1; walk_at "jd")
  | (apply jd_ixP2; walk_at "jd")
  | walk_at "calld")
local macro_rules | `(tactic| walk_at "jd") => `(tactic| first
  | (apply JV.toD; walk_at "var"; walk_at "dp")
  | walk_at "jx"
  | (apply jd_list; walk_at "jad"; exact Nat.le_of_ble_eq_true rfl)
  | (apply jd_tuple; walk_at "jad"; exact Nat.le_of_ble_eq_true rfl)
  | (apply jd_listOf; walk_at "bm"; walk_at "jd"; exact rfl; exact boot_tlist; walk_at "ns")
  | (apply JV.toD (v := V.int _); walk_at "jv"; exact Dx.int _)
  | (apply JV.toD (v := V.bl _); walk_at "jv"; exact Dx.bl _)
  | (apply JV.toD (v := V.str _); walk_at "jv"; exact Dx.str _)
  | (apply jd_ifE; walk_at "jt"; intro hif; walk_at "jd"; intro hif; walk_at "jd"))
local macro_rules | `(tactic| walk_at "jad") => `(tactic| first
  | exact jad_nil
  | (apply jad_cons; walk_at "jd"; walk_at "jad"; walk_at "ns"))
local macro_rules | `(tactic| walk_at "jo") => `(tactic| first
  | (apply jo_isN; walk_at "jv")
  | (apply jo_notN; walk_at "jv")
  | (apply jo_eqI; walk_at "jv"; walk_at "jv")
  | (apply jo_neI; walk_at "jv"; walk_at "jv")
  | (apply jo_lt; walk_at "jv"; walk_at "jv")
  | (apply jo_le; walk_at "jv"; walk_at "jv")
  | (apply jo_gt; walk_at "jv"; walk_at "jv")
  | (apply jo_ge; walk_at "jv"; walk_at "jv")
  | (apply jo_inN; walk_at "hu"; walk_at "jv"; walk_at "jd")
  | (apply jo_niN; walk_at "hu"; walk_at "jv"; walk_at "jd")
  | (apply jo_eqD; walk_at "hu"; walk_at "jd"; walk_at "jd"; walk_at "shp"; walk_at "shp")
  | (apply jo_neD; walk_at "hu"; walk_at "jd"; walk_at "jd"; walk_at "shp"; walk_at "shp"))
local macro_rules | `(tactic| walk_at "shp") => `(tactic| first
  | assumption
  | exact Shp.shaped eLL _
  | exact Shp.shaped ePs _
  | exact Shp.shaped eNs _
  | exact Shp.shaped ePss _
  | exact Shp.shaped eP _
  | exact Shp.shaped eN _
  | exact Shp.shaped eI _
  | decide)
local macro_rules | `(tactic| walk_at "jw") => `(tactic| first
  | (apply jw_one_and; walk_at "jt")
  | (apply jw_one_or; walk_at "jt")
  | (apply jw_and; walk_at "jt"; intro hand; walk_at "jw")
  | (apply jw_or; walk_at "jt"; intro hor; walk_at "jw"))
local macro_rules | `(tactic| walk_at "jt") => `(tactic| first
  | (apply jt_w; walk_at "jw")
  | (apply jt_cmp; walk_at "jo"; (first | exact rfl | exact nomark _))
  | (apply jt_not; walk_at "jt")
  | (apply jt_val; walk_at "jv"; exact fun _ => rfl)
  | (apply jt_chain op_le op_le; walk_at "jv"; walk_at "jv"; walk_at "jv"; with_unfolding_all rfl))
local macro_rules | `(tactic| walk_at "camp") => `(tactic| first | assumption | (refine' CampAt.mono ?_ (by assumption); walk_at "ex"))
local macro_rules | `(tactic| walk_at "calld") => `(tactic| first
  | (apply jd_told; assumption; walk_at "var"; walk_at "camp"; exact rfl)
  | walk_at "calld2")
local macro_rules | `(tactic| walk_at "calld2") => `(tactic| first
  | fail "calld2")
local macro_rules | `(tactic| walk_at "room") => `(tactic| first
  | assumption
  | exact Room.mono (by assumption) (by decide))
local macro_rules | `(tactic| walk_at "bm") => `(tactic| first
  | assumption
  | exact Tx.len (by assumption)
  | exact Tx.range (by assumption)
  | exact Tx.list (by assumption)
  | exact Tx.all (by assumption)
  | exact Tx.any (by assumption)
  | exact Tx.isi (by assumption)
  | exact Tx.int (by assumption)
  | exact Tx.bool (by assumption)
  | exact Tx.set (by assumption)
  | exact Tx.tup (by assumption))
local macro_rules | `(tactic| walk_at "call") => `(tactic| first
  | (apply jv_size; assumption; walk_at "var"; walk_at "camp"; exact rfl)
  | (apply jv_index; walk_at "hu"; walk_at "jd"; walk_at "jv"; walk_at "side"; walk_at "ns"; exact rfl; exact rfl; exact rfl)
  | (apply jv_would; assumption; assumption; walk_at "room"; walk_at "var"; walk_at "camp"; walk_at "jv"; walk_at "jv"; walk_at "side"; walk_at "side"; walk_at "ns"; walk_at "ns"; exact rfl; exact rfl)
  | walk_at "call2")
local macro_rules | `(tactic| walk_at "call2") => `(tactic| first
  | fail "call2")
local macro_rules | `(tactic| walk_at "call2") => `(tactic| first
  | (apply jv_glob; exact rfl; assumption; exact ⟨_, rfl⟩; decide)
  | (apply jv_within; assumption; walk_at "room"; walk_at "jd"; walk_at "jv"; walk_at "jv"; exact rfl; walk_at "ns"; walk_at "ns"; walk_at "ns"; exact rfl))
/-! ### what data say -/
def natOf : PyData → Nat
  | .int i => i.toNat
  | _ => 0
def isLst : PyData → Bool
  | .list _ => true
  | _ => false
def isTup : PyData → Bool
  | .tuple _ => true
  | _ => false
def allIn (n : Nat) (ds : List PyData) : Bool := ds.all fun d => withinD d 0 ((n : Int) - 1)
theorem allIn_eN {n : Nat} : ∀ {ds : List PyData}, allIn n ds = true → ds = (ds.map natOf).map eN ∧ ∀ x ∈ ds.map natOf, x < n
  | [], _ => ⟨rfl, fun _ h => by simp at h⟩
  | d :: ds, h => by
    rw [allIn, List.all_cons, Bool.and_eq_true] at h
    obtain ⟨h1, h2⟩ := h
    obtain ⟨e, m⟩ := allIn_eN (n := n) (ds := ds) h2
    cases d with
    | int i =>
      simp only [withinD, Bool.and_eq_true, decide_eq_true_eq] at h1
      refine ⟨?_, fun x hx => ?_⟩
      · rw [List.map_cons, List.map_cons, ← e]
        show _ = PyData.int ((i.toNat : Nat) : Int) :: ds
        rw [Int.toNat_of_nonneg h1.1]
      · rw [List.map_cons] at hx
        rcases List.mem_cons.mp hx with rfl | hx
        · show i.toNat < n
          omega
        · exact m x hx
    | _ => simp [withinD] at h1
/-- a list that no camp has -/
def badRow (n c : Nat) (d : PyData) : Bool := match d with
  | .list ds => !allIn n ds || !decide (ds.map natOf).Nodup || decide (c ∈ ds.map natOf)
  | _ => true
/-- what makes no camp -/
def badCamp (d : PyData) : Bool := match d with
  | .list rows => !(decide (1 ≤ rows.length) && decide (rows.length ≤ 6)) || (List.range rows.length).any fun c => badRow rows.length c (rows.getD c .none)
  | _ => true
def fewRow (d : PyData) : Prop := match d with
  | .list ds => ds.length ≤ 1000
  | _ => True
def fewCamp (d : PyData) : Prop := match d with
  | .list rows => ∀ r ∈ rows, fewRow r
  | _ => True
theorem kit_list : ∀ d : PyData, (∀ b, d ≠ .dict b) → kitB (dty d) "list" = some (isLst d)
  | .int _, _ => by show kitB "int" "list" = some false; decide +kernel
  | .bool _, _ => by show kitB "bool" "list" = some false; decide +kernel
  | .none, _ => by show kitB "NoneType" "list" = some false; decide +kernel
  | .str _, _ => by show kitB "str" "list" = some false; decide +kernel
  | .list _, _ => by show kitB "list" "list" = some true; decide +kernel
  | .tuple _, _ => by show kitB "tuple" "list" = some false; decide +kernel
  | .dict b, h => absurd rfl (h b)
theorem kit_tuple : ∀ d : PyData, (∀ b, d ≠ .dict b) → kitB (dty d) "tuple" = some (isTup d)
  | .int _, _ => by show kitB "int" "tuple" = some false; decide +kernel
  | .bool _, _ => by show kitB "bool" "tuple" = some false; decide +kernel
  | .none, _ => by show kitB "NoneType" "tuple" = some false; decide +kernel
  | .str _, _ => by show kitB "str" "tuple" = some false; decide +kernel
  | .list _, _ => by show kitB "list" "tuple" = some false; decide +kernel
  | .tuple _, _ => by show kitB "tuple" "tuple" = some true; decide +kernel
  | .dict b, h => absurd rfl (h b)
theorem Dx.nodict {G : Hp} {v : V} {d : PyData} (h : Dx G v d) : ∀ b, d ≠ .dict b := fun b e => by subst e; cases h
section
variable {P : Program} {w : World} {K : PySem.W.Frag} {mg : Str → Option Value} {base : Heap} {C cB cN : Addr}
abbrev spCampR (C cB : Addr) : Sp := spRI C (fun d : PyData => badCamp d = true ∧ fewCamp d) (fun d => [kD d]) cB false
theorem ok_campR {f : Addr} {fd : FuncData} (F : Fun K "__init__" "Camp.__init__" s_Camp___init__ f fd) (T : Tx K mg C) (O : Own K mg "BadCamp" cB) (W : Df P w K mg base "within" 1 spWithin) : FnOk P w K mg base (L2.CX P w) 2 f fd ["self", "lists"] (spCampR C cB) := by
  refine fun_okRI F sc_Camp___init__ (fun _ => rfl) ?_
  rintro cdv A outer s H us Q E d G H0 x dx hr ⟨hbad, hfew⟩ al h k
  obtain ⟨a, rfl, hL⟩ := al.one
  try dsimp only at hL k ⊢
  obtain ⟨tm, hmost⟩ := T.most
  have nd := sc_Camp___init__.nd
  have kE : ∀ {G1 H1 os}, Hs G H0 G1 H1 os → E (.ref cB) none H1 := fun h1 => k _ none h1.st.h rfl
  have hk := kit_list d hL.nodict
  by_cases hd : isLst d = false
  · rw [hd] at hk
    exact b_if (p := true) h (JT.is (p := (!false || false)) (jt_w (jw_or (jt_not (jt_val (by walk_at "jv") (fun _ => rfl))) (fun e => by cases e))) rfl) (fun _ H1 h1 => b_raise rfl (L2.takes_of rfl rfl rfl rfl) O rfl (by decide) (kE h1)) (fun e => by cases e)
  obtain ⟨rows, rfl⟩ : ∃ rows, d = .list rows := by
    cases d with
    | list rows => exact ⟨rows, rfl⟩
    | _ => exact absurd rfl hd
  refine' b_if (p := !(decide (1 ≤ rows.length) && decide (rows.length ≤ 6))) h (JT.is (p := (!true || !(decide ((1 : Int) ≤ (rows.length : Int)) && decide ((rows.length : Int) ≤ 6)))) ?tt ?eq0) (fun _ H1 h1 => b_raise rfl (L2.takes_of rfl rfl rfl rfl) O rfl (by decide) (kE h1)) (fun e H1 h1 => ?_)
  case tt => walk_at "jt"
  case eq0 =>
    have z1 : decide ((1 : Int) ≤ (rows.length : Int)) = decide (1 ≤ rows.length) := decide_eq_decide.mpr (by omega)
    have z2 : decide ((rows.length : Int) ≤ 6) = decide (rows.length ≤ 6) := decide_eq_decide.mpr (by omega)
    rw [z1, z2]; rfl
  have h16 : 1 ≤ rows.length ∧ rows.length ≤ 6 := by simpa using e
  refine b_nil ?_
  refine b_for h1 (f := eN) (xs := List.range rows.length) (ji_range1 T.range (by walk_at "jv") (by omega) rfl (by walk_at "ns")) (L2.passes_of rfl) rfl (fun _ => rfl) (fun G1 H2 h2 e2 => ?_)
  refine ⟨fun pre σ' G' H' => ∃ o1 o2, σ' = [some (.ref x), some a, o1, o2, none] ∧ Hs G H0 G' H' [(x, .ins C dx []), (dx, .own x)] ∧ Ex G1 G' ∧ ∀ c ∈ pre, badRow rows.length c (rows.getD c .none) = false, ?_, ?_, ?_, ?_⟩
  · exact ⟨none, none, rfl, h2, Ex.refl _, fun _ z => by simp at z⟩
  · rintro pre σ' G' H' ⟨o1, o2, rfl, hs, e, _⟩
    exact ⟨e, hs.ex⟩
  · rintro pre c post v σ' G' H' hxs ⟨o1, o2, rfl, hs, e, hpre⟩ pv
    cases pv
    have hc : c < rows.length := by
      have : c ∈ List.range rows.length := by rw [hxs]; simp
      simpa using this
    have hgc : rows[c]? = some (rows.getD c .none) := by rw [List.getD_eq_getElem?_getD, List.getElem?_eq_getElem hc]; rfl
    have hfr : fewRow (rows.getD c .none) := hfew _ (List.mem_of_getElem? hgc)
    generalize hrow : rows.getD c .none = row at *
    refine wg_name (n := 2) nd rfl (by walk_at "loc") (Or.inl rfl) ?_
    refine b_setD (n := 3) (d := row) hs (jd_ix (ds := rows) (i := (c : Int)) (by walk_at "jd") (by walk_at "jv") (atI_nat hgc) (fun _ _ => rfl)) nd rfl (by walk_at "loc") rfl (Or.inl rfl) (fun G2 H3 v h3 e3 hv3 => ?_)
    have hkr := kit_list row hv3.nodict
    by_cases hd2 : isLst row = false
    · rw [hd2] at hkr
      exact b_if (p := true) h3 (JT.is (p := (!false || false)) (jt_w (jw_or (jt_not (jt_val (by walk_at "jv") (fun _ => rfl))) (fun e => by cases e))) rfl) (fun _ H1 h1 => b_raise rfl (L2.takes_of rfl rfl rfl rfl) O rfl (by decide) (kE h1)) (fun e => by cases e)
    obtain ⟨ds, rfl⟩ : ∃ ds, row = .list ds := by
      cases row with
      | list ds => exact ⟨ds, rfl⟩
      | _ => exact absurd rfl hd2
    have hlen : ds.length ≤ 1000 := hfr
    refine' b_if (p := !allIn rows.length ds) h3 (JT.is (p := (!true || !((ds.map fun y => withinD y 0 ((rows.length : Int) - 1)).all id))) (jt_w (jw_or ?t1 (fun _ => jw_one_or (jt_not (jt_val (jv_all rfl T.all (bs := ds.map fun y => withinD y 0 ((rows.length : Int) - 1)) (JD.is (JN.toD (jn_lc (n := 4) (f0 := fun d => d) (xs := ds) (f := fun y => .bool (withinD y 0 ((rows.length : Int) - 1))) (JI.is (ji_list (by walk_at "jd")) (List.map_id' ds).symm) (by omega) rfl nd rfl (fun _ _ _ _ _ => ⟨by walk_at "loc", by walk_at "loc"⟩) (by first | kernel_rfl | rfl) (fun _ => rfl) ?body)) ?eqm) rfl (by decide +kernel) (by walk_at "ns")) (fun _ => rfl)))))) ?eq) (fun _ H1 h1 => b_raise rfl (L2.takes_of rfl rfl rfl rfl) O rfl (by decide) (kE h1)) (fun eA H1 h1 => b_nil ?_)
    case t1 => walk_at "jt"
    case body =>
      intro s h C cl fp y hy G2 u e3 pu
      try dsimp only at pu
      walk_at "jd"
    case eqm => rw [List.map_map]; rfl
    case eq => rw [List.all_map]; rfl
    have hin : allIn rows.length ds = true := by simpa using eA
    obtain ⟨eds, hm⟩ := allIn_eN hin
    generalize hns : ds.map natOf = ns at *
    have hl2 : ns.length ≤ 1000 := by rw [← hns, List.length_map]; exact hlen
    have hv4 : Dx G2 v (eNs ns) := by rw [eds] at hv3; exact hv3
    refine' b_if (p := !decide ns.Nodup || decide (c ∈ ns)) h1 (JT.is (jt_w (jw_or (jt_cmp (jo_lt (jv_lenSet (ns := ns.map fun n : Nat => (n : Int)) rfl T.len T.set (JD.is (d1 := eNs ns) (by walk_at "jd") ?eqs) ?len rfl rfl (by walk_at "ns")) (show JV _ _ _ _ (.int (ns.length : Int)) from by walk_at "jv")) rfl) (fun _ => jw_one_or (by walk_at "jt")))) ?eq) (fun _ H1 h1 => b_raise rfl (L2.takes_of rfl rfl rfl rfl) O rfl (by decide) (kE h1)) (fun eB H1 h1 => b_nil ?_)
    case eqs => rw [List.map_map]; rfl
    case len => rw [List.length_map]; omega
    case eq =>
      have q1 := @dedupI_iff (ns.map fun n : Nat => (n : Int))
      have q2 := dedupI_le (ns.map fun n : Nat => (n : Int))
      have q3 : (ns.map fun n : Nat => (n : Int)).Nodup ↔ ns.Nodup := ⟨fun z => (List.pairwise_map.mp z).imp fun h e => h (by rw [e]), fun z => z.map (fun n : Nat => (n : Int)) fun a b hab h => hab (by have h2 : (a : Int) = (b : Int) := h; omega)⟩
      rw [List.length_map] at q1 q2
      congr 1
      rw [← decide_not]
      refine decide_eq_decide.mpr ?_
      rw [← q3, ← q1]
      omega
    refine b_nil ⟨G2, _, _, rfl, h1, e.trans e3, fun c' hc' => ?_⟩
    rcases List.mem_append.mp hc' with hc' | hc'
    · exact hpre c' hc'
    · rw [List.mem_singleton] at hc'
      subst hc'
      rw [hrow]
      show (!allIn rows.length ds || !decide (ds.map natOf).Nodup || decide (c' ∈ ds.map natOf)) = false
      rw [hin, hns, Bool.not_true, Bool.false_or]
      exact eB
  · rintro σ' G' H' ⟨o1, o2, rfl, hs, e, hall⟩
    exfalso
    have hb2 : (!(decide (1 ≤ rows.length) && decide (rows.length ≤ 6)) || (List.range rows.length).any fun c => badRow rows.length c (rows.getD c .none)) = true := hbad
    rw [show decide (1 ≤ rows.length) = true from decide_eq_true h16.1, show decide (rows.length ≤ 6) = true from decide_eq_true h16.2, Bool.and_self, Bool.not_true, Bool.false_or, List.any_eq_true] at hb2
    obtain ⟨c, hc, hcb⟩ := hb2
    rw [hall c hc] at hcb
    cases hcb
abbrev spCamperR (K : PySem.W.Frag) (C cN : Addr) : Sp := spR (fun i : List (List Nat) × PyData => withinD i.2 0 ((i.1.length : Int) - 1) = false) (fun i => [kCamp K C i.1, kD i.2]) cN false
theorem ok_camperR {f : Addr} {fd : FuncData} (F : Fun K "camper" "Camp.camper" s_Camp_camper f fd) (T : Tx K mg C) (O : Own K mg "NoCamper" cN) (W : Df P w K mg base "within" 1 spWithin) : FnOk P w K mg base (L2.CX P w) 2 f fd ["self", "at"] (spCamperR K C cN) := by
  refine fun_okR F sc_Camp_camper (fun _ => rfl) ?_
  rintro cdv A outer s H vs Q E ⟨L, d⟩ G hr hbad al h k
  obtain ⟨_, v, rfl, ⟨p, rfl, hc⟩, hd⟩ := al.two
  try dsimp only at hbad hc hd k ⊢
  refine b_if (p := true) h (JT.is (p := !(withinD d 0 ((L.length : Int) - 1))) (by walk_at "jt") (by rw [hbad]; rfl)) (fun _ H1 h1 => b_raise rfl (L2.takes_of rfl rfl rfl rfl) O rfl (by decide) (k _ none h1.st.h rfl)) (fun e => by cases e)
abbrev spCamper (K : PySem.W.Frag) (C : Addr) : Sp := spOf (fun i : List (List Nat) × Nat => i.2 < i.1.length) (fun i => [kCamp K C i.1, kI i.2]) (fun i => kI i.2)
theorem ok_camper {f : Addr} {fd : FuncData} (F : Fun K "camper" "Camp.camper" s_Camp_camper f fd) (T : Tx K mg C) (W : Df P w K mg base "within" 1 spWithin) : FnOk P w K mg base CX0 2 f fd ["self", "at"] (spCamper K C) := by
  refine fun_ok F sc_Camp_camper (fun _ => rfl) ?_
  rintro cdv A outer s H vs Q E ⟨L, n⟩ G hr hn al h k
  obtain ⟨_, _, rfl, ⟨p, rfl, hc⟩, rfl⟩ := al.two
  try dsimp only at hn hc k ⊢
  have hw : withinD (.int (n : Int)) 0 ((L.length : Int) - 1) = true := by simp [withinD]; omega
  refine b_if (p := false) h (JT.is (p := !(withinD (.int (n : Int)) 0 ((L.length : Int) - 1))) (by walk_at "jt") (by rw [hw]; rfl)) (fun e => by cases e) (fun _ H1 h1 => b_nil ?_)
  exact b_ret h1 (v := .int (n : Int)) (by walk_at "jv") (fun H' h' => k _ _ _ _ h' rfl)
end
end TP

set_option Elab.async false
set_option linter.all false
set_option maxRecDepth 100000
set_option maxHeartbeats 2000000
namespace TP
open PySem PySem.Spec PyProof.Rows L2
open Evl (Ex)
-- tactics of this text: what an expression is worth (jv jd jt jo jw), growth (ex), what remains (side); call, calld: what the text adds
local macro_rules | `(tactic| walk_at "ex") => `(tactic| first | exact Ex.refl _ | assumption | (refine' Ex.trans ?_ (by assumption); walk_at "ex"))
local macro_rules | `(tactic| walk_at "vis") => `(tactic| first
  | exact Or.inl rfl
  | exact Or.inr (Or.inl rfl)
  | exact Or.inr (Or.inr rfl))
local macro_rules | `(tactic| walk_at "loc") => `(tactic| first
  | exact Or.inl rfl
  | exact Or.inr rfl)
local macro_rules | `(tactic| walk_at "side") => `(tactic| first
  | assumption
  | omega
  | decide
  | exact rfl
  | (simp_all; done)
  | (simp_all; omega))
local macro_rules | `(tactic| walk_at "hu") => `(tactic| first
  | exact room65 (by assumption)
  | exact Room.units (by assumption))
local macro_rules | `(tactic| walk_at "dp") => `(tactic| first | assumption | (refine' Dx.mono ?_ (by assumption); walk_at "ex"))
local macro_rules | `(tactic| walk_at "var") => `(tactic| first
  | (apply jv_var 0; exact rfl; exact rfl; walk_at "vis"; decide; decide)
  | (apply jv_var 1; exact rfl; exact rfl; walk_at "vis"; decide; decide)
  | (apply jv_var 2; exact rfl; exact rfl; walk_at "vis"; decide; decide)
  | (apply jv_var 3; exact rfl; exact rfl; walk_at "vis"; decide; decide)
  | (apply jv_var 4; exact rfl; exact rfl; walk_at "vis"; decide; decide)
  | (apply jv_var 5; exact rfl; exact rfl; walk_at "vis"; decide; decide)
  | (apply jv_var 6; exact rfl; exact rfl; walk_at "vis"; decide; decide)
  | (apply jv_var 7; exact rfl; exact rfl; walk_at "vis"; decide; decide)
  | (apply jv_var 8; exact rfl; exact rfl; walk_at "vis"; decide; decide)
  | (apply jv_var 9; exact rfl; exact rfl; walk_at "vis"; decide; decide)
  | (apply jv_var 10; exact rfl; exact rfl; walk_at "vis"; decide; decide)
  | (apply jv_var 11; exact rfl; exact rfl; walk_at "vis"; decide; decide)
  | (apply jv_var 12; exact rfl; exact rfl; walk_at "vis"; decide; decide)
  | (apply jv_var 13; exact rfl; exact rfl; walk_at "vis"; decide; decide)
  | (apply jv_var 14; exact rfl; exact rfl; walk_at "vis"; decide; decide)
  | (apply jv_var 15; exact rfl; exact rfl; walk_at "vis"; decide; decide)
  | (apply jv_var 16; exact rfl; exact rfl; walk_at "vis"; decide; decide)
  | (apply jv_var 17; exact rfl; exact rfl; walk_at "vis"; decide; decide)
  | (apply jv_var 18; exact rfl; exact rfl; walk_at "vis"; decide; decide)
  | (apply jv_var 19; exact rfl; exact rfl; walk_at "vis"; decide; decide))
local macro_rules | `(tactic| walk_at "bm") => `(tactic| first
  | assumption)
local macro_rules | `(tactic| walk_at "call") => `(tactic| first
  | fail "call")
local macro_rules | `(tactic| walk_at "calld") => `(tactic| first
  | fail "calld")
local macro_rules | `(tactic| walk_at "kit") => `(tactic| first
  | assumption
  | exact kit_ii
  | exact kit_ib
  | exact kit_bi
  | exact kit_bb
  | exact kit_li
  | exact kit_ll
  | exact kit_tt
  | exact kit_tl
  | exact kit_lt
  | exact kit_tb)
local macro_rules | `(tactic| walk_at "ns") => `(tactic| first
  | exact fun _ _ => rfl)
local macro_rules | `(tactic| walk_at "jv") => `(tactic| first
  | exact jv_int
  | exact jv_bl
  | exact jv_non
  | exact jv_str
  | walk_at "var"
  | (apply jv_add; walk_at "jv"; walk_at "jv")
  | (apply jv_sub; walk_at "jv"; walk_at "jv")
  | (apply jv_neg; walk_at "jv")
  | (apply jv_mul; walk_at "jv"; walk_at "jv"; walk_at "mulok")
  | (apply jv_fdiv; walk_at "jv"; walk_at "jv"; walk_at "divok")
  | (apply jv_mod; walk_at "jv"; walk_at "jv"; walk_at "side")
  | (apply jv_band; walk_at "jv"; walk_at "jv")
  | (apply jv_cmp; walk_at "jo"; (first | exact rfl | exact nomark _))
  | (apply jv_chain op_le op_le; walk_at "jv"; walk_at "jv"; walk_at "jv"; with_unfolding_all rfl)
  | (apply jv_chain op_le op_lt; walk_at "jv"; walk_at "jv"; walk_at "jv"; with_unfolding_all rfl)
  | (apply jv_and; walk_at "jv"; intro hand; walk_at "jv")
  | (apply jv_or; walk_at "jv"; intro hor; walk_at "jv")
  | (apply jv_not; walk_at "jv")
  | (apply jv_one; walk_at "jv")
  | (apply jv_lenM; walk_at "bm"; walk_at "jd"; exact rfl; walk_at "ns")
  | (apply jv_len; walk_at "bm"; walk_at "jd"; exact rfl; walk_at "ns")
  | (apply jv_all; exact rfl; walk_at "bm"; walk_at "jd"; exact rfl; decide +kernel; walk_at "ns")
  | (apply jv_any; exact rfl; walk_at "bm"; walk_at "jd"; exact rfl; decide +kernel; walk_at "ns")
  | (apply jv_lenT; walk_at "bm"; walk_at "jd"; exact rfl; walk_at "ns")
  | walk_at "call"
  | (apply jv_isi; (first | exact boot_tint | exact boot_tbool | exact boot_tlist | exact boot_ttuple); walk_at "bm"; walk_at "bm"; walk_at "jd"; walk_at "kit"; exact rfl; exact rfl; exact boot_isi; walk_at "ns"; decide; decide)
  | (apply jv_lenSet; exact rfl; walk_at "bm"; walk_at "bm"; walk_at "jd"; walk_at "side"; exact rfl; exact rfl; walk_at "ns")
  | (apply jv_ifE; walk_at "jt"; intro hif; walk_at "jv"; intro hif; walk_at "jv")
  | (apply JD.toI; walk_at "jx")
  | (apply JD.toB; walk_at "jx")
  | (apply JD.toS; walk_at "jx"))
local macro_rules | `(tactic| walk_at "mulok") => `(tactic| first
  | exact Or.inr ⟨by decide, by decide⟩
  | exact Or.inl ⟨by decide, by decide⟩
  | exact Or.inl ⟨by omega, by omega⟩
  | exact Or.inr ⟨by omega, by omega⟩)
local macro_rules | `(tactic| walk_at "divok") => `(tactic| first
  | exact ⟨by decide, by decide⟩
  | exact ⟨by omega, by omega⟩)
local macro_rules | `(tactic| walk_at "jx") => `(tactic| first
  | (apply jd_ixN; walk_at "jd"; walk_at "jv"; exact fun _ _ => rfl; walk_at "side")
  | (apply jd_ixNs; walk_at "jd"; walk_at "jv"; exact fun _ _ => rfl; walk_at "side")
  | (apply jd_ixP; walk_at "jd"; walk_at "jv"; exact fun _ _ => rfl; walk_at "side")
  | (apply jd_ixPs; walk_at "jd"; walk_at "jv"; exact fun _ _ => rfl; walk_at "side")
  | (apply jd_ixI; walk_at "jd"; walk_at "jv"; exact fun _ _ => rfl; walk_at "side")
  | (apply jd_ixP1; walk_at "jd")
  | (apply jd_ixP2; walk_at "jd")
  | walk_at "calld")
local macro_rules | `(tactic| walk_at "jd") => `(tactic| first
  | (apply JV.toD; walk_at "var"; walk_at "dp")
  | walk_at "jx"
  | (apply jd_list; walk_at "jad"; exact Nat.le_of_ble_eq_true rfl)
  | (apply jd_tuple; walk_at "jad"; exact Nat.le_of_ble_eq_true rfl)
  | (apply jd_listOf; walk_at "bm"; walk_at "jd"; exact rfl; exact boot_tlist; walk_at "ns")
  | (apply JV.toD (v := V.int _); walk_at "jv"; exact Dx.int _)
  | (apply JV.toD (v := V.bl _); walk_at "jv"; exact Dx.bl _)
  | (apply JV.toD (v := V.str _); walk_at "jv"; exact Dx.str _)
  | (apply jd_ifE; walk_at "jt"; intro hif; walk_at "jd"; intro hif; walk_at "jd"))
local macro_rules | `(tactic| walk_at "jad") => `(tactic| first
  | exact jad_nil
  | (apply jad_cons; walk_at "jd"; walk_at "jad"; walk_at "ns"))
local macro_rules | `(tactic| walk_at "jo") => `(tactic| first
  | (apply jo_isN; walk_at "jv")
  | (apply jo_notN; walk_at "jv")
  | (apply jo_eqI; walk_at "jv"; walk_at "jv")
  | (apply jo_neI; walk_at "jv"; walk_at "jv")
  | (apply jo_lt; walk_at "jv"; walk_at "jv")
  | (apply jo_le; walk_at "jv"; walk_at "jv")
  | (apply jo_gt; walk_at "jv"; walk_at "jv")
  | (apply jo_ge; walk_at "jv"; walk_at "jv")
  | (apply jo_inN; walk_at "hu"; walk_at "jv"; walk_at "jd")
  | (apply jo_niN; walk_at "hu"; walk_at "jv"; walk_at "jd")
  | (apply jo_eqD; walk_at "hu"; walk_at "jd"; walk_at "jd"; walk_at "shp"; walk_at "shp")
  | (apply jo_neD; walk_at "hu"; walk_at "jd"; walk_at "jd"; walk_at "shp"; walk_at "shp"))
local macro_rules | `(tactic| walk_at "shp") => `(tactic| first
  | assumption
  | exact Shp.shaped eLL _
  | exact Shp.shaped ePs _
  | exact Shp.shaped eNs _
  | exact Shp.shaped ePss _
  | exact Shp.shaped eP _
  | exact Shp.shaped eN _
  | exact Shp.shaped eI _
  | decide)
local macro_rules | `(tactic| walk_at "jw") => `(tactic| first
  | (apply jw_one_and; walk_at "jt")
  | (apply jw_one_or; walk_at "jt")
  | (apply jw_and; walk_at "jt"; intro hand; walk_at "jw")
  | (apply jw_or; walk_at "jt"; intro hor; walk_at "jw"))
local macro_rules | `(tactic| walk_at "jt") => `(tactic| first
  | (apply jt_w; walk_at "jw")
  | (apply jt_cmp; walk_at "jo"; (first | exact rfl | exact nomark _))
  | (apply jt_not; walk_at "jt")
  | (apply jt_val; walk_at "jv"; exact fun _ => rfl)
  | (apply jt_chain op_le op_le; walk_at "jv"; walk_at "jv"; walk_at "jv"; with_unfolding_all rfl))
local macro_rules | `(tactic| walk_at "camp") => `(tactic| first | assumption | (refine' CampAt.mono ?_ (by assumption); walk_at "ex"))
local macro_rules | `(tactic| walk_at "calld") => `(tactic| first
  | (apply jd_told; assumption; walk_at "var"; walk_at "camp"; exact rfl)
  | walk_at "calld2")
local macro_rules | `(tactic| walk_at "calld2") => `(tactic| first
  | fail "calld2")
local macro_rules | `(tactic| walk_at "room") => `(tactic| first
  | assumption
  | exact Room.mono (by assumption) (by decide))
local macro_rules | `(tactic| walk_at "bm") => `(tactic| first
  | assumption
  | exact Tx.len (by assumption)
  | exact Tx.range (by assumption)
  | exact Tx.list (by assumption)
  | exact Tx.all (by assumption)
  | exact Tx.any (by assumption)
  | exact Tx.isi (by assumption)
  | exact Tx.int (by assumption)
  | exact Tx.bool (by assumption)
  | exact Tx.set (by assumption)
  | exact Tx.tup (by assumption))
local macro_rules | `(tactic| walk_at "call") => `(tactic| first
  | (apply jv_size; assumption; walk_at "var"; walk_at "camp"; exact rfl)
  | (apply jv_index; walk_at "hu"; walk_at "jd"; walk_at "jv"; walk_at "side"; walk_at "ns"; exact rfl; exact rfl; exact rfl)
  | (apply jv_would; assumption; assumption; walk_at "room"; walk_at "var"; walk_at "camp"; walk_at "jv"; walk_at "jv"; walk_at "side"; walk_at "side"; walk_at "ns"; walk_at "ns"; exact rfl; exact rfl)
  | walk_at "call2")
local macro_rules | `(tactic| walk_at "call2") => `(tactic| first
  | fail "call2")
local macro_rules | `(tactic| walk_at "call2") => `(tactic| first
  | (apply jv_glob; exact rfl; assumption; exact ⟨_, rfl⟩; decide)
  | (apply jv_within; assumption; walk_at "room"; walk_at "jd"; walk_at "jv"; walk_at "jv"; exact rfl; walk_at "ns"; walk_at "ns"; walk_at "ns"; exact rfl))
section
variable {P : Program} {w : World} {K : PySem.W.Frag} {mg : Str → Option Value} {base : Heap} {C cB cN cT B : Addr} {mc : Value}
theorem ok_campRN {f : Addr} {fd : FuncData} (F : Fun K "__init__" "Camp.__init__" s_Camp___init__ f fd) (T : Tx K mg C) (O : Own K mg "BadCamp" cB) (W : Df P w K mg base "within" 1 spWithin) : FnOk P w K mg base (L2N.CX P w) 2 f fd ["self", "lists"] (spCampR C cB) := by
  refine fun_okRIN F sc_Camp___init__ (fun _ => rfl) ?_
  rintro cdv A outer s H us Q E d G H0 x dx hr ⟨hbad, hfew⟩ al h k
  obtain ⟨a, rfl, hL⟩ := al.one
  try dsimp only at hL k ⊢
  obtain ⟨tm, hmost⟩ := T.most
  have nd := sc_Camp___init__.nd
  have kE : ∀ {G1 H1 os}, Hs G H0 G1 H1 os → E (.ref cB) none H1 := fun h1 => k _ none h1.st.h rfl
  have hk := kit_list d hL.nodict
  by_cases hd : isLst d = false
  · rw [hd] at hk
    exact b_if (p := true) h (JT.is (p := (!false || false)) (jt_w (jw_or (jt_not (jt_val (by walk_at "jv") (fun _ => rfl))) (fun e => by cases e))) rfl) (fun _ H1 h1 => b_raiseN rfl (L2N.takes_of rfl rfl rfl rfl) O rfl (by decide) (kE h1)) (fun e => by cases e)
  obtain ⟨rows, rfl⟩ : ∃ rows, d = .list rows := by
    cases d with
    | list rows => exact ⟨rows, rfl⟩
    | _ => exact absurd rfl hd
  refine' b_if (p := !(decide (1 ≤ rows.length) && decide (rows.length ≤ 6))) h (JT.is (p := (!true || !(decide ((1 : Int) ≤ (rows.length : Int)) && decide ((rows.length : Int) ≤ 6)))) ?tt ?eq0) (fun _ H1 h1 => b_raiseN rfl (L2N.takes_of rfl rfl rfl rfl) O rfl (by decide) (kE h1)) (fun e H1 h1 => ?_)
  case tt => walk_at "jt"
  case eq0 =>
    have z1 : decide ((1 : Int) ≤ (rows.length : Int)) = decide (1 ≤ rows.length) := decide_eq_decide.mpr (by omega)
    have z2 : decide ((rows.length : Int) ≤ 6) = decide (rows.length ≤ 6) := decide_eq_decide.mpr (by omega)
    rw [z1, z2]; rfl
  have h16 : 1 ≤ rows.length ∧ rows.length ≤ 6 := by simpa using e
  refine b_nil ?_
  refine b_for h1 (f := eN) (xs := List.range rows.length) (ji_range1 T.range (by walk_at "jv") (by omega) rfl (by walk_at "ns")) (L2.passes_of rfl) rfl (fun _ => rfl) (fun G1 H2 h2 e2 => ?_)
  refine ⟨fun pre σ' G' H' => ∃ o1 o2, σ' = [some (.ref x), some a, o1, o2, none] ∧ Hs G H0 G' H' [(x, .ins C dx []), (dx, .own x)] ∧ Ex G1 G' ∧ ∀ c ∈ pre, badRow rows.length c (rows.getD c .none) = false, ?_, ?_, ?_, ?_⟩
  · exact ⟨none, none, rfl, h2, Ex.refl _, fun _ z => by simp at z⟩
  · rintro pre σ' G' H' ⟨o1, o2, rfl, hs, e, _⟩
    exact ⟨e, hs.ex⟩
  · rintro pre c post v σ' G' H' hxs ⟨o1, o2, rfl, hs, e, hpre⟩ pv
    cases pv
    have hc : c < rows.length := by
      have : c ∈ List.range rows.length := by rw [hxs]; simp
      simpa using this
    have hgc : rows[c]? = some (rows.getD c .none) := by rw [List.getD_eq_getElem?_getD, List.getElem?_eq_getElem hc]; rfl
    have hfr : fewRow (rows.getD c .none) := hfew _ (List.mem_of_getElem? hgc)
    generalize hrow : rows.getD c .none = row at *
    refine wg_name (n := 2) nd rfl (by walk_at "loc") (Or.inl rfl) ?_
    refine b_setD (n := 3) (d := row) hs (jd_ix (ds := rows) (i := (c : Int)) (by walk_at "jd") (by walk_at "jv") (atI_nat hgc) (fun _ _ => rfl)) nd rfl (by walk_at "loc") rfl (Or.inl rfl) (fun G2 H3 v h3 e3 hv3 => ?_)
    have hkr := kit_list row hv3.nodict
    by_cases hd2 : isLst row = false
    · rw [hd2] at hkr
      exact b_if (p := true) h3 (JT.is (p := (!false || false)) (jt_w (jw_or (jt_not (jt_val (by walk_at "jv") (fun _ => rfl))) (fun e => by cases e))) rfl) (fun _ H1 h1 => b_raiseN rfl (L2N.takes_of rfl rfl rfl rfl) O rfl (by decide) (kE h1)) (fun e => by cases e)
    obtain ⟨ds, rfl⟩ : ∃ ds, row = .list ds := by
      cases row with
      | list ds => exact ⟨ds, rfl⟩
      | _ => exact absurd rfl hd2
    have hlen : ds.length ≤ 1000 := hfr
    refine' b_if (p := !allIn rows.length ds) h3 (JT.is (p := (!true || !((ds.map fun y => withinD y 0 ((rows.length : Int) - 1)).all id))) (jt_w (jw_or ?t1 (fun _ => jw_one_or (jt_not (jt_val (jv_all rfl T.all (bs := ds.map fun y => withinD y 0 ((rows.length : Int) - 1)) (JD.is (JN.toD (jn_lc (n := 4) (f0 := fun d => d) (xs := ds) (f := fun y => .bool (withinD y 0 ((rows.length : Int) - 1))) (JI.is (ji_list (by walk_at "jd")) (List.map_id' ds).symm) (by omega) rfl nd rfl (fun _ _ _ _ _ => ⟨by walk_at "loc", by walk_at "loc"⟩) (by first | kernel_rfl | rfl) (fun _ => rfl) ?body)) ?eqm) rfl (by decide +kernel) (by walk_at "ns")) (fun _ => rfl)))))) ?eq) (fun _ H1 h1 => b_raiseN rfl (L2N.takes_of rfl rfl rfl rfl) O rfl (by decide) (kE h1)) (fun eA H1 h1 => b_nil ?_)
    case t1 => walk_at "jt"
    case body =>
      intro s h C cl fp y hy G2 u e3 pu
      try dsimp only at pu
      walk_at "jd"
    case eqm => rw [List.map_map]; rfl
    case eq => rw [List.all_map]; rfl
    have hin : allIn rows.length ds = true := by simpa using eA
    obtain ⟨eds, hm⟩ := allIn_eN hin
    generalize hns : ds.map natOf = ns at *
    have hl2 : ns.length ≤ 1000 := by rw [← hns, List.length_map]; exact hlen
    have hv4 : Dx G2 v (eNs ns) := by rw [eds] at hv3; exact hv3
    refine' b_if (p := !decide ns.Nodup || decide (c ∈ ns)) h1 (JT.is (jt_w (jw_or (jt_cmp (jo_lt (jv_lenSet (ns := ns.map fun n : Nat => (n : Int)) rfl T.len T.set (JD.is (d1 := eNs ns) (by walk_at "jd") ?eqs) ?len rfl rfl (by walk_at "ns")) (show JV _ _ _ _ (.int (ns.length : Int)) from by walk_at "jv")) rfl) (fun _ => jw_one_or (by walk_at "jt")))) ?eq) (fun _ H1 h1 => b_raiseN rfl (L2N.takes_of rfl rfl rfl rfl) O rfl (by decide) (kE h1)) (fun eB H1 h1 => b_nil ?_)
    case eqs => rw [List.map_map]; rfl
    case len => rw [List.length_map]; omega
    case eq =>
      have q1 := @dedupI_iff (ns.map fun n : Nat => (n : Int))
      have q2 := dedupI_le (ns.map fun n : Nat => (n : Int))
      have q3 : (ns.map fun n : Nat => (n : Int)).Nodup ↔ ns.Nodup := ⟨fun z => (List.pairwise_map.mp z).imp fun h e => h (by rw [e]), fun z => z.map (fun n : Nat => (n : Int)) fun a b hab h => hab (by have h2 : (a : Int) = (b : Int) := h; omega)⟩
      rw [List.length_map] at q1 q2
      congr 1
      rw [← decide_not]
      refine decide_eq_decide.mpr ?_
      rw [← q3, ← q1]
      omega
    refine b_nil ⟨G2, _, _, rfl, h1, e.trans e3, fun c' hc' => ?_⟩
    rcases List.mem_append.mp hc' with hc' | hc'
    · exact hpre c' hc'
    · rw [List.mem_singleton] at hc'
      subst hc'
      rw [hrow]
      show (!allIn rows.length ds || !decide (ds.map natOf).Nodup || decide (c' ∈ ds.map natOf)) = false
      rw [hin, hns, Bool.not_true, Bool.false_or]
      exact eB
  · rintro σ' G' H' ⟨o1, o2, rfl, hs, e, hall⟩
    exfalso
    have hb2 : (!(decide (1 ≤ rows.length) && decide (rows.length ≤ 6)) || (List.range rows.length).any fun c => badRow rows.length c (rows.getD c .none)) = true := hbad
    rw [show decide (1 ≤ rows.length) = true from decide_eq_true h16.1, show decide (rows.length ≤ 6) = true from decide_eq_true h16.2, Bool.and_self, Bool.not_true, Bool.false_or, List.any_eq_true] at hb2
    obtain ⟨c, hc, hcb⟩ := hb2
    rw [hall c hc] at hcb
    cases hcb
theorem ok_textInit {f : Addr} {fd : FuncData} (F : Fun K "__init__" "BadText.__init__" s_BadText___init__ f fd) (Z : Bas K mg "CampError" B mc) (O : OexC K cT) (nf : PySem.W.findIn K (.ref cT) "row" = some none) : FnOk P w K mg base CX0 1 f fd ["self", "row"] (spXI cT "row") := by
  refine F.ok sc_BadText___init__ (fun vs H Q E ⟨a, v, e, _⟩ => by rw [e]; rfl) fun cdv A outer s H vs Q E hr ⟨a, v, e, hH, k⟩ => ?_
  subst e
  show wSs _ (defBody s_BadText___init__) _ _ _
  refine b_cons ⟨_, ps_expr (pe_basInit Z rfl (by decide) (pa_cons (pv 0) (pa_cons pe_str pa_nil)) rfl rfl rfl) rfl, ⟨_, rfl, a, cT, _, rfl, Nat.le_of_ble_eq_true rfl, O, hH, ?_⟩⟩
  exact b_cons ⟨_, ps_ost (pv 0) (pv 1), ⟨_, rfl, _, rfl, a, cT, rfl, O, nf, .inl ⟨hH, fun dx n ne => b_nil (k dx n ne)⟩⟩⟩
theorem okH_textInit {f : Addr} {fd : FuncData} (F : Fun K "__init__" "BadText.__init__" s_BadText___init__ f fd) (Z : Bas K mg "CampError" B mc) (O : OexC K cT) (nf : PySem.W.findIn K (.ref cT) "row" = some none) : L2H.FnH P w K mg base CX0 1 f fd ["self", "row"] (spXI cT "row") := by
  refine fun_okH2 F sc_BadText___init__ (fun vs H Q E ⟨a, v, e, _⟩ => by rw [e]; rfl) fun cdv A outer s H vs Q E p hot hr ⟨a, v, e, hH, k⟩ => ?_
  subst e
  refine b_cons ⟨_, ps_expr (pe_basInit Z rfl (by decide) (pa_cons (pv 0) (pa_cons pe_str pa_nil)) rfl rfl rfl) rfl, ⟨_, rfl, a, cT, _, rfl, Nat.le_of_ble_eq_true rfl, O, hH, ?_⟩⟩
  exact b_cons ⟨_, ps_ost (pv 0) (pv 1), ⟨_, rfl, _, rfl, a, cT, rfl, O, nf, .inl ⟨hH, fun dx n ne => b_nil (k dx n ne)⟩⟩⟩
end
end TP

set_option Elab.async false
set_option linter.all false
set_option maxRecDepth 100000
set_option maxHeartbeats 4000000
namespace TP
open PySem PySem.Spec PyProof.Rows L2
open Evl (Ex)
-- tactics of this text: what an expression is worth (jv jd jt jo jw), growth (ex), what remains (side); call, calld: what the text adds
local macro_rules | `(tactic| walk_at "ex") => `(tactic| first | exact Ex.refl _ | assumption | (refine' Ex.trans ?_ (by assumption); walk_at "ex"))
local macro_rules | `(tactic| walk_at "vis") => `(tactic| first
  | exact Or.inl rfl
  | exact Or.inr (Or.inl rfl)
  | exact Or.inr (Or.inr rfl))
local macro_rules | `(tactic| walk_at "loc") => `(tactic| first
  | exact Or.inl rfl
  | exact Or.inr rfl)
local macro_rules | `(tactic| walk_at "side") => `(tactic| first
  | assumption
  | omega
  | decide
  | exact rfl
  | (simp_all; done)
  | (simp_all; omega))
local macro_rules | `(tactic| walk_at "hu") => `(tactic| first
  | exact room65 (by assumption)
  | exact Room.units (by assumption))
local macro_rules | `(tactic| walk_at "dp") => `(tactic| first | assumption | (refine' Dx.mono ?_ (by assumption); walk_at "ex"))
local macro_rules | `(tactic| walk_at "var") => `(tactic| first
  | (apply jv_var 0; exact rfl; exact rfl; walk_at "vis"; decide; decide)
  | (apply jv_var 1; exact rfl; exact rfl; walk_at "vis"; decide; decide)
  | (apply jv_var 2; exact rfl; exact rfl; walk_at "vis"; decide; decide)
  | (apply jv_var 3; exact rfl; exact rfl; walk_at "vis"; decide; decide)
  | (apply jv_var 4; exact rfl; exact rfl; walk_at "vis"; decide; decide)
  | (apply jv_var 5; exact rfl; exact rfl; walk_at "vis"; decide; decide)
  | (apply jv_var 6; exact rfl; exact rfl; walk_at "vis"; decide; decide)
  | (apply jv_var 7; exact rfl; exact rfl; walk_at "vis"; decide; decide)
  | (apply jv_var 8; exact rfl; exact rfl; walk_at "vis"; decide; decide)
  | (apply jv_var 9; exact rfl; exact rfl; walk_at "vis"; decide; decide)
  | (apply jv_var 10; exact rfl; exact rfl; walk_at "vis"; decide; decide)
  | (apply jv_var 11; exact rfl; exact rfl; walk_at "vis"; decide; decide)
  | (apply jv_var 12; exact rfl; exact rfl; walk_at "vis"; decide; decide)
  | (apply jv_var 13; exact rfl; exact rfl; walk_at "vis"; decide; decide)
  | (apply jv_var 14; exact rfl; exact rfl; walk_at "vis"; decide; decide)
  | (apply jv_var 15; exact rfl; exact rfl; walk_at "vis"; decide; decide)
  | (apply jv_var 16; exact rfl; exact rfl; walk_at "vis"; decide; decide)
  | (apply jv_var 17; exact rfl; exact rfl; walk_at "vis"; decide; decide)
  | (apply jv_var 18; exact rfl; exact rfl; walk_at "vis"; decide; decide)
  | (apply jv_var 19; exact rfl; exact rfl; walk_at "vis"; decide; decide))
local macro_rules | `(tactic| walk_at "bm") => `(tactic| first
  | assumption)
local macro_rules | `(tactic| walk_at "call") => `(tactic| first
  | fail "call")
local macro_rules | `(tactic| walk_at "calld") => `(tactic| first
  | fail "calld")
local macro_rules | `(tactic| walk_at "kit") => `(tactic| first
  | assumption
  | exact kit_ii
  | exact kit_ib
  | exact kit_bi
  | exact kit_bb
  | exact kit_li
  | exact kit_ll
  | exact kit_tt
  | exact kit_tl
  | exact kit_lt
  | exact kit_tb)
local macro_rules | `(tactic| walk_at "ns") => `(tactic| first
  | exact fun _ _ => rfl)
local macro_rules | `(tactic| walk_at "jv") => `(tactic| first
  | exact jv_int
  | exact jv_bl
  | exact jv_non
  | exact jv_str
  | walk_at "var"
  | (apply jv_add; walk_at "jv"; walk_at "jv")
  | (apply jv_sub; walk_at "jv"; walk_at "jv")
  | (apply jv_neg; walk_at "jv")
  | (apply jv_mul; walk_at "jv"; walk_at "jv"; walk_at "mulok")
  | (apply jv_fdiv; walk_at "jv"; walk_at "jv"; walk_at "divok")
  | (apply jv_mod; walk_at "jv"; walk_at "jv"; walk_at "side")
  | (apply jv_band; walk_at "jv"; walk_at "jv")
  | (apply jv_cmp; walk_at "jo"; (first | exact rfl | exact nomark _))
  | (apply jv_chain op_le op_le; walk_at "jv"; walk_at "jv"; walk_at "jv"; with_unfolding_all rfl)
  | (apply jv_chain op_le op_lt; walk_at "jv"; walk_at "jv"; walk_at "jv"; with_unfolding_all rfl)
  | (apply jv_and; walk_at "jv"; intro hand; walk_at "jv")
  | (apply jv_or; walk_at "jv"; intro hor; walk_at "jv")
  | (apply jv_not; walk_at "jv")
  | (apply jv_one; walk_at "jv")
  | (apply jv_lenM; walk_at "bm"; walk_at "jd"; exact rfl; walk_at "ns")
  | (apply jv_len; walk_at "bm"; walk_at "jd"; exact rfl; walk_at "ns")
  | (apply jv_all; exact rfl; walk_at "bm"; walk_at "jd"; exact rfl; decide +kernel; walk_at "ns")
  | (apply jv_any; exact rfl; walk_at "bm"; walk_at "jd"; exact rfl; decide +kernel; walk_at "ns")
  | (apply jv_lenT; walk_at "bm"; walk_at "jd"; exact rfl; walk_at "ns")
  | walk_at "call"
  | (apply jv_isi; (first | exact boot_tint | exact boot_tbool | exact boot_tlist | exact boot_ttuple); walk_at "bm"; walk_at "bm"; walk_at "jd"; walk_at "kit"; exact rfl; exact rfl; exact boot_isi; walk_at "ns"; decide; decide)
  | (apply jv_lenSet; exact rfl; walk_at "bm"; walk_at "bm"; walk_at "jd"; walk_at "side"; exact rfl; exact rfl; walk_at "ns")
  | (apply jv_ifE; walk_at "jt"; intro hif; walk_at "jv"; intro hif; walk_at "jv")
  | (apply JD.toI; walk_at "jx")
  | (apply JD.toB; walk_at "jx")
  | (apply JD.toS; walk_at "jx"))
local macro_rules | `(tactic| walk_at "mulok") => `(tactic| first
  | exact Or.inr ⟨by decide, by decide⟩
  | exact Or.inl ⟨by decide, by decide⟩
  | exact Or.inl ⟨by omega, by omega⟩
  | exact Or.inr ⟨by omega, by omega⟩)
local macro_rules | `(tactic| walk_at "divok") => `(tactic| first
  | exact ⟨by decide, by decide⟩
  | exact ⟨by omega, by omega⟩)
local macro_rules | `(tactic| walk_at "jx") => `(tactic| first
  | (apply jd_ixN; walk_at "jd"; walk_at "jv"; exact fun _ _ => rfl; walk_at "side")
  | (apply jd_ixNs; walk_at "jd"; walk_at "jv"; exact fun _ _ => rfl; walk_at "side")
  | (apply jd_ixP; walk_at "jd"; walk_at "jv"; exact fun _ _ => rfl; walk_at "side")
  | (apply jd_ixPs; walk_at "jd"; walk_at "jv"; exact fun _ _ => rfl; walk_at "side")
  | (apply jd_ixI; walk_at "jd"; walk_at "jv"; exact fun _ _ => rfl; walk_at "side")
  | (apply jd_ixP1; walk_at "jd")
  | (apply jd_ixP2; walk_at "jd")
  | walk_at "calld")
local macro_rules | `(tactic| walk_at "jd") => `(tactic| first
  | (apply JV.toD; walk_at "var"; walk_at "dp")
  | walk_at "jx"
  | (apply jd_list; walk_at "jad"; exact Nat.le_of_ble_eq_true rfl)
  | (apply jd_tuple; walk_at "jad"; exact Nat.le_of_ble_eq_true rfl)
  | (apply jd_listOf; walk_at "bm"; walk_at "jd"; exact rfl; exact boot_tlist; walk_at "ns")
  | (apply JV.toD (v := V.int _); walk_at "jv"; exact Dx.int _)
  | (apply JV.toD (v := V.bl _); walk_at "jv"; exact Dx.bl _)
  | (apply JV.toD (v := V.str _); walk_at "jv"; exact Dx.str _)
  | (apply jd_ifE; walk_at "jt"; intro hif; walk_at "jd"; intro hif; walk_at "jd"))
local macro_rules | `(tactic| walk_at "jad") => `(tactic| first
  | exact jad_nil
  | (apply jad_cons; walk_at "jd"; walk_at "jad"; walk_at "ns"))
local macro_rules | `(tactic| walk_at "jo") => `(tactic| first
  | (apply jo_isN; walk_at "jv")
  | (apply jo_notN; walk_at "jv")
  | (apply jo_eqI; walk_at "jv"; walk_at "jv")
  | (apply jo_neI; walk_at "jv"; walk_at "jv")
  | (apply jo_lt; walk_at "jv"; walk_at "jv")
  | (apply jo_le; walk_at "jv"; walk_at "jv")
  | (apply jo_gt; walk_at "jv"; walk_at "jv")
  | (apply jo_ge; walk_at "jv"; walk_at "jv")
  | (apply jo_inN; walk_at "hu"; walk_at "jv"; walk_at "jd")
  | (apply jo_niN; walk_at "hu"; walk_at "jv"; walk_at "jd")
  | (apply jo_eqD; walk_at "hu"; walk_at "jd"; walk_at "jd"; walk_at "shp"; walk_at "shp")
  | (apply jo_neD; walk_at "hu"; walk_at "jd"; walk_at "jd"; walk_at "shp"; walk_at "shp"))
local macro_rules | `(tactic| walk_at "shp") => `(tactic| first
  | assumption
  | exact Shp.shaped eLL _
  | exact Shp.shaped ePs _
  | exact Shp.shaped eNs _
  | exact Shp.shaped ePss _
  | exact Shp.shaped eP _
  | exact Shp.shaped eN _
  | exact Shp.shaped eI _
  | decide)
local macro_rules | `(tactic| walk_at "jw") => `(tactic| first
  | (apply jw_one_and; walk_at "jt")
  | (apply jw_one_or; walk_at "jt")
  | (apply jw_and; walk_at "jt"; intro hand; walk_at "jw")
  | (apply jw_or; walk_at "jt"; intro hor; walk_at "jw"))
local macro_rules | `(tactic| walk_at "jt") => `(tactic| first
  | (apply jt_w; walk_at "jw")
  | (apply jt_cmp; walk_at "jo"; (first | exact rfl | exact nomark _))
  | (apply jt_not; walk_at "jt")
  | (apply jt_val; walk_at "jv"; exact fun _ => rfl)
  | (apply jt_chain op_le op_le; walk_at "jv"; walk_at "jv"; walk_at "jv"; with_unfolding_all rfl))
local macro_rules | `(tactic| walk_at "camp") => `(tactic| first | assumption | (refine' CampAt.mono ?_ (by assumption); walk_at "ex"))
local macro_rules | `(tactic| walk_at "calld") => `(tactic| first
  | (apply jd_told; assumption; walk_at "var"; walk_at "camp"; exact rfl)
  | walk_at "calld2")
local macro_rules | `(tactic| walk_at "calld2") => `(tactic| first
  | fail "calld2")
local macro_rules | `(tactic| walk_at "room") => `(tactic| first
  | assumption
  | exact Room.mono (by assumption) (by decide))
local macro_rules | `(tactic| walk_at "bm") => `(tactic| first
  | assumption
  | exact Tx.len (by assumption)
  | exact Tx.range (by assumption)
  | exact Tx.list (by assumption)
  | exact Tx.all (by assumption)
  | exact Tx.any (by assumption)
  | exact Tx.isi (by assumption)
  | exact Tx.int (by assumption)
  | exact Tx.bool (by assumption)
  | exact Tx.set (by assumption)
  | exact Tx.tup (by assumption))
local macro_rules | `(tactic| walk_at "call") => `(tactic| first
  | (apply jv_size; assumption; walk_at "var"; walk_at "camp"; exact rfl)
  | (apply jv_index; walk_at "hu"; walk_at "jd"; walk_at "jv"; walk_at "side"; walk_at "ns"; exact rfl; exact rfl; exact rfl)
  | (apply jv_would; assumption; assumption; walk_at "room"; walk_at "var"; walk_at "camp"; walk_at "jv"; walk_at "jv"; walk_at "side"; walk_at "side"; walk_at "ns"; walk_at "ns"; exact rfl; exact rfl)
  | walk_at "call2")
local macro_rules | `(tactic| walk_at "call2") => `(tactic| first
  | fail "call2")
def isStr : PyData → Bool
  | .str _ => true
  | _ => false
theorem kit_str : ∀ d : PyData, (∀ b, d ≠ .dict b) → kitB (dty d) "str" = some (isStr d)
  | .int _, _ => by show kitB "int" "str" = some false; decide +kernel
  | .bool _, _ => by show kitB "bool" "str" = some false; decide +kernel
  | .none, _ => by show kitB "NoneType" "str" = some false; decide +kernel
  | .str _, _ => by show kitB "str" "str" = some true; decide +kernel
  | .list _, _ => by show kitB "list" "str" = some false; decide +kernel
  | .tuple _, _ => by show kitB "tuple" "str" = some false; decide +kernel
  | .dict b, h => absurd rfl (h b)
/-- texts that are not too long -/
structure Fine (t : Str) : Prop where
  len : t.length ≤ 9000
  nl : t.cps.toList.count 10 ≤ 8
  sp : t.cps.toList.count 32 ≤ 2000
theorem Fine.lines {t : Str} (h : Fine t) : (linesOf t).length ≤ 9 := by rw [lines_count]; have := h.nl; omega
theorem Fine.row {t q : Str} (h : Fine t) (hq : q ∈ linesOf t) : q.length ≤ 9000 ∧ (Txt.split q " ").length ≤ 3000 := by
  refine ⟨Nat.le_trans (part_len hq) h.len, ?_⟩
  rw [spaces_count]
  have := part_count (k := 32) hq
  have := h.sp
  omega
theorem readO_bad {t : Str} {i k : Nat} (hk : readO t = .inl k) (hi : i < (linesOf t).length) (hp : ∀ j, j < i → rowO j ((linesOf t).getD j ⟨#[]⟩) ≠ none) (h : rowO i ((linesOf t).getD i ⟨#[]⟩) = none) : k = i + 1 := by
  have := rowsO_bad (rows := linesOf t) (c := 0) hi (fun j hj => by rw [Nat.zero_add]; exact hp j hj) (by rw [Nat.zero_add]; exact h)
  unfold readO at hk
  rw [this] at hk
  have := Sum.inl.inj hk
  omega
theorem readO_good {t : Str} {L : List (List Nat)} (h1 : L.length = (linesOf t).length) (h2 : ∀ j, j < L.length → rowO j ((linesOf t).getD j ⟨#[]⟩) = some (L.getD j [])) : rowsO 0 (linesOf t) = .inr L :=
  rowsO_good h1 fun j hj => by rw [Nat.zero_add]; exact h2 j (by omega)
theorem tooBig_bad {L : List (List Nat)} (hb : tooBig L = true) : badCamp (eLL L) = true := by
  obtain ⟨r, hr, hx⟩ := List.any_eq_true.mp hb
  obtain ⟨x, hx, hxl⟩ := List.any_eq_true.mp hx
  obtain ⟨c, hc, ec⟩ := List.getElem_of_mem hr
  show (_ || (List.range (L.map eNs).length).any fun c => badRow (L.map eNs).length c ((L.map eNs).getD c .none)) = true
  rw [Bool.or_eq_true]
  refine .inr (List.any_eq_true.mpr ⟨c, List.mem_range.mpr (by rw [List.length_map]; exact hc), ?_⟩)
  have e : (L.map eNs).getD c .none = .list (r.map eN) := by
    rw [List.getD_eq_getElem?_getD, List.getElem?_map, List.getElem?_eq_getElem hc, ec]; rfl
  rw [e, List.length_map]
  have : allIn L.length (r.map eN) = false := Bool.eq_false_iff.mpr fun z => by
    have := List.all_eq_true.mp z (eN x) (List.mem_map.mpr ⟨x, hx, rfl⟩)
    have h2 : (decide ((0 : Int) ≤ (x : Int)) && decide ((x : Int) ≤ (L.length : Int) - 1)) = true := this
    rw [Bool.and_eq_true, decide_eq_true_eq, decide_eq_true_eq] at h2
    have := of_decide_eq_true hxl
    omega
  show (!allIn L.length (r.map eN) || _ || _) = true
  rw [this]; rfl
theorem few_LL {L : List (List Nat)} (h : ∀ r ∈ L, r.length ≤ 1000) : fewCamp (eLL L) := fun d hd => by
  obtain ⟨r, hr, rfl⟩ := List.mem_map.mp hd
  show (r.map eN).length ≤ 1000
  rw [List.length_map]
  exact h r hr
section
variable {X : Cx} {σ : L2.St} {e o a b c : Expr} {G : Hp} {pos : Pos}
theorem jp_LI {n : Nat} {row : Str} {ap : Pos} (M : Df X.prog X.w X.K X.mg X.base "list_in" 1 spLI) (hr : Room 1 X.A) (ha : JV X σ a G (.str row)) (hb : JV X σ b G (.int (n : Int))) (h1 : n < 10) (h2 : row.length ≤ 9000) (h3 : (Txt.split row " ").length ≤ 3000) (hg : Gl X "list_in") (na : NoStar a) (nb : NoStar b)
    (hpl : (backTo pos (starEach [b] X.env)).any (·.1) = false) : JP X σ (.Call (.Name "list_in" ap) [a, b] [] pos) G (kLI n row) :=
  jp_call M hr hg (n, row) ⟨h1, h2, h3⟩ (jal_cons (ha.toPV (v := .str row)) mo_V (fun _ e => jal_cons (hb.mono e).toPV mo_V (fun _ _ => jal_nil) nb) na) na (by decide) hpl
end
section
variable {P : Program} {w : World} {K : PySem.W.Frag} {mg : Str → Option Value} {base : Heap} {C cB cT B : Addr}
abbrev spReadR (cT : Addr) : Sp := spRT (fun i : PyData × Nat => (isStr i.1 = false ∧ i.2 = 1) ∨ ∃ t, i.1 = .str t ∧ Fine t ∧ readO t = .inl i.2) (fun i => [kD i.1]) cT "row" (fun i => i.2)
theorem ok_readR {f : Addr} {fd : FuncData} (F : Fun K "read" "read" s_read f fd) (T : Tx K mg C) (hstr : mg "str" = none) (hfig : ∃ t, mg "FIGURES" = some (.str "012345" t)) (O : OwnX P w K mg base "BadText" cT "row") (OH : OwnXH P w K mg base "BadText" cT "row") (hB : mg "BadCamp" = some (.ref cB)) (xB : PySem.W.exmOne K (.ref cB) (.ref cB) = some true)
    (ML : Df P w K mg base "list_in" 1 spLI) (MC : MkrN P w K mg base C 2 (spCampR C cB)) : FnOk P w K mg base (CXr P w) 4 f fd ["text"] (spReadR cT) := by
  refine fun_okT F sc_read (fun _ => rfl) ?_
  rintro cdv A outer s H vs Q E ⟨d, kn⟩ G hr hp al h k
  obtain ⟨tv, rfl, hd⟩ := al.one
  try dsimp only at hp hd k ⊢
  obtain ⟨tf, hfg⟩ := hfig
  have nd := sc_read.nd
  have tk : TakesR (cxOf (CXr P w) P w K mg base n_read "read" (defScope s_read) f cdv A outer s H E) (fun cls d _ H => E cls d H) := takesR_of rfl rfl rfl rfl rfl
  have hk := kit_str d hd.nodict
  rcases hp with ⟨hn, rfl⟩ | ⟨t, rfl, fine, hro⟩
  · rw [hn] at hk
    refine b_if (p := true) h (JT.is (p := !false) (jt_not (jt_val (jv_isi boot_tstr T.isi hstr (by walk_at "jd") hk rfl rfl boot_isi (by walk_at "ns") (by decide) (by decide)) (fun _ => rfl))) rfl) (fun _ H1 h1 => ?_) (fun e => by cases e)
    exact b_raiseXN rfl tk.n O (hr.mono (by decide)) rfl (by decide) h1.ex (P := kI 1) jv_int.toPV (by walk_at "ns") rfl (fun G' H' dd v e _ pv hx => k H' dd (h1.st.h.trans e) (by cases pv; exact hx))
  refine b_if (p := false) h (JT.is (p := !true) (jt_not (jt_val (jv_isi boot_tstr T.isi hstr (by walk_at "jd") hk rfl rfl boot_isi (by walk_at "ns") (by decide) (by decide)) (fun _ => rfl))) rfl) (fun e => by cases e) (fun _ H2 h2 => b_nil ?_)
  cases hd
  have hll := fine.lines
  have hlen := fine.len
  refine b_setD (n := 1) (d := .list ((linesOf t).map eS)) h2 (JN.toD (jn_split (by walk_at "jv") jv_str (by decide +kernel) (by rw [sizeLine_eq]; omega) (by walk_at "ns") rfl rfl)) nd rfl (by walk_at "loc") rfl (Or.inl rfl) (fun G3 H3 rv h3 e3 hrw => ?_)
  refine b_setN (n := 2) h3 nd rfl (by walk_at "loc") (Or.inl rfl) (fun H4 l h4 => ?_)
  refine b_for h4 (f := eN) (xs := List.range (linesOf t).length) (ji_range1 T.range (JV.is (jv_len T.len (ds := (linesOf t).map eS) (by walk_at "jd") rfl (by walk_at "ns")) (by rw [List.length_map])) (by omega) rfl (by walk_at "ns")) (L2.passes_of rfl) rfl (fun _ => rfl) (fun G5 H5 h5 e5 => ?_)
  have hrw5 := hrw.mono e5
  refine ⟨fun pre σ' G' H' => ∃ ws o3 o4, ∃ Ls : List (List Nat), σ' = [some (.str t), some rv, some (.ref l), o3, o4, none] ∧ Hs G H G' H' [(l, .lst ws)] ∧ Ex G5 G' ∧ DxAll G' ws (Ls.map eNs) ∧ Ls.length = pre.length ∧ ∀ j, j < Ls.length → rowO j ((linesOf t).getD j ⟨#[]⟩) = some (Ls.getD j []), ?_, ?_, ?_, ?_⟩
  · exact ⟨[], none, none, [], rfl, h5, Ex.refl _, .nil, rfl, fun j hj => by simp at hj⟩
  · rintro pre σ' G' H' ⟨ws, o3, o4, Ls, rfl, hs, e, _⟩
    exact ⟨e, hs.ex⟩
  · rintro pre c post v σ' G' H' hxs ⟨ws, o3, o4, Ls, rfl, hs, e, hd, hLs, hrows⟩ pv
    cases pv
    obtain ⟨ec, hcl⟩ := range_cut hxs
    rw [← ec] at hcl
    have hrow : (linesOf t)[c]? = some ((linesOf t).getD c ⟨#[]⟩) := by rw [List.getD_eq_getElem?_getD, List.getElem?_eq_getElem hcl]; rfl
    have fr := fine.row (List.mem_of_getElem? hrow)
    have hpre : ∀ j, j < c → rowO j ((linesOf t).getD j ⟨#[]⟩) ≠ none := fun j hj => by rw [hrows j (by omega)]; exact nofun
    have wl : ws.length ≤ 9 := by rw [hd.length, List.length_map]; omega
    refine wg_name (n := 3) nd rfl (by walk_at "loc") (Or.inl rfl) ?_
    refine b_setP (n := 4) hs (jp_LI (n := c) (row := (linesOf t).getD c ⟨#[]⟩) ML (hr.mono (by decide)) (JD.toS (jd_ix (ds := (linesOf t).map eS) (d := eS ((linesOf t).getD c ⟨#[]⟩)) (by walk_at "jd") (i := (c : Int)) (by walk_at "jv") (atI_nat (by rw [List.getElem?_map, hrow]; rfl)) (fun _ _ => rfl))) (by walk_at "jv") (by omega) fr.1 fr.2 rfl (by walk_at "ns") (by walk_at "ns") rfl) nd rfl (by walk_at "loc") rfl (Or.inl rfl) (fun G6 H6 lt h6 e6 hLI => ?_)
    have fl : (("012345" : Str).length : Int) = 6 := by decide +kernel
    have raised : ∀ {D' : Ends} {rest : List Stmt} {H7 : Hp} {p1 p2 p3 p4 p5 q : Pos} {j : Nat}, rowO c ((linesOf t).getD c ⟨#[]⟩) = none → Hs G H G6 H7 [(l, .lst ws)] →
        wSs (cxOf (CXr P w) P w K mg base n_read "read" (defScope s_read) f cdv A outer s H E) (.Raise (some (.Call (.Name "BadText" p1) [.BinOp (.Name "camper" p2) .Add (.Constant (.int 1) j p3) p4] [] p5)) none q :: rest) D' [some (.str t), some rv, some (.ref l), some (.int (c : Int)), some lt, none] H7 := fun hn h7 => by
      have ek := readO_bad hro hcl hpre hn
      refine b_raiseXN rfl tk.n O (hr.mono (by decide)) rfl (by decide) h7.ex (P := kI ((c : Int) + 1)) (JV.toPV (by walk_at "jv")) (by walk_at "ns") rfl (fun G' H' dd v e _ pv hx => k H' dd (h7.st.h.trans e) ?_)
      cases pv
      rw [hx, ek]
      rfl
    rcases hLI with ⟨ns, hn, hdx⟩ | ⟨hn, rfl⟩ | ⟨h6c, a0, rfl⟩
    · have r6 := rowO_some hn
      have hdx2 := hdx
      cases hdx2 with
      | @lst a0 xs0 _ ha0 _ =>
      refine b_if (p := false) h6 (JT.is (p := (decide (V.ref a0 = V.non) || decide ((("012345" : Str).length : Int) ≤ (c : Int)))) (jt_w (jw_or (jt_cmp (jo_isN (v := .ref a0) (by walk_at "var")) rfl) (fun _ => jw_one_or (jt_cmp (jo_ge (i := (c : Int)) (j := ((("012345" : Str).length : Nat) : Int)) (by walk_at "jv") (jv_lenStr T.len (jv_glob (v := .str "012345") rfl hfg ⟨_, rfl⟩ rfl) (by rw [sizeLine_eq]; decide +kernel) rfl (by walk_at "ns"))) rfl)))) (by rw [fl, decide_eq_false (p := V.ref a0 = V.non) nofun, decide_eq_false (by have := r6.2.1; omega)]; rfl)) (fun e => by cases e) (fun _ H8 h8 => b_nil ?_)
      refine b_append (n := 2) (d := eNs ns) h8 rfl rfl (by walk_at "vis") (by walk_at "jd") (by omega) rfl rfl (by walk_at "ns") rfl rfl rfl rfl (fun G9 H9 v9 h9 e9 d9 => b_nil ⟨G9, _, _, _, Ls ++ [ns], rfl, h9, (e.trans e6).trans e9, ?_, by rw [List.length_append, List.length_append, hLs]; rfl, fun j hj => ?_⟩)
      · rw [List.map_append]
        exact ((hd.mono e6).mono e9).append (.cons d9 .nil)
      · rw [List.length_append, List.length_singleton] at hj
        by_cases hjl : j < Ls.length
        · rw [hrows j hjl, List.getD_eq_getElem?_getD, List.getD_eq_getElem?_getD, List.getElem?_append_left hjl]
        · have ej : j = c := by omega
          subst ej
          rw [hn, List.getD_eq_getElem?_getD, List.getElem?_append_right (by omega), show j - Ls.length = 0 by omega]
          rfl
    · have hn2 : rowO c ((linesOf t).getD c ⟨#[]⟩) = none := by
        by_cases h6c : c < 6
        · exact hn h6c
        · exact rowO_none fun ns _ z => h6c z.1
      exact b_if (p := true) h6 (JT.is (p := (decide (V.non = V.non) || true)) (jt_w (jw_or (jt_cmp (jo_isN (v := .non) (by walk_at "var")) rfl) (fun z => by cases z))) rfl) (fun _ H8 h8 => raised hn2 h8) (fun e => by cases e)
    · have hn2 : rowO c ((linesOf t).getD c ⟨#[]⟩) = none := rowO_none fun ns _ z => by have := z.1; omega
      exact b_if (p := true) h6 (JT.is (p := (decide (V.ref a0 = V.non) || decide ((("012345" : Str).length : Int) ≤ (c : Int)))) (jt_w (jw_or (jt_cmp (jo_isN (v := .ref a0) (by walk_at "var")) rfl) (fun _ => jw_one_or (jt_cmp (jo_ge (i := (c : Int)) (j := ((("012345" : Str).length : Nat) : Int)) (by walk_at "jv") (jv_lenStr T.len (jv_glob (v := .str "012345") rfl hfg ⟨_, rfl⟩ rfl) (by rw [sizeLine_eq]; decide +kernel) rfl (by walk_at "ns"))) rfl)))) (by rw [fl, decide_eq_true (p := (6 : Int) ≤ (c : Int)) (by omega), Bool.or_true])) (fun _ H8 h8 => raised hn2 h8) (fun e => by cases e)
  · rintro σ' G' H' ⟨ws, o3, o4, Ls, rfl, hs, e, hd, hLs, hrows⟩
    have hLn : Ls.length = (linesOf t).length := hLs.trans List.length_range
    have hrO := readO_good hLn hrows
    obtain ⟨_, h6, ht, hr6⟩ := rows_of hrO
    have hbig : tooBig Ls = true ∧ kn = (linesOf t).length + 1 := by
      unfold readO at hro
      rw [hrO] at hro
      have hro2 : (if tooBig Ls = true then Sum.inl ((linesOf t).length + 1) else Sum.inr Ls) = Sum.inl kn := hro
      split at hro2
      · rename_i z
        exact ⟨z, (Sum.inl.inj hro2).symm⟩
      · cases hro2
    obtain ⟨h7, e7⟩ := hs.fix
    have hL : Dx (upd G' l (.lst ws)) (.ref l) (eLL Ls) := .lst upd_same (hd.mono e7)
    have hrw7 := (hrw5.mono e).mono e7
    generalize upd G' l (.lst ws) = G7 at *
    have few : fewCamp (eLL Ls) := few_LL fun r hr => by
      obtain ⟨j, hj, ej⟩ := List.getElem_of_mem hr
      have := (hr6 j hj).len
      rw [List.getD_eq_getElem?_getD, List.getElem?_eq_getElem hj, ej] at this
      have h2 : r.length ≤ 6 := this
      omega
    refine b_tryS rfl rfl ⟨rfl, by decide, .inl hB⟩ (L2H.passesAt_of rfl) (fun pn xe tkb hpo => ?_)
    refine b_setW (n := 5) nd rfl (by walk_at "loc") rfl (Or.inl rfl) (we_makeAt tkb MC (hr.mono (by decide)) rfl T.mgC (eLL Ls) ⟨tooBig_bad hbig.1, few⟩ (jal_cons (JD.toP (d := eLL Ls) (by walk_at "jd")) mo_D (fun _ _ => jal_nil) (by walk_at "ns")) (by walk_at "ns") (by decide) rfl h7.ex (fun H' d' e8 z => ⟨xB, fun a na => ?_⟩))
    intro oe pn hot
    have h8 := h7.flat e8
    refine b_raiseXH (pp := (a, oe)) hot List.mem_cons_self (takesR_of (A := A.deeper (envOfC "read" (defScope s_read) s.heap.objs.size f cdv)) (X := L2H.suiteX (cxOf (CXr P w) P w K mg base n_read "read" (defScope s_read) f cdv A outer s H E) a ((a, oe) :: pn)) rfl rfl rfl rfl rfl) OH (L2H.RoomH.mono (k := 3) ⟨hr.dp, hr.un⟩ (by decide)) rfl (by decide) h8.ex (P := kI (((linesOf t).length : Int) + 1)) (JV.toPV (jv_add (JV.is (jv_len T.len (ds := (linesOf t).map eS) (by walk_at "jd") rfl (by walk_at "ns")) (by rw [List.length_map])) jv_int)) (by walk_at "ns") rfl (fun G' H'' dd v e9 _ pv hx => k H'' dd (h8.st.h.trans e9) ?_)
    cases pv
    rw [hx, hbig.2]
    rfl
abbrev spReadG (K : PySem.W.Frag) (C : Addr) : Sp := spOf (fun i : Str × List (List Nat) => Fine i.1 ∧ rowsO 0 (linesOf i.1) = .inr i.2 ∧ tooBig i.2 = false) (fun i => [kV (.str i.1)]) (fun i => kCamp K C i.2)
theorem ok_readG {f : Addr} {fd : FuncData} (F : Fun K "read" "read" s_read f fd) (T : Tx K mg C) (hstr : mg "str" = none) (hfig : ∃ t, mg "FIGURES" = some (.str "012345" t)) (ML : Df P w K mg base "list_in" 1 spLI) (MC : Mkr P w K mg base C 2 (spCamp C)) : FnOk P w K mg base CX0 4 f fd ["text"] (spReadG K C) := by
  refine fun_ok F sc_read (fun _ => rfl) ?_
  rintro cdv A outer s H vs Q E ⟨t, L⟩ G hr ⟨fine, hrO, hnb⟩ al h k
  obtain ⟨_, rfl, rfl⟩ := al.one
  try dsimp only at fine hrO hnb k ⊢
  obtain ⟨tf, hfg⟩ := hfig
  have nd := sc_read.nd
  have hll := fine.lines
  have hlen := fine.len
  obtain ⟨hLn, h6, ht, hr6⟩ := rows_of hrO
  obtain ⟨_, hrw0⟩ := rowsO_inr hrO
  have hv := valid_read hrO hnb
  have fl : (("012345" : Str).length : Int) = 6 := by decide +kernel
  refine b_if (p := false) h (JT.is (p := !true) (jt_not (jt_val (jv_isi (r := true) (d := .str t) boot_tstr T.isi hstr (JV.toD (by walk_at "jv") (Dx.str _)) (by show kitB "str" "str" = some true; decide +kernel) rfl rfl boot_isi (by walk_at "ns") (by decide) (by decide)) (fun _ => rfl))) rfl) (fun e => by cases e) (fun _ H2 h2 => b_nil ?_)
  refine b_setD (n := 1) (d := .list ((linesOf t).map eS)) h2 (JN.toD (jn_split (by walk_at "jv") jv_str (by decide +kernel) (by rw [sizeLine_eq]; omega) (by walk_at "ns") rfl rfl)) nd rfl (by walk_at "loc") rfl (Or.inl rfl) (fun G3 H3 rv h3 e3 hrw => ?_)
  refine b_setN (n := 2) h3 nd rfl (by walk_at "loc") (Or.inl rfl) (fun H4 l h4 => ?_)
  refine b_for h4 (f := eN) (xs := List.range (linesOf t).length) (ji_range1 T.range (JV.is (jv_len T.len (ds := (linesOf t).map eS) (by walk_at "jd") rfl (by walk_at "ns")) (by rw [List.length_map])) (by omega) rfl (by walk_at "ns")) PassesOwn.never rfl (fun _ => rfl) (fun G5 H5 h5 e5 => ?_)
  have hrw5 := hrw.mono e5
  refine ⟨fun pre σ' G' H' => ∃ ws o3 o4, σ' = [some (.str t), some rv, some (.ref l), o3, o4, none] ∧ Hs G H G' H' [(l, .lst ws)] ∧ Ex G5 G' ∧ DxAll G' ws ((pre.map fun c => L.getD c []).map eNs), ?_, ?_, ?_, ?_⟩
  · exact ⟨[], none, none, rfl, h5, Ex.refl _, .nil⟩
  · rintro pre σ' G' H' ⟨ws, o3, o4, rfl, hs, e, _⟩
    exact ⟨e, hs.ex⟩
  · rintro pre c post v σ' G' H' hxs ⟨ws, o3, o4, rfl, hs, e, hd⟩ pv
    cases pv
    obtain ⟨ec, hcl⟩ := range_cut hxs
    rw [← ec] at hcl
    have hrow : (linesOf t)[c]? = some ((linesOf t).getD c ⟨#[]⟩) := by rw [List.getD_eq_getElem?_getD, List.getElem?_eq_getElem hcl]; rfl
    have fr := fine.row (List.mem_of_getElem? hrow)
    have wl : ws.length ≤ 9 := by rw [hd.length, List.length_map, List.length_map]; omega
    have hn0 : rowO c ((linesOf t).getD c ⟨#[]⟩) = some (L.getD c []) := by
      have := hrw0 c hcl
      rwa [Nat.zero_add] at this
    refine wg_name (n := 3) nd rfl (by walk_at "loc") (Or.inl rfl) ?_
    refine b_setP (n := 4) hs (jp_LI (n := c) (row := (linesOf t).getD c ⟨#[]⟩) ML (hr.mono (by decide)) (JD.toS (jd_ix (ds := (linesOf t).map eS) (d := eS ((linesOf t).getD c ⟨#[]⟩)) (by walk_at "jd") (i := (c : Int)) (by walk_at "jv") (atI_nat (by rw [List.getElem?_map, hrow]; rfl)) (fun _ _ => rfl))) (by walk_at "jv") (by omega) fr.1 fr.2 rfl (by walk_at "ns") (by walk_at "ns") rfl) nd rfl (by walk_at "loc") rfl (Or.inl rfl) (fun G6 H6 lt h6 e6 hLI => ?_)
    rcases hLI with ⟨ns, hn, hdx⟩ | ⟨hn, rfl⟩ | ⟨h6c, a0, rfl⟩
    · rw [hn0] at hn
      cases hn
      have hdx2 := hdx
      cases hdx2 with
      | @lst a0 xs0 _ ha0 _ =>
      refine b_if (p := false) h6 (JT.is (p := (decide (V.ref a0 = V.non) || decide ((("012345" : Str).length : Int) ≤ (c : Int)))) (jt_w (jw_or (jt_cmp (jo_isN (v := .ref a0) (by walk_at "var")) rfl) (fun _ => jw_one_or (jt_cmp (jo_ge (i := (c : Int)) (j := ((("012345" : Str).length : Nat) : Int)) (by walk_at "jv") (jv_lenStr T.len (jv_glob (v := .str "012345") rfl hfg ⟨_, rfl⟩ rfl) (by rw [sizeLine_eq]; decide +kernel) rfl (by walk_at "ns"))) rfl)))) (by rw [fl, decide_eq_false (p := V.ref a0 = V.non) nofun, decide_eq_false (by omega)]; rfl)) (fun e => by cases e) (fun _ H8 h8 => b_nil ?_)
      refine b_append (n := 2) (d := eNs (L.getD c [])) h8 rfl rfl (by walk_at "vis") (by walk_at "jd") (by omega) rfl rfl (by walk_at "ns") rfl rfl rfl rfl (fun G9 H9 v9 h9 e9 d9 => b_nil ⟨G9, _, _, _, rfl, h9, (e.trans e6).trans e9, ?_⟩)
      rw [List.map_append, List.map_append]
      exact ((hd.mono e6).mono e9).append (.cons d9 .nil)
    · have := hn (by omega)
      rw [hn0] at this
      cases this
    · omega
  · rintro σ' G' H' ⟨ws, o3, o4, rfl, hs, e, hd⟩
    obtain ⟨h7, e7⟩ := hs.fix
    have hL : Dx (upd G' l (.lst ws)) (.ref l) (eLL L) := by
      rw [← hLn, show (List.range L.length).map (fun c => L.getD c []) = L from by
        apply List.ext_getElem
        · simp
        · intro i h1 h2
          simp [List.getD_eq_getElem?_getD, List.getElem?_eq_getElem h2]] at hd
      exact .lst upd_same (hd.mono e7)
    generalize upd G' l (.lst ws) = G7 at *
    refine b_try ?_
    refine b_setF (n := 5) h7 (jf_camp T MC hr (by walk_at "jd") hv rfl (by walk_at "ns") rfl) nd rfl (by walk_at "loc") rfl (Or.inl rfl) (fun G8 H8 cv h8 e8 _ hF => b_nil ?_)
    obtain ⟨F, eF, fr, cp, rfl, hc⟩ := hF
    exact b_ret h8 (v := .ref cp) (by walk_at "jv") (fun H9 h9 => k _ _ _ _ h9 ⟨cp, rfl, hc.mono eF⟩)
end
section
variable {X : Cx} {σ : L2.St} {e o a b c : Expr} {G : Hp} {pos : Pos} {C p : Addr} {L : List (List Nat)} {t : Str}
theorem jp_readG {ap : Pos} (M : Df X.prog X.w X.K X.mg X.base "read" 4 (spReadG X.K C)) (hr : Room 4 X.A) (ha : JV X σ a G (.str t)) (hf : Fine t) (h1 : rowsO 0 (linesOf t) = .inr L) (h2 : tooBig L = false) (hg : Gl X "read") (na : NoStar a)
    (hpl : (backTo pos (starEach [] X.env)).any (·.1) = false) : JP X σ (.Call (.Name "read" ap) [a] [] pos) G (kCamp X.K C L) :=
  jp_call M hr hg (t, L) ⟨hf, h1, h2⟩ (jal_cons ha.toPV mo_V (fun _ _ => jal_nil) na) na (by decide) hpl
end
end TP

set_option Elab.async false
set_option linter.all false
set_option maxRecDepth 100000
set_option maxHeartbeats 4000000
namespace TP
open PySem PySem.Spec PyProof.Rows L2
open Evl (Ex)
-- tactics of this text: what an expression is worth (jv jd jt jo jw), growth (ex), what remains (side); call, calld: what the text adds
local macro_rules | `(tactic| walk_at "ex") => `(tactic| first | exact Ex.refl _ | assumption | (refine' Ex.trans ?_ (by assumption); walk_at "ex"))
local macro_rules | `(tactic| walk_at "vis") => `(tactic| first
  | exact Or.inl rfl
  | exact Or.inr (Or.inl rfl)
  | exact Or.inr (Or.inr rfl))
local macro_rules | `(tactic| walk_at "loc") => `(tactic| first
  | exact Or.inl rfl
  | exact Or.inr rfl)
local macro_rules | `(tactic| walk_at "side") => `(tactic| first
  | assumption
  | omega
  | decide
  | exact rfl
  | (simp_all; done)
  | (simp_all; omega))
local macro_rules | `(tactic| walk_at "hu") => `(tactic| first
  | exact room65 (by assumption)
  | exact Room.units (by assumption))
local macro_rules | `(tactic| walk_at "dp") => `(tactic| first | assumption | (refine' Dx.mono ?_ (by assumption); walk_at "ex"))
local macro_rules | `(tactic| walk_at "var") => `(tactic| first
  | (apply jv_var 0; exact rfl; exact rfl; walk_at "vis"; decide; decide)
  | (apply jv_var 1; exact rfl; exact rfl; walk_at "vis"; decide; decide)
  | (apply jv_var 2; exact rfl; exact rfl; walk_at "vis"; decide; decide)
  | (apply jv_var 3; exact rfl; exact rfl; walk_at "vis"; decide; decide)
  | (apply jv_var 4; exact rfl; exact rfl; walk_at "vis"; decide; decide)
  | (apply jv_var 5; exact rfl; exact rfl; walk_at "vis"; decide; decide)
  | (apply jv_var 6; exact rfl; exact rfl; walk_at "vis"; decide; decide)
  | (apply jv_var 7; exact rfl; exact rfl; walk_at "vis"; decide; decide)
  | (apply jv_var 8; exact rfl; exact rfl; walk_at "vis"; decide; decide)
  | (apply jv_var 9; exact rfl; exact rfl; walk_at "vis"; decide; decide)
  | (apply jv_var 10; exact rfl; exact rfl; walk_at "vis"; decide; decide)
  | (apply jv_var 11; exact rfl; exact rfl; walk_at "vis"; decide; decide)
  | (apply jv_var 12; exact rfl; exact rfl; walk_at "vis"; decide; decide)
  | (apply jv_var 13; exact rfl; exact rfl; walk_at "vis"; decide; decide)
  | (apply jv_var 14; exact rfl; exact rfl; walk_at "vis"; decide; decide)
  | (apply jv_var 15; exact rfl; exact rfl; walk_at "vis"; decide; decide)
  | (apply jv_var 16; exact rfl; exact rfl; walk_at "vis"; decide; decide)
  | (apply jv_var 17; exact rfl; exact rfl; walk_at "vis"; decide; decide)
  | (apply jv_var 18; exact rfl; exact rfl; walk_at "vis"; decide; decide)
  | (apply jv_var 19; exact rfl; exact rfl; walk_at "vis"; decide; decide))
local macro_rules | `(tactic| walk_at "bm") => `(tactic| first
  | assumption)
local macro_rules | `(tactic| walk_at "call") => `(tactic| first
  | fail "call")
local macro_rules | `(tactic| walk_at "calld") => `(tactic| first
  | fail "calld")
local macro_rules | `(tactic| walk_at "kit") => `(tactic| first
  | assumption
  | exact kit_ii
  | exact kit_ib
  | exact kit_bi
  | exact kit_bb
  | exact kit_li
  | exact kit_ll
  | exact kit_tt
  | exact kit_tl
  | exact kit_lt
  | exact kit_tb)
local macro_rules | `(tactic| walk_at "ns") => `(tactic| first
  | exact fun _ _ => rfl)
local macro_rules | `(tactic| walk_at "jv") => `(tactic| first
  | exact jv_int
  | exact jv_bl
  | exact jv_non
  | exact jv_str
  | walk_at "var"
  | (apply jv_add; walk_at "jv"; walk_at "jv")
  | (apply jv_sub; walk_at "jv"; walk_at "jv")
  | (apply jv_neg; walk_at "jv")
  | (apply jv_mul; walk_at "jv"; walk_at "jv"; walk_at "mulok")
  | (apply jv_fdiv; walk_at "jv"; walk_at "jv"; walk_at "divok")
  | (apply jv_mod; walk_at "jv"; walk_at "jv"; walk_at "side")
  | (apply jv_band; walk_at "jv"; walk_at "jv")
  | (apply jv_cmp; walk_at "jo"; (first | exact rfl | exact nomark _))
  | (apply jv_chain op_le op_le; walk_at "jv"; walk_at "jv"; walk_at "jv"; with_unfolding_all rfl)
  | (apply jv_chain op_le op_lt; walk_at "jv"; walk_at "jv"; walk_at "jv"; with_unfolding_all rfl)
  | (apply jv_and; walk_at "jv"; intro hand; walk_at "jv")
  | (apply jv_or; walk_at "jv"; intro hor; walk_at "jv")
  | (apply jv_not; walk_at "jv")
  | (apply jv_one; walk_at "jv")
  | (apply jv_lenM; walk_at "bm"; walk_at "jd"; exact rfl; walk_at "ns")
  | (apply jv_len; walk_at "bm"; walk_at "jd"; exact rfl; walk_at "ns")
  | (apply jv_all; exact rfl; walk_at "bm"; walk_at "jd"; exact rfl; decide +kernel; walk_at "ns")
  | (apply jv_any; exact rfl; walk_at "bm"; walk_at "jd"; exact rfl; decide +kernel; walk_at "ns")
  | (apply jv_lenT; walk_at "bm"; walk_at "jd"; exact rfl; walk_at "ns")
  | walk_at "call"
  | (apply jv_isi; (first | exact boot_tint | exact boot_tbool | exact boot_tlist | exact boot_ttuple); walk_at "bm"; walk_at "bm"; walk_at "jd"; walk_at "kit"; exact rfl; exact rfl; exact boot_isi; walk_at "ns"; decide; decide)
  | (apply jv_lenSet; exact rfl; walk_at "bm"; walk_at "bm"; walk_at "jd"; walk_at "side"; exact rfl; exact rfl; walk_at "ns")
  | (apply jv_ifE; walk_at "jt"; intro hif; walk_at "jv"; intro hif; walk_at "jv")
  | (apply JD.toI; walk_at "jx")
  | (apply JD.toB; walk_at "jx")
  | (apply JD.toS; walk_at "jx"))
local macro_rules | `(tactic| walk_at "mulok") => `(tactic| first
  | exact Or.inr ⟨by decide, by decide⟩
  | exact Or.inl ⟨by decide, by decide⟩
  | exact Or.inl ⟨by omega, by omega⟩
  | exact Or.inr ⟨by omega, by omega⟩)
local macro_rules | `(tactic| walk_at "divok") => `(tactic| first
  | exact ⟨by decide, by decide⟩
  | exact ⟨by omega, by omega⟩)
local macro_rules | `(tactic| walk_at "jx") => `(tactic| first
  | (apply jd_ixN; walk_at "jd"; walk_at "jv"; exact fun _ _ => rfl; walk_at "side")
  | (apply jd_ixNs; walk_at "jd"; walk_at "jv"; exact fun _ _ => rfl; walk_at "side")
  | (apply jd_ixP; walk_at "jd"; walk_at "jv"; exact fun _ _ => rfl; walk_at "side")
  | (apply jd_ixPs; walk_at "jd"; walk_at "jv"; exact fun _ _ => rfl; walk_at "side")
  | (apply jd_ixI; walk_at "jd"; walk_at "jv"; exact fun _ _ => rfl; walk_at "side")
  | (apply jd_ixP1; walk_at "jd")
  | (apply jd_ixP2; walk_at "jd")
  | walk_at "calld")
local macro_rules | `(tactic| walk_at "jd") => `(tactic| first
  | (apply JV.toD; walk_at "var"; walk_at "dp")
  | walk_at "jx"
  | (apply jd_list; walk_at "jad"; exact Nat.le_of_ble_eq_true rfl)
  | (apply jd_tuple; walk_at "jad"; exact Nat.le_of_ble_eq_true rfl)
  | (apply jd_listOf; walk_at "bm"; walk_at "jd"; exact rfl; exact boot_tlist; walk_at "ns")
  | (apply JV.toD (v := V.int _); walk_at "jv"; exact Dx.int _)
  | (apply JV.toD (v := V.bl _); walk_at "jv"; exact Dx.bl _)
  | (apply JV.toD (v := V.str _); walk_at "jv"; exact Dx.str _)
  | (apply jd_ifE; walk_at "jt"; intro hif; walk_at "jd"; intro hif; walk_at "jd"))
local macro_rules | `(tactic| walk_at "jad") => `(tactic| first
  | exact jad_nil
  | (apply jad_cons; walk_at "jd"; walk_at "jad"; walk_at "ns"))
local macro_rules | `(tactic| walk_at "jo") => `(tactic| first
  | (apply jo_isN; walk_at "jv")
  | (apply jo_notN; walk_at "jv")
  | (apply jo_eqI; walk_at "jv"; walk_at "jv")
  | (apply jo_neI; walk_at "jv"; walk_at "jv")
  | (apply jo_lt; walk_at "jv"; walk_at "jv")
  | (apply jo_le; walk_at "jv"; walk_at "jv")
  | (apply jo_gt; walk_at "jv"; walk_at "jv")
  | (apply jo_ge; walk_at "jv"; walk_at "jv")
  | (apply jo_inN; walk_at "hu"; walk_at "jv"; walk_at "jd")
  | (apply jo_niN; walk_at "hu"; walk_at "jv"; walk_at "jd")
  | (apply jo_eqD; walk_at "hu"; walk_at "jd"; walk_at "jd"; walk_at "shp"; walk_at "shp")
  | (apply jo_neD; walk_at "hu"; walk_at "jd"; walk_at "jd"; walk_at "shp"; walk_at "shp"))
local macro_rules | `(tactic| walk_at "shp") => `(tactic| first
  | assumption
  | exact Shp.shaped eLL _
  | exact Shp.shaped ePs _
  | exact Shp.shaped eNs _
  | exact Shp.shaped ePss _
  | exact Shp.shaped eP _
  | exact Shp.shaped eN _
  | exact Shp.shaped eI _
  | decide)
local macro_rules | `(tactic| walk_at "jw") => `(tactic| first
  | (apply jw_one_and; walk_at "jt")
  | (apply jw_one_or; walk_at "jt")
  | (apply jw_and; walk_at "jt"; intro hand; walk_at "jw")
  | (apply jw_or; walk_at "jt"; intro hor; walk_at "jw"))
local macro_rules | `(tactic| walk_at "jt") => `(tactic| first
  | (apply jt_w; walk_at "jw")
  | (apply jt_cmp; walk_at "jo"; (first | exact rfl | exact nomark _))
  | (apply jt_not; walk_at "jt")
  | (apply jt_val; walk_at "jv"; exact fun _ => rfl)
  | (apply jt_chain op_le op_le; walk_at "jv"; walk_at "jv"; walk_at "jv"; with_unfolding_all rfl))
local macro_rules | `(tactic| walk_at "camp") => `(tactic| first | assumption | (refine' CampAt.mono ?_ (by assumption); walk_at "ex"))
local macro_rules | `(tactic| walk_at "calld") => `(tactic| first
  | (apply jd_told; assumption; walk_at "var"; walk_at "camp"; exact rfl)
  | walk_at "calld2")
local macro_rules | `(tactic| walk_at "calld2") => `(tactic| first
  | fail "calld2")
local macro_rules | `(tactic| walk_at "room") => `(tactic| first
  | assumption
  | exact Room.mono (by assumption) (by decide))
local macro_rules | `(tactic| walk_at "bm") => `(tactic| first
  | assumption
  | exact Tx.len (by assumption)
  | exact Tx.range (by assumption)
  | exact Tx.list (by assumption)
  | exact Tx.all (by assumption)
  | exact Tx.any (by assumption)
  | exact Tx.isi (by assumption)
  | exact Tx.int (by assumption)
  | exact Tx.bool (by assumption)
  | exact Tx.set (by assumption)
  | exact Tx.tup (by assumption))
local macro_rules | `(tactic| walk_at "call") => `(tactic| first
  | (apply jv_size; assumption; walk_at "var"; walk_at "camp"; exact rfl)
  | (apply jv_index; walk_at "hu"; walk_at "jd"; walk_at "jv"; walk_at "side"; walk_at "ns"; exact rfl; exact rfl; exact rfl)
  | (apply jv_would; assumption; assumption; walk_at "room"; walk_at "var"; walk_at "camp"; walk_at "jv"; walk_at "jv"; walk_at "side"; walk_at "side"; walk_at "ns"; walk_at "ns"; exact rfl; exact rfl)
  | walk_at "call2")
local macro_rules | `(tactic| walk_at "call2") => `(tactic| first
  | fail "call2")
local macro_rules | `(tactic| walk_at "call2") => `(tactic| first
  | (apply jv_cell; assumption; walk_at "room"; walk_at "var"; assumption; walk_at "jv"; exact rfl; walk_at "ns"; walk_at "ns"; exact rfl)
  | (apply jv_draw; assumption; walk_at "room"; walk_at "jv"; walk_at "jv"; walk_at "jv"; walk_at "side"; exact rfl; walk_at "ns"; walk_at "ns"; walk_at "ns"; exact rfl)
  | (apply jv_Lwould; assumption; walk_at "room"; walk_at "jd"; walk_at "jv"; walk_at "jv"; walk_at "side"; walk_at "side"; exact rfl; walk_at "ns"; walk_at "ns"; walk_at "ns"; exact rfl)
  | (apply jv_Lrather; assumption; walk_at "room"; walk_at "jd"; walk_at "jv"; walk_at "jv"; walk_at "jv"; walk_at "side"; walk_at "side"; exact rfl; walk_at "ns"; walk_at "ns"; walk_at "ns"; walk_at "ns"; exact rfl)
  | walk_at "call3")
local macro_rules | `(tactic| walk_at "call3") => `(tactic| first
  | fail "call3")
section
variable {P : Program} {w : World} {K : PySem.W.Frag} {mg : Str → Option Value} {base : Heap} {C : Addr}
abbrev kRI (c : Nat) (row : Str) : Hp → V → Prop := fun G v => (∃ ns, rowO c row = some ns ∧ Dx G v (eNs ns)) ∨ (rowO c row = none ∧ v = .non)
abbrev spRowIn : Sp := spOf (fun i : Nat × Str => i.1 < 10 ∧ i.2.length ≤ 9000) (fun i => [kV (.str i.2), kV (.int (i.1 : Int))]) (fun i => kRI i.1 i.2)
theorem one_sp (a : Nat) : decide ((⟨#[a]⟩ : Str) = " ") = decide (a = 32) := by
  refine decide_eq_decide.mpr ⟨fun h => ?_, fun h => by rw [h]; rfl⟩
  have := congrArg (fun z : Str => z.cps.toList) h
  rw [sp_] at this
  have h2 : [a] = [32] := this
  injection h2
theorem ok_rowIn {f : Addr} {fd : FuncData} (F : Fun K "_law_row_in" "_law_row_in" s_L_row_in f fd) (T : Tx K mg C) (hstr : mg "str" = none) : FnOk P w K mg base CX0 1 f fd ["_law_row", "_law_camper"] spRowIn := by
  refine fun_ok F sc_L_row_in (fun _ => rfl) ?_
  rintro cdv A outer s H vs Q E ⟨c, row⟩ G hr ⟨hc, hlen⟩ al h k
  obtain ⟨_, _, rfl, rfl, rfl⟩ := al.two
  try dsimp only at hc hlen k ⊢
  have nd := sc_L_row_in.nd
  have hsz : row.length ≤ sizeLine := by rw [sizeLine_eq]; omega
  refine b_if (p := !decide (cutS row none (some 2) = dg c ++ ":") || (decide ((row.length : Int) % 2 = 1) || decide ((5 : Int) < (c : Int)))) h (jt_w (jw_or (jt_cmp (jo_neS (jv_sliceS (by walk_at "jv") hsz rfl ⟨2, rfl, jv_int⟩) (jv_dgc10 hstr (by walk_at "jv") hc rfl (by walk_at "ns"))) rfl) (fun _ => jw_or (jt_cmp (jo_eqI (jv_mod (jv_lenStr T.len (by walk_at "jv") hsz rfl (by walk_at "ns")) jv_int (by decide)) jv_int) rfl) (fun _ => jw_one_or (by walk_at "jt"))))) (fun e H1 h1 => ?_) (fun e0 H1 h1 => b_nil ?_)
  · refine b_ret h1 (v := .non) jv_non (fun H' h' => k _ _ _ _ h' (.inr ⟨rowO_bad ?_, rfl⟩))
    rw [Bool.or_eq_true, Bool.or_eq_true, Bool.not_eq_true', decide_eq_false_iff_not, decide_eq_true_eq, decide_eq_true_eq] at e
    rcases e with e | e | e
    · exact .inl e
    · exact .inr (.inl (by omega))
    · exact .inr (.inr (by omega))
  rw [Bool.or_eq_false_iff, Bool.or_eq_false_iff, Bool.not_eq_false', decide_eq_true_eq, decide_eq_false_iff_not, decide_eq_false_iff_not] at e0
  obtain ⟨q1, q2, q3⟩ := e0
  have c6 : c < 6 := by omega
  obtain ⟨ps, ecps, hps⟩ := row_twin q1 (by omega)
  refine b_setN (n := 2) h1 nd rfl (by walk_at "loc") (Or.inl rfl) (fun H2 l h2 => ?_)
  refine b_for h2 (f := fun k : Nat => .int (2 + (k : Nat) * 2)) (xs := List.range ps.length) (ji_range3 T.range jv_int (jv_lenStr T.len (by walk_at "jv") hsz rfl (by walk_at "ns")) jv_int (rg_two hps (by omega)) rfl (by walk_at "ns") (by walk_at "ns") (by walk_at "ns")) PassesOwn.never rfl (fun _ => rfl) (fun G3 H3 h3 e3 => ?_)
  refine ⟨fun pre σ' G' H' => ∃ ws o3, ∃ ns : List Nat, σ' = [some (.str row), some (.int (c : Int)), some (.ref l), o3] ∧ Hs G H G' H' [(l, .lst ws)] ∧ Ex G3 G' ∧ DxAll G' ws (ns.map eN) ∧ ns.length = pre.length ∧ ps.take pre.length = ns.map (fun n => (32, 48 + n)) ∧ Row6 c ns, ?_, ?_, ?_, ?_⟩
  · exact ⟨[], none, [], rfl, h3, Ex.refl _, .nil, rfl, rfl, c6, .nil, by simp, by simp⟩
  · rintro pre σ' G' H' ⟨ws, o3, ns, rfl, hs, e, _⟩
    exact ⟨e, hs.ex⟩
  · rintro pre i post v σ' G' H' hxs ⟨ws, o3, ns, rfl, hs, e, hd, hln, ht, hr6⟩ pv
    cases pv
    obtain ⟨ei, hil⟩ := range_cut hxs
    rw [← ei] at hil hln ht
    obtain ⟨⟨a, b⟩, hi⟩ : ∃ p, ps[i]? = some p := ⟨_, List.getElem?_eq_getElem hil⟩
    obtain ⟨s1, s2⟩ := sign_at ecps hi
    dsimp only at s1 s2
    refine wg_name (n := 3) nd rfl (by walk_at "loc") (Or.inl rfl) ?_
    obtain ⟨eg, eG⟩ := hs.seen
    have hdl : Dx (upd G' l (.lst ws)) (.ref l) (eNs ns) := .lst upd_same (hd.mono eG)
    have wl : ws.length ≤ 6 := by
      have := hr6.len
      rw [hd.length, List.length_map]
      exact this
    have hint : 48 ≤ b ∧ b < 54 → PySem.intText? (⟨#[b]⟩ : Str) = some ((b - 48 : Nat) : Int) := fun hb => by
      have := dg_int (b - 48) (by omega)
      unfold dg at this
      rwa [show 48 + (b - 48) = b by omega] at this
    refine b_ifG (p := !decide (a = 32) || (!decide (48 ≤ b ∧ b < 54) || decide (b - 48 ∈ ns ++ [c]))) hs eg (jt_w (jw_or (JT.is (jt_cmp (jo_neS (jv_ixStr (by walk_at "jv") (by walk_at "jv") hsz s1 (fun _ _ => rfl)) jv_str) rfl) (by rw [one_sp])) (fun _ => jw_or (JT.is (jt_cmp (jo_niS (jv_ixStr (by walk_at "jv") (by walk_at "jv") hsz s2 (fun _ _ => rfl)) jv_str) rfl) (by rw [figs_in])) (fun hb => jw_one_or (jt_cmp (jo_inN (room65 hr) (jv_intS T.int (jv_ixStr (by walk_at "jv") (by walk_at "jv") hsz s2 (fun _ _ => rfl)) (hint (by simpa using hb)) (by show 1 ≤ 640; decide) rfl (by walk_at "ns")) (JD.is (JN.toD (jn_cat (ds := ns.map eN) (ds2 := [eN c]) (by walk_at "jd") (by walk_at "jd") (by rw [List.length_map]; have := hr6.len; simp; omega))) (by rw [List.map_append]; rfl))) rfl))))) (fun hb H4 h4 => ?_) (fun hb H4 h4 => b_nil ?_)
    · refine b_ret h4 (v := .non) jv_non (fun H' h' => k _ _ _ _ h' (.inr ⟨?_, rfl⟩))
      cases hq : rowO c row with
      | none => rfl
      | some ns' =>
        exfalso
        obtain ⟨ea, n, eb, hn, hno⟩ := rowO_at ecps hi ht hq
        rw [ea, eb, show 48 + n - 48 = n by omega, decide_eq_false hno, decide_eq_true (by omega : 48 ≤ 48 + n ∧ 48 + n < 54)] at hb
        simp at hb
    · rw [Bool.or_eq_false_iff, Bool.or_eq_false_iff, Bool.not_eq_false', Bool.not_eq_false', decide_eq_true_eq, decide_eq_true_eq, decide_eq_false_iff_not] at hb
      obtain ⟨ea, hb, hno⟩ := hb
      rw [List.mem_append, List.mem_singleton, not_or] at hno
      refine b_append (n := 2) (d := eN (b - 48)) h4 rfl rfl (by walk_at "vis") (JV.toD (jv_intS T.int (jv_ixStr (by walk_at "jv") (by walk_at "jv") hsz s2 (fun _ _ => rfl)) (hint hb) (by show 1 ≤ 640; decide) rfl (by walk_at "ns")) (Dx.int _)) (by omega) rfl rfl (by walk_at "ns") rfl rfl rfl rfl (fun G6 H6 v6 h6 e6 d6 => b_nil ⟨G6, _, _, ns ++ [b - 48], rfl, h6, e.trans e6, ?_, ?_, ?_, ?_⟩)
      · rw [List.map_append]
        exact (hd.mono e6).snoc d6
      · rw [List.length_append, List.length_append, hln, ei]; rfl
      · rw [List.length_append, ← ei]
        show ps.take (i + 1) = _
        rw [List.take_succ, hi, ht, List.map_append, ea]
        show _ ++ [(32, b)] = _ ++ [(32, 48 + (b - 48))]
        rw [show 48 + (b - 48) = b by omega]
      · refine ⟨c6, ?_, ?_, ?_⟩
        · rw [List.nodup_append]
          refine ⟨hr6.2.1, by simp, fun x hx y hy e => ?_⟩
          rw [List.mem_singleton] at hy
          subst e hy
          exact hno.1 hx
        · rw [List.mem_append, List.mem_singleton]
          rintro (z | z)
          · exact hr6.2.2.1 z
          · exact hno.2 z.symm
        · intro x hx
          rw [List.mem_append, List.mem_singleton] at hx
          rcases hx with hx | hx
          · exact hr6.2.2.2 x hx
          · omega
  · rintro σ' G' H' ⟨ws, o3, ns, rfl, hs, e, hd, hln, ht, hr6⟩
    rw [List.length_range] at hln ht
    obtain ⟨h7, e7⟩ := hs.fix
    have hL : Dx (upd G' l (.lst ws)) (.ref l) (eNs ns) := .lst upd_same (hd.mono e7)
    refine b_ret h7 (v := .ref l) (by walk_at "var") (fun H' h' => k _ _ _ _ h' (.inl ⟨ns, (rowO_iff ecps ns).mpr ⟨?_, hr6⟩, hL⟩))
    rw [← ht, List.take_length]
end
section
variable {X : Cx} {σ : L2.St} {e o a b c : Expr} {G : Hp} {pos : Pos}
theorem jp_rowIn {n : Nat} {row : Str} {ap : Pos} (M : Df X.prog X.w X.K X.mg X.base "_law_row_in" 1 spRowIn) (hr : Room 1 X.A) (ha : JV X σ a G (.str row)) (hb : JV X σ b G (.int (n : Int))) (h1 : n < 10) (h2 : row.length ≤ 9000) (hg : Gl X "_law_row_in") (na : NoStar a) (nb : NoStar b)
    (hpl : (backTo pos (starEach [b] X.env)).any (·.1) = false) : JP X σ (.Call (.Name "_law_row_in" ap) [a, b] [] pos) G (kRI n row) :=
  jp_call M hr hg (n, row) ⟨h1, h2⟩ (jal_cons (ha.toPV (v := .str row)) mo_V (fun _ e => jal_cons (hb.mono e).toPV mo_V (fun _ _ => jal_nil) nb) na) na (by decide) hpl
end
end TP

set_option Elab.async false
set_option linter.all false
set_option maxRecDepth 100000
set_option maxHeartbeats 4000000
namespace TP
open PySem PySem.Spec PyProof.Rows L2
open Evl (Ex)
-- tactics of this text: what an expression is worth (jv jd jt jo jw), growth (ex), what remains (side); call, calld: what the text adds
local macro_rules | `(tactic| walk_at "ex") => `(tactic| first | exact Ex.refl _ | assumption | (refine' Ex.trans ?_ (by assumption); walk_at "ex"))
local macro_rules | `(tactic| walk_at "vis") => `(tactic| first
  | exact Or.inl rfl
  | exact Or.inr (Or.inl rfl)
  | exact Or.inr (Or.inr rfl))
local macro_rules | `(tactic| walk_at "loc") => `(tactic| first
  | exact Or.inl rfl
  | exact Or.inr rfl)
local macro_rules | `(tactic| walk_at "side") => `(tactic| first
  | assumption
  | omega
  | decide
  | exact rfl
  | (simp_all; done)
  | (simp_all; omega))
local macro_rules | `(tactic| walk_at "hu") => `(tactic| first
  | exact room65 (by assumption)
  | exact Room.units (by assumption))
local macro_rules | `(tactic| walk_at "dp") => `(tactic| first | assumption | (refine' Dx.mono ?_ (by assumption); walk_at "ex"))
local macro_rules | `(tactic| walk_at "var") => `(tactic| first
  | (apply jv_var 0; exact rfl; exact rfl; walk_at "vis"; decide; decide)
  | (apply jv_var 1; exact rfl; exact rfl; walk_at "vis"; decide; decide)
  | (apply jv_var 2; exact rfl; exact rfl; walk_at "vis"; decide; decide)
  | (apply jv_var 3; exact rfl; exact rfl; walk_at "vis"; decide; decide)
  | (apply jv_var 4; exact rfl; exact rfl; walk_at "vis"; decide; decide)
  | (apply jv_var 5; exact rfl; exact rfl; walk_at "vis"; decide; decide)
  | (apply jv_var 6; exact rfl; exact rfl; walk_at "vis"; decide; decide)
  | (apply jv_var 7; exact rfl; exact rfl; walk_at "vis"; decide; decide)
  | (apply jv_var 8; exact rfl; exact rfl; walk_at "vis"; decide; decide)
  | (apply jv_var 9; exact rfl; exact rfl; walk_at "vis"; decide; decide)
  | (apply jv_var 10; exact rfl; exact rfl; walk_at "vis"; decide; decide)
  | (apply jv_var 11; exact rfl; exact rfl; walk_at "vis"; decide; decide)
  | (apply jv_var 12; exact rfl; exact rfl; walk_at "vis"; decide; decide)
  | (apply jv_var 13; exact rfl; exact rfl; walk_at "vis"; decide; decide)
  | (apply jv_var 14; exact rfl; exact rfl; walk_at "vis"; decide; decide)
  | (apply jv_var 15; exact rfl; exact rfl; walk_at "vis"; decide; decide)
  | (apply jv_var 16; exact rfl; exact rfl; walk_at "vis"; decide; decide)
  | (apply jv_var 17; exact rfl; exact rfl; walk_at "vis"; decide; decide)
  | (apply jv_var 18; exact rfl; exact rfl; walk_at "vis"; decide; decide)
  | (apply jv_var 19; exact rfl; exact rfl; walk_at "vis"; decide; decide))
local macro_rules | `(tactic| walk_at "bm") => `(tactic| first
  | assumption)
local macro_rules | `(tactic| walk_at "call") => `(tactic| first
  | fail "call")
local macro_rules | `(tactic| walk_at "calld") => `(tactic| first
  | fail "calld")
local macro_rules | `(tactic| walk_at "kit") => `(tactic| first
  | assumption
  | exact kit_ii
  | exact kit_ib
  | exact kit_bi
  | exact kit_bb
  | exact kit_li
  | exact kit_ll
  | exact kit_tt
  | exact kit_tl
  | exact kit_lt
  | exact kit_tb)
local macro_rules | `(tactic| walk_at "ns") => `(tactic| first
  | exact fun _ _ => rfl)
local macro_rules | `(tactic| walk_at "jv") => `(tactic| first
  | exact jv_int
  | exact jv_bl
  | exact jv_non
  | exact jv_str
  | walk_at "var"
  | (apply jv_add; walk_at "jv"; walk_at "jv")
  | (apply jv_sub; walk_at "jv"; walk_at "jv")
  | (apply jv_neg; walk_at "jv")
  | (apply jv_mul; walk_at "jv"; walk_at "jv"; walk_at "mulok")
  | (apply jv_fdiv; walk_at "jv"; walk_at "jv"; walk_at "divok")
  | (apply jv_mod; walk_at "jv"; walk_at "jv"; walk_at "side")
  | (apply jv_band; walk_at "jv"; walk_at "jv")
  | (apply jv_cmp; walk_at "jo"; (first | exact rfl | exact nomark _))
  | (apply jv_chain op_le op_le; walk_at "jv"; walk_at "jv"; walk_at "jv"; with_unfolding_all rfl)
  | (apply jv_chain op_le op_lt; walk_at "jv"; walk_at "jv"; walk_at "jv"; with_unfolding_all rfl)
  | (apply jv_and; walk_at "jv"; intro hand; walk_at "jv")
  | (apply jv_or; walk_at "jv"; intro hor; walk_at "jv")
  | (apply jv_not; walk_at "jv")
  | (apply jv_one; walk_at "jv")
  | (apply jv_lenM; walk_at "bm"; walk_at "jd"; exact rfl; walk_at "ns")
  | (apply jv_len; walk_at "bm"; walk_at "jd"; exact rfl; walk_at "ns")
  | (apply jv_all; exact rfl; walk_at "bm"; walk_at "jd"; exact rfl; decide +kernel; walk_at "ns")
  | (apply jv_any; exact rfl; walk_at "bm"; walk_at "jd"; exact rfl; decide +kernel; walk_at "ns")
  | (apply jv_lenT; walk_at "bm"; walk_at "jd"; exact rfl; walk_at "ns")
  | walk_at "call"
  | (apply jv_isi; (first | exact boot_tint | exact boot_tbool | exact boot_tlist | exact boot_ttuple); walk_at "bm"; walk_at "bm"; walk_at "jd"; walk_at "kit"; exact rfl; exact rfl; exact boot_isi; walk_at "ns"; decide; decide)
  | (apply jv_lenSet; exact rfl; walk_at "bm"; walk_at "bm"; walk_at "jd"; walk_at "side"; exact rfl; exact rfl; walk_at "ns")
  | (apply jv_ifE; walk_at "jt"; intro hif; walk_at "jv"; intro hif; walk_at "jv")
  | (apply JD.toI; walk_at "jx")
  | (apply JD.toB; walk_at "jx")
  | (apply JD.toS; walk_at "jx"))
local macro_rules | `(tactic| walk_at "mulok") => `(tactic| first
  | exact Or.inr ⟨by decide, by decide⟩
  | exact Or.inl ⟨by decide, by decide⟩
  | exact Or.inl ⟨by omega, by omega⟩
  | exact Or.inr ⟨by omega, by omega⟩)
local macro_rules | `(tactic| walk_at "divok") => `(tactic| first
  | exact ⟨by decide, by decide⟩
  | exact ⟨by omega, by omega⟩)
local macro_rules | `(tactic| walk_at "jx") => `(tactic| first
  | (apply jd_ixN; walk_at "jd"; walk_at "jv"; exact fun _ _ => rfl; walk_at "side")
  | (apply jd_ixNs; walk_at "jd"; walk_at "jv"; exact fun _ _ => rfl; walk_at "side")
  | (apply jd_ixP; walk_at "jd"; walk_at "jv"; exact fun _ _ => rfl; walk_at "side")
  | (apply jd_ixPs; walk_at "jd"; walk_at "jv"; exact fun _ _ => rfl; walk_at "side")
  | (apply jd_ixI; walk_at "jd"; walk_at "jv"; exact fun _ _ => rfl; walk_at "side")
  | (apply jd_ixP1; walk_at "jd")
  | (apply jd_ixP2; walk_at "jd")
  | walk_at "calld")
local macro_rules | `(tactic| walk_at "jd") => `(tactic| first
  | (apply JV.toD; walk_at "var"; walk_at "dp")
  | walk_at "jx"
  | (apply jd_list; walk_at "jad"; exact Nat.le_of_ble_eq_true rfl)
  | (apply jd_tuple; walk_at "jad"; exact Nat.le_of_ble_eq_true rfl)
  | (apply jd_listOf; walk_at "bm"; walk_at "jd"; exact rfl; exact boot_tlist; walk_at "ns")
  | (apply JV.toD (v := V.int _); walk_at "jv"; exact Dx.int _)
  | (apply JV.toD (v := V.bl _); walk_at "jv"; exact Dx.bl _)
  | (apply JV.toD (v := V.str _); walk_at "jv"; exact Dx.str _)
  | (apply jd_ifE; walk_at "jt"; intro hif; walk_at "jd"; intro hif; walk_at "jd"))
local macro_rules | `(tactic| walk_at "jad") => `(tactic| first
  | exact jad_nil
  | (apply jad_cons; walk_at "jd"; walk_at "jad"; walk_at "ns"))
local macro_rules | `(tactic| walk_at "jo") => `(tactic| first
  | (apply jo_isN; walk_at "jv")
  | (apply jo_notN; walk_at "jv")
  | (apply jo_eqI; walk_at "jv"; walk_at "jv")
  | (apply jo_neI; walk_at "jv"; walk_at "jv")
  | (apply jo_lt; walk_at "jv"; walk_at "jv")
  | (apply jo_le; walk_at "jv"; walk_at "jv")
  | (apply jo_gt; walk_at "jv"; walk_at "jv")
  | (apply jo_ge; walk_at "jv"; walk_at "jv")
  | (apply jo_inN; walk_at "hu"; walk_at "jv"; walk_at "jd")
  | (apply jo_niN; walk_at "hu"; walk_at "jv"; walk_at "jd")
  | (apply jo_eqD; walk_at "hu"; walk_at "jd"; walk_at "jd"; walk_at "shp"; walk_at "shp")
  | (apply jo_neD; walk_at "hu"; walk_at "jd"; walk_at "jd"; walk_at "shp"; walk_at "shp"))
local macro_rules | `(tactic| walk_at "shp") => `(tactic| first
  | assumption
  | exact Shp.shaped eLL _
  | exact Shp.shaped ePs _
  | exact Shp.shaped eNs _
  | exact Shp.shaped ePss _
  | exact Shp.shaped eP _
  | exact Shp.shaped eN _
  | exact Shp.shaped eI _
  | decide)
local macro_rules | `(tactic| walk_at "jw") => `(tactic| first
  | (apply jw_one_and; walk_at "jt")
  | (apply jw_one_or; walk_at "jt")
  | (apply jw_and; walk_at "jt"; intro hand; walk_at "jw")
  | (apply jw_or; walk_at "jt"; intro hor; walk_at "jw"))
local macro_rules | `(tactic| walk_at "jt") => `(tactic| first
  | (apply jt_w; walk_at "jw")
  | (apply jt_cmp; walk_at "jo"; (first | exact rfl | exact nomark _))
  | (apply jt_not; walk_at "jt")
  | (apply jt_val; walk_at "jv"; exact fun _ => rfl)
  | (apply jt_chain op_le op_le; walk_at "jv"; walk_at "jv"; walk_at "jv"; with_unfolding_all rfl))
local macro_rules | `(tactic| walk_at "camp") => `(tactic| first | assumption | (refine' CampAt.mono ?_ (by assumption); walk_at "ex"))
local macro_rules | `(tactic| walk_at "calld") => `(tactic| first
  | (apply jd_told; assumption; walk_at "var"; walk_at "camp"; exact rfl)
  | walk_at "calld2")
local macro_rules | `(tactic| walk_at "calld2") => `(tactic| first
  | fail "calld2")
local macro_rules | `(tactic| walk_at "room") => `(tactic| first
  | assumption
  | exact Room.mono (by assumption) (by decide))
local macro_rules | `(tactic| walk_at "bm") => `(tactic| first
  | assumption
  | exact Tx.len (by assumption)
  | exact Tx.range (by assumption)
  | exact Tx.list (by assumption)
  | exact Tx.all (by assumption)
  | exact Tx.any (by assumption)
  | exact Tx.isi (by assumption)
  | exact Tx.int (by assumption)
  | exact Tx.bool (by assumption)
  | exact Tx.set (by assumption)
  | exact Tx.tup (by assumption))
local macro_rules | `(tactic| walk_at "call") => `(tactic| first
  | (apply jv_size; assumption; walk_at "var"; walk_at "camp"; exact rfl)
  | (apply jv_index; walk_at "hu"; walk_at "jd"; walk_at "jv"; walk_at "side"; walk_at "ns"; exact rfl; exact rfl; exact rfl)
  | (apply jv_would; assumption; assumption; walk_at "room"; walk_at "var"; walk_at "camp"; walk_at "jv"; walk_at "jv"; walk_at "side"; walk_at "side"; walk_at "ns"; walk_at "ns"; exact rfl; exact rfl)
  | walk_at "call2")
local macro_rules | `(tactic| walk_at "call2") => `(tactic| first
  | fail "call2")
local macro_rules | `(tactic| walk_at "call2") => `(tactic| first
  | (apply jv_cell; assumption; walk_at "room"; walk_at "var"; assumption; walk_at "jv"; exact rfl; walk_at "ns"; walk_at "ns"; exact rfl)
  | (apply jv_draw; assumption; walk_at "room"; walk_at "jv"; walk_at "jv"; walk_at "jv"; walk_at "side"; exact rfl; walk_at "ns"; walk_at "ns"; walk_at "ns"; exact rfl)
  | (apply jv_Lwould; assumption; walk_at "room"; walk_at "jd"; walk_at "jv"; walk_at "jv"; walk_at "side"; walk_at "side"; exact rfl; walk_at "ns"; walk_at "ns"; walk_at "ns"; exact rfl)
  | (apply jv_Lrather; assumption; walk_at "room"; walk_at "jd"; walk_at "jv"; walk_at "jv"; walk_at "jv"; walk_at "side"; walk_at "side"; exact rfl; walk_at "ns"; walk_at "ns"; walk_at "ns"; walk_at "ns"; exact rfl)
  | walk_at "call3")
local macro_rules | `(tactic| walk_at "call3") => `(tactic| first
  | fail "call3")
theorem max_of (g : Int) : ∀ xs : List Int, ∃ m, m ∈ g :: xs ∧ ∀ y ∈ g :: xs, y ≤ m
  | [] => ⟨g, by simp, by simp⟩
  | x :: xs => by
    obtain ⟨m, h1, h2⟩ := max_of g xs
    by_cases q : x ≤ m
    · refine ⟨m, ?_, fun y hy => ?_⟩
      · simp only [List.mem_cons] at h1 ⊢
        rcases h1 with h1 | h1
        · exact .inl h1
        · exact .inr (.inr h1)
      · simp only [List.mem_cons] at hy
        rcases hy with rfl | rfl | hy
        · exact h2 _ (by simp)
        · exact q
        · exact h2 _ (by simp [hy])
    · refine ⟨x, by simp, fun y hy => ?_⟩
      simp only [List.mem_cons] at hy
      rcases hy with rfl | rfl | hy
      · have := h2 y (by simp); omega
      · exact Int.le_refl _
      · have := h2 y (by simp [hy]); omega
/-- the greatest so far -/
structure Gre (g : Int) (L : List (List Nat)) : Prop where
  up : ∀ l ∈ L, ∀ x ∈ l, (x : Int) ≤ g
  at' : g = -1 ∨ ∃ l ∈ L, ∃ x ∈ l, g = (x : Int)
theorem Gre.nil : Gre (-1) [] := ⟨by simp, .inl rfl⟩
theorem Gre.step {g m : Int} {L : List (List Nat)} {ns : List Nat} (h : Gre g L) (h1 : m ∈ g :: ns.map fun n : Nat => (n : Int)) (h2 : ∀ y ∈ g :: ns.map fun n : Nat => (n : Int), y ≤ m) : Gre m (L ++ [ns]) := by
  refine ⟨fun l hl x hx => ?_, ?_⟩
  · rw [List.mem_append, List.mem_singleton] at hl
    rcases hl with hl | rfl
    · have := h.up l hl x hx
      have := h2 g List.mem_cons_self
      omega
    · exact h2 x (List.mem_cons_of_mem _ (List.mem_map.mpr ⟨x, hx, rfl⟩))
  · rcases List.mem_cons.mp h1 with rfl | h1
    · rcases h.at' with z | ⟨l, hl, x, hx, z⟩
      · exact .inl z
      · exact .inr ⟨l, by simp [hl], x, hx, z⟩
    · obtain ⟨x, hx, rfl⟩ := List.mem_map.mp h1
      exact .inr ⟨ns, by simp, x, hx, rfl⟩
theorem Gre.big {g : Int} {L : List (List Nat)} (h : Gre g L) : tooBig L = decide ((L.length : Int) ≤ g) := by
  unfold tooBig
  rw [Bool.eq_iff_iff, List.any_eq_true, decide_eq_true_eq]
  constructor
  · rintro ⟨l, hl, hx⟩
    obtain ⟨x, hx, hxl⟩ := List.any_eq_true.mp hx
    have := h.up l hl x hx
    have := of_decide_eq_true hxl
    omega
  · intro hg
    rcases h.at' with z | ⟨l, hl, x, hx, z⟩
    · omega
    · exact ⟨l, hl, List.any_eq_true.mpr ⟨x, hx, decide_eq_true (by omega)⟩⟩
theorem due_bad {t : Str} {i : Nat} (hi : i < (linesOf t).length) (hp : ∀ j, j < i → rowO j ((linesOf t).getD j ⟨#[]⟩) ≠ none) (h : rowO i ((linesOf t).getD i ⟨#[]⟩) = none) : dueN t = i + 1 := by
  have := rowsO_bad (rows := linesOf t) (c := 0) hi (fun j hj => by rw [Nat.zero_add]; exact hp j hj) (by rw [Nat.zero_add]; exact h)
  unfold dueN readO
  rw [this]
  show 0 + i + 1 = i + 1
  omega
theorem due_good {t : Str} {L : List (List Nat)} (h : rowsO 0 (linesOf t) = .inr L) : dueN t = if tooBig L = true then (linesOf t).length + 1 else 0 := by
  unfold dueN readO
  rw [h]
  by_cases q : tooBig L = true
  · show (match (if tooBig L = true then Sum.inl ((linesOf t).length + 1) else Sum.inr L : Nat ⊕ List (List Nat)) with | .inl k => k | .inr _ => 0) = _
    rw [if_pos q, if_pos q]
  · show (match (if tooBig L = true then Sum.inl ((linesOf t).length + 1) else Sum.inr L : Nat ⊕ List (List Nat)) with | .inl k => k | .inr _ => 0) = _
    rw [if_neg q, if_neg q]
section
variable {P : Program} {w : World} {K : PySem.W.Frag} {mg : Str → Option Value} {base : Heap} {C : Addr}
abbrev spDue : Sp := spOf (fun t : Str => Fine t) (fun t => [kV (.str t)]) (fun t => kI (dueN t : Int))
theorem ok_due {f : Addr} {fd : FuncData} (F : Fun K "_law_due" "_law_due" s_L_due f fd) (T : Tx K mg C) (hmax : mg "max" = none) (M : Df P w K mg base "_law_row_in" 1 spRowIn) : FnOk P w K mg base CX0 2 f fd ["_law_text"] spDue := by
  refine fun_ok F sc_L_due (fun _ => rfl) ?_
  rintro cdv A outer s H vs Q E t G hr fine al h k
  obtain ⟨_, rfl, rfl⟩ := al.one
  try dsimp only at fine k ⊢
  have nd := sc_L_due.nd
  have hll := fine.lines
  have hlen := fine.len
  refine b_setD (n := 1) (d := .list ((linesOf t).map eS)) h (JN.toD (jn_split (by walk_at "jv") jv_str (by decide +kernel) (by rw [sizeLine_eq]; omega) (by walk_at "ns") rfl rfl)) nd rfl (by walk_at "loc") rfl (Or.inl rfl) (fun G3 H3 rv h3 e3 hrw => ?_)
  refine b_setV (n := 2) h3 (v := .int (-1)) (by walk_at "jv") nd rfl (by walk_at "loc") rfl (Or.inl rfl) (fun H4 h4 => ?_)
  refine b_for h4 (f := eN) (xs := List.range (linesOf t).length) (ji_range1 T.range (JV.is (jv_len T.len (ds := (linesOf t).map eS) (by walk_at "jd") rfl (by walk_at "ns")) (by rw [List.length_map])) (by omega) rfl (by walk_at "ns")) PassesOwn.never rfl (fun _ => rfl) (fun G5 H5 h5 e5 => ?_)
  have hrw5 := hrw.mono e5
  refine ⟨fun pre σ' G' H' => ∃ o3 o4, ∃ g : Int, ∃ Ls : List (List Nat), σ' = [some (.str t), some rv, some (.int g), o3, o4] ∧ Hs G H G' H' [] ∧ Ex G5 G' ∧ Gre g Ls ∧ Ls.length = pre.length ∧ ∀ j, j < Ls.length → rowO j ((linesOf t).getD j ⟨#[]⟩) = some (Ls.getD j []), ?_, ?_, ?_, ?_⟩
  · exact ⟨none, none, -1, [], rfl, h5, Ex.refl _, .nil, rfl, fun j hj => by simp at hj⟩
  · rintro pre σ' G' H' ⟨o3, o4, g, Ls, rfl, hs, e, _⟩
    exact ⟨e, hs.ex⟩
  · rintro pre c post v σ' G' H' hxs ⟨o3, o4, g, Ls, rfl, hs, e, hg, hLs, hrows⟩ pv
    cases pv
    obtain ⟨ec, hcl⟩ := range_cut hxs
    rw [← ec] at hcl
    have hrow : (linesOf t)[c]? = some ((linesOf t).getD c ⟨#[]⟩) := by rw [List.getD_eq_getElem?_getD, List.getElem?_eq_getElem hcl]; rfl
    have fr := fine.row (List.mem_of_getElem? hrow)
    have hpre : ∀ j, j < c → rowO j ((linesOf t).getD j ⟨#[]⟩) ≠ none := fun j hj => by rw [hrows j (by omega)]; exact nofun
    have hrw6 := hrw5.mono e
    refine wg_name (n := 3) nd rfl (by walk_at "loc") (Or.inl rfl) ?_
    refine b_setP (n := 4) hs (jp_rowIn (n := c) (row := (linesOf t).getD c ⟨#[]⟩) M (hr.mono (by decide)) (JD.toS (jd_ix (ds := (linesOf t).map eS) (d := eS ((linesOf t).getD c ⟨#[]⟩)) (by walk_at "jd") (i := (c : Int)) (by walk_at "jv") (atI_nat (by rw [List.getElem?_map, hrow]; rfl)) (fun _ _ => rfl))) (by walk_at "jv") (by omega) fr.1 rfl (by walk_at "ns") (by walk_at "ns") rfl) nd rfl (by walk_at "loc") rfl (Or.inl rfl) (fun G6 H6 lt h6 e6 hRI => ?_)
    rcases hRI with ⟨ns, hn, hdx⟩ | ⟨hn, rfl⟩
    · have r6 := (rowO_some hn).2
      have hdx2 := hdx
      cases hdx2 with
      | @lst a0 xs0 _ ha0 _ =>
      refine b_if (p := false) h6 (jt_cmp (jo_isN (v := .ref a0) (by walk_at "var")) rfl) (fun e => by cases e) (fun _ H8 h8 => b_nil ?_)
      obtain ⟨m, m1, m2⟩ := max_of g (ns.map fun n : Nat => (n : Int))
      refine b_setV (n := 2) h8 (v := .int m) (jv_maxL rfl hmax (ns := g :: ns.map fun n : Nat => (n : Int)) (JD.is (JN.toD (jn_cat (ds := [.int g]) (ds2 := ns.map eN) (by walk_at "jd") (by walk_at "jd") (by have := r6.len; simp; omega))) (by rw [List.map_cons, List.map_map]; rfl)) m1 m2 rfl (by decide +kernel) (by walk_at "ns")) nd rfl (by walk_at "loc") rfl (Or.inl rfl) (fun H9 h9 => b_nil ⟨G6, _, _, m, Ls ++ [ns], rfl, h9, e.trans e6, hg.step m1 m2, by rw [List.length_append, List.length_append, hLs]; rfl, fun j hj => ?_⟩)
      rw [List.length_append, List.length_singleton] at hj
      by_cases hjl : j < Ls.length
      · rw [hrows j hjl, List.getD_eq_getElem?_getD, List.getD_eq_getElem?_getD, List.getElem?_append_left hjl]
      · have ej : j = c := by omega
        subst ej
        rw [hn, List.getD_eq_getElem?_getD, List.getElem?_append_right (by omega), show j - Ls.length = 0 by omega]
        rfl
    · refine b_if (p := true) h6 (jt_cmp (jo_isN (v := .non) (by walk_at "var")) rfl) (fun _ H8 h8 => b_ret h8 (v := .int ((c : Int) + 1)) (by walk_at "jv") (fun H' h' => k _ _ _ _ h' ?_)) (fun e => by cases e)
      rw [due_bad hcl hpre hn]
      show V.int _ = V.int _
      congr 1
  · rintro σ' G' H' ⟨o3, o4, g, Ls, rfl, hs, e, hg, hLs, hrows⟩
    have hLn : Ls.length = (linesOf t).length := hLs.trans List.length_range
    have hrO := readO_good hLn hrows
    have hrw6 := hrw5.mono e
    have len1 : ∀ {p1 p2 p3 : Pos}, JV (cxOf CX0 P w K mg base n_L_due "_law_due" (defScope s_L_due) f cdv A outer s H E).nox [some (.str t), some rv, some (.int g), o3, o4] (.Call (.Name "len" p1) [.Name "_law_rows" p2] [] p3) G' (.int ((linesOf t).length : Int)) := JV.is (jv_len T.len (ds := (linesOf t).map eS) (by walk_at "jd") rfl (by walk_at "ns")) (by rw [List.length_map])
    refine b_ret hs (v := .int (dueN t : Int)) (jv_ifE (p := decide (((linesOf t).length : Int) ≤ g)) (jt_cmp (jo_ge (by walk_at "jv") len1) rfl) (fun hp => JV.is (jv_add len1 jv_int) ?_) (fun hp => JV.is jv_int ?_)) (fun H' h' => k _ _ _ _ h' rfl)
    · rw [due_good hrO, hg.big, hLn, if_pos hp]
      rfl
    · rw [due_good hrO, hg.big, hLn, if_neg (by rw [hp]; decide)]
      rfl
end
section
variable {X : Cx} {σ : L2.St} {e o a b c : Expr} {G : Hp} {pos : Pos} {t : Str}
theorem jv_due {ap : Pos} (M : Df X.prog X.w X.K X.mg X.base "_law_due" 2 spDue) (hr : Room 2 X.A) (ha : JV X σ a G (.str t)) (hf : Fine t) (hg : Gl X "_law_due") (na : NoStar a)
    (hpl : (backTo pos (starEach [] X.env)).any (·.1) = false) : JV X σ (.Call (.Name "_law_due" ap) [a] [] pos) G (.int (dueN t : Int)) :=
  (jp_call M hr hg t hf (jal_cons ha.toPV mo_V (fun _ _ => jal_nil) na) na (by decide) hpl).toI
end
end TP

set_option Elab.async false
set_option linter.all false
set_option maxRecDepth 100000
set_option maxHeartbeats 4000000
namespace TP
open PySem PySem.Spec PyProof.Rows L2
open Evl (Ex)
-- tactics of this text: what an expression is worth (jv jd jt jo jw), growth (ex), what remains (side); call, calld: what the text adds
local macro_rules | `(tactic| walk_at "ex") => `(tactic| first | exact Ex.refl _ | assumption | (refine' Ex.trans ?_ (by assumption); walk_at "ex"))
local macro_rules | `(tactic| walk_at "vis") => `(tactic| first
  | exact Or.inl rfl
  | exact Or.inr (Or.inl rfl)
  | exact Or.inr (Or.inr rfl))
local macro_rules | `(tactic| walk_at "loc") => `(tactic| first
  | exact Or.inl rfl
  | exact Or.inr rfl)
local macro_rules | `(tactic| walk_at "side") => `(tactic| first
  | assumption
  | omega
  | decide
  | exact rfl
  | (simp_all; done)
  | (simp_all; omega))
local macro_rules | `(tactic| walk_at "hu") => `(tactic| first
  | exact room65 (by assumption)
  | exact Room.units (by assumption))
local macro_rules | `(tactic| walk_at "dp") => `(tactic| first | assumption | (refine' Dx.mono ?_ (by assumption); walk_at "ex"))
local macro_rules | `(tactic| walk_at "var") => `(tactic| first
  | (apply jv_var 0; exact rfl; exact rfl; walk_at "vis"; decide; decide)
  | (apply jv_var 1; exact rfl; exact rfl; walk_at "vis"; decide; decide)
  | (apply jv_var 2; exact rfl; exact rfl; walk_at "vis"; decide; decide)
  | (apply jv_var 3; exact rfl; exact rfl; walk_at "vis"; decide; decide)
  | (apply jv_var 4; exact rfl; exact rfl; walk_at "vis"; decide; decide)
  | (apply jv_var 5; exact rfl; exact rfl; walk_at "vis"; decide; decide)
  | (apply jv_var 6; exact rfl; exact rfl; walk_at "vis"; decide; decide)
  | (apply jv_var 7; exact rfl; exact rfl; walk_at "vis"; decide; decide)
  | (apply jv_var 8; exact rfl; exact rfl; walk_at "vis"; decide; decide)
  | (apply jv_var 9; exact rfl; exact rfl; walk_at "vis"; decide; decide)
  | (apply jv_var 10; exact rfl; exact rfl; walk_at "vis"; decide; decide)
  | (apply jv_var 11; exact rfl; exact rfl; walk_at "vis"; decide; decide)
  | (apply jv_var 12; exact rfl; exact rfl; walk_at "vis"; decide; decide)
  | (apply jv_var 13; exact rfl; exact rfl; walk_at "vis"; decide; decide)
  | (apply jv_var 14; exact rfl; exact rfl; walk_at "vis"; decide; decide)
  | (apply jv_var 15; exact rfl; exact rfl; walk_at "vis"; decide; decide)
  | (apply jv_var 16; exact rfl; exact rfl; walk_at "vis"; decide; decide)
  | (apply jv_var 17; exact rfl; exact rfl; walk_at "vis"; decide; decide)
  | (apply jv_var 18; exact rfl; exact rfl; walk_at "vis"; decide; decide)
  | (apply jv_var 19; exact rfl; exact rfl; walk_at "vis"; decide; decide))
local macro_rules | `(tactic| walk_at "bm") => `(tactic| first
  | assumption)
local macro_rules | `(tactic| walk_at "call") => `(tactic| first
  | fail "call")
local macro_rules | `(tactic| walk_at "calld") => `(tactic| first
  | fail "calld")
local macro_rules | `(tactic| walk_at "kit") => `(tactic| first
  | assumption
  | exact kit_ii
  | exact kit_ib
  | exact kit_bi
  | exact kit_bb
  | exact kit_li
  | exact kit_ll
  | exact kit_tt
  | exact kit_tl
  | exact kit_lt
  | exact kit_tb)
local macro_rules | `(tactic| walk_at "ns") => `(tactic| first
  | exact fun _ _ => rfl)
local macro_rules | `(tactic| walk_at "jv") => `(tactic| first
  | exact jv_int
  | exact jv_bl
  | exact jv_non
  | exact jv_str
  | walk_at "var"
  | (apply jv_add; walk_at "jv"; walk_at "jv")
  | (apply jv_sub; walk_at "jv"; walk_at "jv")
  | (apply jv_neg; walk_at "jv")
  | (apply jv_mul; walk_at "jv"; walk_at "jv"; walk_at "mulok")
  | (apply jv_fdiv; walk_at "jv"; walk_at "jv"; walk_at "divok")
  | (apply jv_mod; walk_at "jv"; walk_at "jv"; walk_at "side")
  | (apply jv_band; walk_at "jv"; walk_at "jv")
  | (apply jv_cmp; walk_at "jo"; (first | exact rfl | exact nomark _))
  | (apply jv_chain op_le op_le; walk_at "jv"; walk_at "jv"; walk_at "jv"; with_unfolding_all rfl)
  | (apply jv_chain op_le op_lt; walk_at "jv"; walk_at "jv"; walk_at "jv"; with_unfolding_all rfl)
  | (apply jv_and; walk_at "jv"; intro hand; walk_at "jv")
  | (apply jv_or; walk_at "jv"; intro hor; walk_at "jv")
  | (apply jv_not; walk_at "jv")
  | (apply jv_one; walk_at "jv")
  | (apply jv_lenM; walk_at "bm"; walk_at "jd"; exact rfl; walk_at "ns")
  | (apply jv_len; walk_at "bm"; walk_at "jd"; exact rfl; walk_at "ns")
  | (apply jv_all; exact rfl; walk_at "bm"; walk_at "jd"; exact rfl; decide +kernel; walk_at "ns")
  | (apply jv_any; exact rfl; walk_at "bm"; walk_at "jd"; exact rfl; decide +kernel; walk_at "ns")
  | (apply jv_lenT; walk_at "bm"; walk_at "jd"; exact rfl; walk_at "ns")
  | walk_at "call"
  | (apply jv_isi; (first | exact boot_tint | exact boot_tbool | exact boot_tlist | exact boot_ttuple); walk_at "bm"; walk_at "bm"; walk_at "jd"; walk_at "kit"; exact rfl; exact rfl; exact boot_isi; walk_at "ns"; decide; decide)
  | (apply jv_lenSet; exact rfl; walk_at "bm"; walk_at "bm"; walk_at "jd"; walk_at "side"; exact rfl; exact rfl; walk_at "ns")
  | (apply jv_ifE; walk_at "jt"; intro hif; walk_at "jv"; intro hif; walk_at "jv")
  | (apply JD.toI; walk_at "jx")
  | (apply JD.toB; walk_at "jx")
  | (apply JD.toS; walk_at "jx"))
local macro_rules | `(tactic| walk_at "mulok") => `(tactic| first
  | exact Or.inr ⟨by decide, by decide⟩
  | exact Or.inl ⟨by decide, by decide⟩
  | exact Or.inl ⟨by omega, by omega⟩
  | exact Or.inr ⟨by omega, by omega⟩)
local macro_rules | `(tactic| walk_at "divok") => `(tactic| first
  | exact ⟨by decide, by decide⟩
  | exact ⟨by omega, by omega⟩)
local macro_rules | `(tactic| walk_at "jx") => `(tactic| first
  | (apply jd_ixN; walk_at "jd"; walk_at "jv"; exact fun _ _ => rfl; walk_at "side")
  | (apply jd_ixNs; walk_at "jd"; walk_at "jv"; exact fun _ _ => rfl; walk_at "side")
  | (apply jd_ixP; walk_at "jd"; walk_at "jv"; exact fun _ _ => rfl; walk_at "side")
  | (apply jd_ixPs; walk_at "jd"; walk_at "jv"; exact fun _ _ => rfl; walk_at "side")
  | (apply jd_ixI; walk_at "jd"; walk_at "jv"; exact fun _ _ => rfl; walk_at "side")
  | (apply jd_ixP1; walk_at "jd")
  | (apply jd_ixP2; walk_at "jd")
  | walk_at "calld")
local macro_rules | `(tactic| walk_at "jd") => `(tactic| first
  | (apply JV.toD; walk_at "var"; walk_at "dp")
  | walk_at "jx"
  | (apply jd_list; walk_at "jad"; exact Nat.le_of_ble_eq_true rfl)
  | (apply jd_tuple; walk_at "jad"; exact Nat.le_of_ble_eq_true rfl)
  | (apply jd_listOf; walk_at "bm"; walk_at "jd"; exact rfl; exact boot_tlist; walk_at "ns")
  | (apply JV.toD (v := V.int _); walk_at "jv"; exact Dx.int _)
  | (apply JV.toD (v := V.bl _); walk_at "jv"; exact Dx.bl _)
  | (apply JV.toD (v := V.str _); walk_at "jv"; exact Dx.str _)
  | (apply jd_ifE; walk_at "jt"; intro hif; walk_at "jd"; intro hif; walk_at "jd"))
local macro_rules | `(tactic| walk_at "jad") => `(tactic| first
  | exact jad_nil
  | (apply jad_cons; walk_at "jd"; walk_at "jad"; walk_at "ns"))
local macro_rules | `(tactic| walk_at "jo") => `(tactic| first
  | (apply jo_isN; walk_at "jv")
  | (apply jo_notN; walk_at "jv")
  | (apply jo_eqI; walk_at "jv"; walk_at "jv")
  | (apply jo_neI; walk_at "jv"; walk_at "jv")
  | (apply jo_lt; walk_at "jv"; walk_at "jv")
  | (apply jo_le; walk_at "jv"; walk_at "jv")
  | (apply jo_gt; walk_at "jv"; walk_at "jv")
  | (apply jo_ge; walk_at "jv"; walk_at "jv")
  | (apply jo_inN; walk_at "hu"; walk_at "jv"; walk_at "jd")
  | (apply jo_niN; walk_at "hu"; walk_at "jv"; walk_at "jd")
  | (apply jo_eqD; walk_at "hu"; walk_at "jd"; walk_at "jd"; walk_at "shp"; walk_at "shp")
  | (apply jo_neD; walk_at "hu"; walk_at "jd"; walk_at "jd"; walk_at "shp"; walk_at "shp"))
local macro_rules | `(tactic| walk_at "shp") => `(tactic| first
  | assumption
  | exact Shp.shaped eLL _
  | exact Shp.shaped ePs _
  | exact Shp.shaped eNs _
  | exact Shp.shaped ePss _
  | exact Shp.shaped eP _
  | exact Shp.shaped eN _
  | exact Shp.shaped eI _
  | decide)
local macro_rules | `(tactic| walk_at "jw") => `(tactic| first
  | (apply jw_one_and; walk_at "jt")
  | (apply jw_one_or; walk_at "jt")
  | (apply jw_and; walk_at "jt"; intro hand; walk_at "jw")
  | (apply jw_or; walk_at "jt"; intro hor; walk_at "jw"))
local macro_rules | `(tactic| walk_at "jt") => `(tactic| first
  | (apply jt_w; walk_at "jw")
  | (apply jt_cmp; walk_at "jo"; (first | exact rfl | exact nomark _))
  | (apply jt_not; walk_at "jt")
  | (apply jt_val; walk_at "jv"; exact fun _ => rfl)
  | (apply jt_chain op_le op_le; walk_at "jv"; walk_at "jv"; walk_at "jv"; with_unfolding_all rfl))
local macro_rules | `(tactic| walk_at "camp") => `(tactic| first | assumption | (refine' CampAt.mono ?_ (by assumption); walk_at "ex"))
local macro_rules | `(tactic| walk_at "calld") => `(tactic| first
  | (apply jd_told; assumption; walk_at "var"; walk_at "camp"; exact rfl)
  | walk_at "calld2")
local macro_rules | `(tactic| walk_at "calld2") => `(tactic| first
  | fail "calld2")
local macro_rules | `(tactic| walk_at "room") => `(tactic| first
  | assumption
  | exact Room.mono (by assumption) (by decide))
local macro_rules | `(tactic| walk_at "bm") => `(tactic| first
  | assumption
  | exact Tx.len (by assumption)
  | exact Tx.range (by assumption)
  | exact Tx.list (by assumption)
  | exact Tx.all (by assumption)
  | exact Tx.any (by assumption)
  | exact Tx.isi (by assumption)
  | exact Tx.int (by assumption)
  | exact Tx.bool (by assumption)
  | exact Tx.set (by assumption)
  | exact Tx.tup (by assumption))
local macro_rules | `(tactic| walk_at "call") => `(tactic| first
  | (apply jv_size; assumption; walk_at "var"; walk_at "camp"; exact rfl)
  | (apply jv_index; walk_at "hu"; walk_at "jd"; walk_at "jv"; walk_at "side"; walk_at "ns"; exact rfl; exact rfl; exact rfl)
  | (apply jv_would; assumption; assumption; walk_at "room"; walk_at "var"; walk_at "camp"; walk_at "jv"; walk_at "jv"; walk_at "side"; walk_at "side"; walk_at "ns"; walk_at "ns"; exact rfl; exact rfl)
  | walk_at "call2")
local macro_rules | `(tactic| walk_at "call2") => `(tactic| first
  | fail "call2")
local macro_rules | `(tactic| walk_at "call2") => `(tactic| first
  | (apply jv_cell; assumption; walk_at "room"; walk_at "var"; assumption; walk_at "jv"; exact rfl; walk_at "ns"; walk_at "ns"; exact rfl)
  | (apply jv_draw; assumption; walk_at "room"; walk_at "jv"; walk_at "jv"; walk_at "jv"; walk_at "side"; exact rfl; walk_at "ns"; walk_at "ns"; walk_at "ns"; exact rfl)
  | (apply jv_Lwould; assumption; walk_at "room"; walk_at "jd"; walk_at "jv"; walk_at "jv"; walk_at "side"; walk_at "side"; exact rfl; walk_at "ns"; walk_at "ns"; walk_at "ns"; exact rfl)
  | (apply jv_Lrather; assumption; walk_at "room"; walk_at "jd"; walk_at "jv"; walk_at "jv"; walk_at "jv"; walk_at "side"; walk_at "side"; exact rfl; walk_at "ns"; walk_at "ns"; walk_at "ns"; walk_at "ns"; exact rfl)
  | walk_at "call3")
local macro_rules | `(tactic| walk_at "call3") => `(tactic| first
  | fail "call3")
structure Cl5 (mg : Str → Option Value) (cB cP cN cS cT : Addr) : Prop where
  gB : mg "BadCamp" = some (.ref cB)
  gP : mg "BadPairs" = some (.ref cP)
  gN : mg "NoCamper" = some (.ref cN)
  gS : mg "NoneSteady" = some (.ref cS)
  gT : mg "BadText" = some (.ref cT)
  ve : mg "ValueError" = none
/-- the class D is the one at place i of the five -/
structure Kd (K : PySem.W.Frag) (cB cP cN cS cT D : Addr) (i : Nat) : Prop where
  ek : ExcK K D
  k0 : PySem.W.kitOne K (.ref D) (.ref cB) = some (decide (i = 0))
  k1 : PySem.W.kitOne K (.ref D) (.ref cP) = some (decide (i = 1))
  k2 : PySem.W.kitOne K (.ref D) (.ref cN) = some (decide (i = 2))
  k3 : PySem.W.kitOne K (.ref D) (.ref cS) = some (decide (i = 3))
  k4 : PySem.W.kitOne K (.ref D) (.ref cT) = some (decide (i = 4))
  kv : PySem.W.kitOne K (.ref D) (.type "ValueError") = some true
theorem boot_ve : bootBuiltins "ValueError" = some (.type "ValueError") := by decide +kernel
structure Uz (P : Program) (w : World) (K : PySem.W.Frag) (mg : Str → Option Value) (base : Heap) (C B cB cP cN cS cT : Addr) : Prop where
  cl5 : Cl5 mg cB cP cN cS cT
  readR : DfT P w K mg base "read" 4 (spReadR cT)
  readG : Df P w K mg base "read" 4 (spReadG K C)
  ce : mg "CampError" = some (.ref B)
  xT : PySem.W.exmOne K (.ref cT) (.ref B) = some true
  kT : Kd K cB cP cN cS cT cT 4
  xf : XfC K cT
  nf : PySem.W.findIn K (.ref cT) "row" = some none
section
variable {X : Cx} {σ : L2.St} {e : Expr} {G : Hp} {P : Hp → V → Prop}
theorem JP.any (h : JP X σ e G P) : JP X σ e G (fun _ _ => True) := ⟨fun H eh Q q => h H eh Q fun G' H' v s _ => q G' H' v s trivial⟩
end
section
variable {P : Program} {w : World} {K : PySem.W.Frag} {mg : Str → Option Value} {base : Heap} {C B cB cP cN cS cT : Addr}
abbrev spRefused : Sp := spOf (fun i : PyData × Nat => (isStr i.1 = false ∧ i.2 = 1) ∨ ∃ t, i.1 = .str t ∧ Fine t ∧ i.2 = dueN t) (fun i => [kD i.1]) (fun i => kI (i.2 : Int))
theorem ok_refused {f : Addr} {fd : FuncData} (F : Fun K "_law_refused" "_law_refused" s_L_refused f fd) (T : Tx K mg C) (U : Uz P w K mg base C B cB cP cN cS cT) : FnOk P w K mg base CX0 5 f fd ["_law_text"] spRefused := by
  refine fun_ok F sc_L_refused (fun _ => rfl) ?_
  rintro cdv A outer s H vs Q E ⟨d, r⟩ G hr hp al h k
  obtain ⟨tv, rfl, hd⟩ := al.one
  try dsimp only at hp hd k ⊢
  have nd := sc_L_refused.nd
  have cases2 : ((isStr d = false ∧ r = 1) ∨ ∃ t, d = .str t ∧ Fine t ∧ readO t = .inl r) ∨ (∃ t L, d = .str t ∧ Fine t ∧ rowsO 0 (linesOf t) = .inr L ∧ tooBig L = false ∧ r = 0) := by
    rcases hp with hp | ⟨t, rfl, ft, rfl⟩
    · exact .inl (.inl hp)
    · rcases read_cases t with ⟨L, h1, h2, h3⟩ | ⟨kk, h1⟩
      · exact .inr ⟨t, L, rfl, ft, h2, h3, by unfold dueN; rw [h1]⟩
      · exact .inl (.inr ⟨t, rfl, ft, by unfold dueN; rw [h1]⟩)
  rcases cases2 with hb | ⟨t, L, rfl, ft, hL, hbg, rfl⟩
  · refine b_tryT (i := 1) rfl rfl nd rfl rfl ⟨rfl, by decide, .inl U.ce⟩ (fun pn xe tk hpo => ?_)
    refine b_exprW rfl (we_callT (i := (d, r)) tk U.readR (hr.mono (by decide)) rfl hb (jal_cons (JD.toP (d := d) (by walk_at "jd")) mo_D (fun _ _ => jal_nil) (by walk_at "ns")) (by walk_at "ns") (by decide) rfl h.ex (fun H' dd e hdd σ hl => ?_))
    refine ⟨U.xT, fun a na => ?_⟩
    obtain ⟨s0, s1, s2, rfl⟩ : ∃ s0 s1 s2, σ = [s0, s1, s2] := by
      match σ, hl with
      | [s0, s1, s2], _ => exact ⟨s0, s1, s2, rfl⟩
    intro oe y pn hz hch hy
    have hv : ∃ vs, oe.data = .fields vs := let ⟨v, h1, _⟩ := hch; ⟨v, h1⟩
    have kd := U.kT
    have hdc : Dct true H' (some dd) := ⟨dd, _, rfl, hdd⟩
    have h0 : Hs H' H' H' H' [] := .nil (Ex.refl H')
    have hp : (a, oe) ∈ ((cxOf CX0 P w K mg base n_L_refused "_law_refused" (defScope s_L_refused) f cdv A outer s H E).suite a ((a, oe) :: pn)).pn := List.mem_cons_self
    refine b_setD (n := 2) (d := .list ([false, false, false].map eB)) h0 (jd_list (jad_cons (JV.toD (v := .bl _) (jv_isX kd.ek hp hz hv hdc T.isi U.cl5.gB (by walk_at "var") kd.k0 rfl rfl (by walk_at "ns") (by decide)) (.bl _)) (jad_cons (JV.toD (v := .bl _) (jv_isX kd.ek hp hz hv hdc T.isi U.cl5.gP (by walk_at "var") kd.k1 rfl rfl (by walk_at "ns") (by decide)) (.bl _)) (jad_cons (JV.toD (v := .bl _) (jv_isX kd.ek hp hz hv hdc T.isi U.cl5.gN (by walk_at "var") kd.k2 rfl rfl (by walk_at "ns") (by decide)) (.bl _)) jad_nil (by walk_at "ns")) (by walk_at "ns")) (by walk_at "ns")) (Nat.le_of_ble_eq_true rfl)) nd rfl (by walk_at "loc") rfl (Or.inl rfl) (fun G1 H1 v1 h1 e1 d1 => ?_)
    have hd1 := Dct.mono e1 hdc
    refine b_if (p := false) h1 (jt_w (jw_or (jt_val (JV.is (jv_anyT (bs := [false, false, false]) rfl hch hp (fun q hq => List.mem_cons_of_mem _ (hy q hq)) T.any (by walk_at "jd") rfl (by decide +kernel) (by walk_at "ns")) rfl) (fun _ => rfl)) (fun _ => jw_or (jt_val (jv_isX kd.ek hp hz hv hd1 T.isi U.cl5.gS (by walk_at "var") kd.k3 rfl rfl (by walk_at "ns") (by decide)) (fun _ => rfl)) (fun _ => jw_one_or (jt_not (jt_val (jv_isX kd.ek hp hz hv hd1 T.isi U.cl5.gT (by walk_at "var") kd.k4 rfl rfl (by walk_at "ns") (by decide)) (fun _ => rfl))))))) (fun e => by cases e) (fun _ H2 h2 => b_nil ?_)
    refine b_ret h2 (v := .int (r : Int)) (jv_ifE (p := true) (jt_val (jv_isXT boot_ve kd.ek hp hz hv hd1 T.isi U.cl5.ve (by walk_at "var") kd.kv rfl rfl (by walk_at "ns") (by decide) (by decide)) (fun _ => rfl)) (fun _ => jv_xf U.xf U.nf hz hv (by walk_at "var") (e1 _ _ hdd) rfl) (fun e => by cases e)) (fun H3 h3 => ?_)
    exact k G H3 _ [] ((Hs.nil h.ex).flat ((e.trans h3.st.h))) rfl
  · cases hd
    refine b_try ?_
    refine b_expr h (JP.any (jp_readG (L := L) U.readG (hr.mono (by decide)) (by walk_at "jv") ft hL hbg rfl (by walk_at "ns") rfl)) rfl (fun G1 H1 h1 e1 => b_nil (b_nil ?_))
    exact b_ret h1 (v := .int 0) jv_int (fun H' h' => k _ _ _ _ h' rfl)
end
section
variable {X : Cx} {σ : L2.St} {e o a b c : Expr} {G : Hp} {pos : Pos} {t : Str}
theorem jv_refused {d : PyData} {r : Nat} {ap : Pos} (M : Df X.prog X.w X.K X.mg X.base "_law_refused" 5 spRefused) (hr : Room 5 X.A) (ha : JD X σ a G d) (hf : (isStr d = false ∧ r = 1) ∨ ∃ t, d = .str t ∧ Fine t ∧ r = dueN t) (hg : Gl X "_law_refused") (na : NoStar a)
    (hpl : (backTo pos (starEach [] X.env)).any (·.1) = false) : JV X σ (.Call (.Name "_law_refused" ap) [a] [] pos) G (.int (r : Int)) :=
  (jp_call M hr hg (d, r) hf (jal_cons ha.toP mo_D (fun _ _ => jal_nil) na) na (by decide) hpl).toI
end
end TP

set_option Elab.async false
set_option linter.all false
set_option maxRecDepth 100000
set_option maxHeartbeats 4000000
namespace TP
open PySem PySem.Spec PyProof.Rows L2
open Evl (Ex)
-- tactics of this text: what an expression is worth (jv jd jt jo jw), growth (ex), what remains (side); call, calld: what the text adds
local macro_rules | `(tactic| walk_at "ex") => `(tactic| first | exact Ex.refl _ | assumption | (refine' Ex.trans ?_ (by assumption); walk_at "ex"))
local macro_rules | `(tactic| walk_at "vis") => `(tactic| first
  | exact Or.inl rfl
  | exact Or.inr (Or.inl rfl)
  | exact Or.inr (Or.inr rfl))
local macro_rules | `(tactic| walk_at "loc") => `(tactic| first
  | exact Or.inl rfl
  | exact Or.inr rfl)
local macro_rules | `(tactic| walk_at "side") => `(tactic| first
  | assumption
  | omega
  | decide
  | exact rfl
  | (simp_all; done)
  | (simp_all; omega))
local macro_rules | `(tactic| walk_at "hu") => `(tactic| first
  | exact room65 (by assumption)
  | exact Room.units (by assumption))
local macro_rules | `(tactic| walk_at "dp") => `(tactic| first | assumption | (refine' Dx.mono ?_ (by assumption); walk_at "ex"))
local macro_rules | `(tactic| walk_at "var") => `(tactic| first
  | (apply jv_var 0; exact rfl; exact rfl; walk_at "vis"; decide; decide)
  | (apply jv_var 1; exact rfl; exact rfl; walk_at "vis"; decide; decide)
  | (apply jv_var 2; exact rfl; exact rfl; walk_at "vis"; decide; decide)
  | (apply jv_var 3; exact rfl; exact rfl; walk_at "vis"; decide; decide)
  | (apply jv_var 4; exact rfl; exact rfl; walk_at "vis"; decide; decide)
  | (apply jv_var 5; exact rfl; exact rfl; walk_at "vis"; decide; decide)
  | (apply jv_var 6; exact rfl; exact rfl; walk_at "vis"; decide; decide)
  | (apply jv_var 7; exact rfl; exact rfl; walk_at "vis"; decide; decide)
  | (apply jv_var 8; exact rfl; exact rfl; walk_at "vis"; decide; decide)
  | (apply jv_var 9; exact rfl; exact rfl; walk_at "vis"; decide; decide)
  | (apply jv_var 10; exact rfl; exact rfl; walk_at "vis"; decide; decide)
  | (apply jv_var 11; exact rfl; exact rfl; walk_at "vis"; decide; decide)
  | (apply jv_var 12; exact rfl; exact rfl; walk_at "vis"; decide; decide)
  | (apply jv_var 13; exact rfl; exact rfl; walk_at "vis"; decide; decide)
  | (apply jv_var 14; exact rfl; exact rfl; walk_at "vis"; decide; decide)
  | (apply jv_var 15; exact rfl; exact rfl; walk_at "vis"; decide; decide)
  | (apply jv_var 16; exact rfl; exact rfl; walk_at "vis"; decide; decide)
  | (apply jv_var 17; exact rfl; exact rfl; walk_at "vis"; decide; decide)
  | (apply jv_var 18; exact rfl; exact rfl; walk_at "vis"; decide; decide)
  | (apply jv_var 19; exact rfl; exact rfl; walk_at "vis"; decide; decide))
local macro_rules | `(tactic| walk_at "bm") => `(tactic| first
  | assumption)
local macro_rules | `(tactic| walk_at "call") => `(tactic| first
  | fail "call")
local macro_rules | `(tactic| walk_at "calld") => `(tactic| first
  | fail "calld")
local macro_rules | `(tactic| walk_at "kit") => `(tactic| first
  | assumption
  | exact kit_ii
  | exact kit_ib
  | exact kit_bi
  | exact kit_bb
  | exact kit_li
  | exact kit_ll
  | exact kit_tt
  | exact kit_tl
  | exact kit_lt
  | exact kit_tb)
local macro_rules | `(tactic| walk_at "ns") => `(tactic| first
  | exact fun _ _ => rfl)
local macro_rules | `(tactic| walk_at "jv") => `(tactic| first
  | exact jv_int
  | exact jv_bl
  | exact jv_non
  | exact jv_str
  | walk_at "var"
  | (apply jv_add; walk_at "jv"; walk_at "jv")
  | (apply jv_sub; walk_at "jv"; walk_at "jv")
  | (apply jv_neg; walk_at "jv")
  | (apply jv_mul; walk_at "jv"; walk_at "jv"; walk_at "mulok")
  | (apply jv_fdiv; walk_at "jv"; walk_at "jv"; walk_at "divok")
  | (apply jv_mod; walk_at "jv"; walk_at "jv"; walk_at "side")
  | (apply jv_band; walk_at "jv"; walk_at "jv")
  | (apply jv_cmp; walk_at "jo"; (first | exact rfl | exact nomark _))
  | (apply jv_chain op_le op_le; walk_at "jv"; walk_at "jv"; walk_at "jv"; with_unfolding_all rfl)
  | (apply jv_chain op_le op_lt; walk_at "jv"; walk_at "jv"; walk_at "jv"; with_unfolding_all rfl)
  | (apply jv_and; walk_at "jv"; intro hand; walk_at "jv")
  | (apply jv_or; walk_at "jv"; intro hor; walk_at "jv")
  | (apply jv_not; walk_at "jv")
  | (apply jv_one; walk_at "jv")
  | (apply jv_lenM; walk_at "bm"; walk_at "jd"; exact rfl; walk_at "ns")
  | (apply jv_len; walk_at "bm"; walk_at "jd"; exact rfl; walk_at "ns")
  | (apply jv_all; exact rfl; walk_at "bm"; walk_at "jd"; exact rfl; decide +kernel; walk_at "ns")
  | (apply jv_any; exact rfl; walk_at "bm"; walk_at "jd"; exact rfl; decide +kernel; walk_at "ns")
  | (apply jv_lenT; walk_at "bm"; walk_at "jd"; exact rfl; walk_at "ns")
  | walk_at "call"
  | (apply jv_isi; (first | exact boot_tint | exact boot_tbool | exact boot_tlist | exact boot_ttuple); walk_at "bm"; walk_at "bm"; walk_at "jd"; walk_at "kit"; exact rfl; exact rfl; exact boot_isi; walk_at "ns"; decide; decide)
  | (apply jv_lenSet; exact rfl; walk_at "bm"; walk_at "bm"; walk_at "jd"; walk_at "side"; exact rfl; exact rfl; walk_at "ns")
  | (apply jv_ifE; walk_at "jt"; intro hif; walk_at "jv"; intro hif; walk_at "jv")
  | (apply JD.toI; walk_at "jx")
  | (apply JD.toB; walk_at "jx")
  | (apply JD.toS; walk_at "jx"))
local macro_rules | `(tactic| walk_at "mulok") => `(tactic| first
  | exact Or.inr ⟨by decide, by decide⟩
  | exact Or.inl ⟨by decide, by decide⟩
  | exact Or.inl ⟨by omega, by omega⟩
  | exact Or.inr ⟨by omega, by omega⟩)
local macro_rules | `(tactic| walk_at "divok") => `(tactic| first
  | exact ⟨by decide, by decide⟩
  | exact ⟨by omega, by omega⟩)
local macro_rules | `(tactic| walk_at "jx") => `(tactic| first
  | (apply jd_ixN; walk_at "jd"; walk_at "jv"; exact fun _ _ => rfl; walk_at "side")
  | (apply jd_ixNs; walk_at "jd"; walk_at "jv"; exact fun _ _ => rfl; walk_at "side")
  | (apply jd_ixP; walk_at "jd"; walk_at "jv"; exact fun _ _ => rfl; walk_at "side")
  | (apply jd_ixPs; walk_at "jd"; walk_at "jv"; exact fun _ _ => rfl; walk_at "side")
  | (apply jd_ixI; walk_at "jd"; walk_at "jv"; exact fun _ _ => rfl; walk_at "side")
  | (apply jd_ixP1; walk_at "jd")
  | (apply jd_ixP2; walk_at "jd")
  | walk_at "calld")
local macro_rules | `(tactic| walk_at "jd") => `(tactic| first
  | (apply JV.toD; walk_at "var"; walk_at "dp")
  | walk_at "jx"
  | (apply jd_list; walk_at "jad"; exact Nat.le_of_ble_eq_true rfl)
  | (apply jd_tuple; walk_at "jad"; exact Nat.le_of_ble_eq_true rfl)
  | (apply jd_listOf; walk_at "bm"; walk_at "jd"; exact rfl; exact boot_tlist; walk_at "ns")
  | (apply JV.toD (v := V.int _); walk_at "jv"; exact Dx.int _)
  | (apply JV.toD (v := V.bl _); walk_at "jv"; exact Dx.bl _)
  | (apply JV.toD (v := V.str _); walk_at "jv"; exact Dx.str _)
  | (apply jd_ifE; walk_at "jt"; intro hif; walk_at "jd"; intro hif; walk_at "jd"))
local macro_rules | `(tactic| walk_at "jad") => `(tactic| first
  | exact jad_nil
  | (apply jad_cons; walk_at "jd"; walk_at "jad"; walk_at "ns"))
local macro_rules | `(tactic| walk_at "jo") => `(tactic| first
  | (apply jo_isN; walk_at "jv")
  | (apply jo_notN; walk_at "jv")
  | (apply jo_eqI; walk_at "jv"; walk_at "jv")
  | (apply jo_neI; walk_at "jv"; walk_at "jv")
  | (apply jo_lt; walk_at "jv"; walk_at "jv")
  | (apply jo_le; walk_at "jv"; walk_at "jv")
  | (apply jo_gt; walk_at "jv"; walk_at "jv")
  | (apply jo_ge; walk_at "jv"; walk_at "jv")
  | (apply jo_inN; walk_at "hu"; walk_at "jv"; walk_at "jd")
  | (apply jo_niN; walk_at "hu"; walk_at "jv"; walk_at "jd")
  | (apply jo_eqD; walk_at "hu"; walk_at "jd"; walk_at "jd"; walk_at "shp"; walk_at "shp")
  | (apply jo_neD; walk_at "hu"; walk_at "jd"; walk_at "jd"; walk_at "shp"; walk_at "shp"))
local macro_rules | `(tactic| walk_at "shp") => `(tactic| first
  | assumption
  | exact Shp.shaped eLL _
  | exact Shp.shaped ePs _
  | exact Shp.shaped eNs _
  | exact Shp.shaped ePss _
  | exact Shp.shaped eP _
  | exact Shp.shaped eN _
  | exact Shp.shaped eI _
  | decide)
local macro_rules | `(tactic| walk_at "jw") => `(tactic| first
  | (apply jw_one_and; walk_at "jt")
  | (apply jw_one_or; walk_at "jt")
  | (apply jw_and; walk_at "jt"; intro hand; walk_at "jw")
  | (apply jw_or; walk_at "jt"; intro hor; walk_at "jw"))
local macro_rules | `(tactic| walk_at "jt") => `(tactic| first
  | (apply jt_w; walk_at "jw")
  | (apply jt_cmp; walk_at "jo"; (first | exact rfl | exact nomark _))
  | (apply jt_not; walk_at "jt")
  | (apply jt_val; walk_at "jv"; exact fun _ => rfl)
  | (apply jt_chain op_le op_le; walk_at "jv"; walk_at "jv"; walk_at "jv"; with_unfolding_all rfl))
local macro_rules | `(tactic| walk_at "camp") => `(tactic| first | assumption | (refine' CampAt.mono ?_ (by assumption); walk_at "ex"))
local macro_rules | `(tactic| walk_at "calld") => `(tactic| first
  | (apply jd_told; assumption; walk_at "var"; walk_at "camp"; exact rfl)
  | walk_at "calld2")
local macro_rules | `(tactic| walk_at "calld2") => `(tactic| first
  | fail "calld2")
local macro_rules | `(tactic| walk_at "room") => `(tactic| first
  | assumption
  | exact Room.mono (by assumption) (by decide))
local macro_rules | `(tactic| walk_at "bm") => `(tactic| first
  | assumption
  | exact Tx.len (by assumption)
  | exact Tx.range (by assumption)
  | exact Tx.list (by assumption)
  | exact Tx.all (by assumption)
  | exact Tx.any (by assumption)
  | exact Tx.isi (by assumption)
  | exact Tx.int (by assumption)
  | exact Tx.bool (by assumption)
  | exact Tx.set (by assumption)
  | exact Tx.tup (by assumption))
local macro_rules | `(tactic| walk_at "call") => `(tactic| first
  | (apply jv_size; assumption; walk_at "var"; walk_at "camp"; exact rfl)
  | (apply jv_index; walk_at "hu"; walk_at "jd"; walk_at "jv"; walk_at "side"; walk_at "ns"; exact rfl; exact rfl; exact rfl)
  | (apply jv_would; assumption; assumption; walk_at "room"; walk_at "var"; walk_at "camp"; walk_at "jv"; walk_at "jv"; walk_at "side"; walk_at "side"; walk_at "ns"; walk_at "ns"; exact rfl; exact rfl)
  | walk_at "call2")
local macro_rules | `(tactic| walk_at "call2") => `(tactic| first
  | fail "call2")
local macro_rules | `(tactic| walk_at "call2") => `(tactic| first
  | (apply jv_cell; assumption; walk_at "room"; walk_at "var"; assumption; walk_at "jv"; exact rfl; walk_at "ns"; walk_at "ns"; exact rfl)
  | (apply jv_draw; assumption; walk_at "room"; walk_at "jv"; walk_at "jv"; walk_at "jv"; walk_at "side"; exact rfl; walk_at "ns"; walk_at "ns"; walk_at "ns"; exact rfl)
  | (apply jv_Lwould; assumption; walk_at "room"; walk_at "jd"; walk_at "jv"; walk_at "jv"; walk_at "side"; walk_at "side"; exact rfl; walk_at "ns"; walk_at "ns"; walk_at "ns"; exact rfl)
  | (apply jv_Lrather; assumption; walk_at "room"; walk_at "jd"; walk_at "jv"; walk_at "jv"; walk_at "jv"; walk_at "side"; walk_at "side"; exact rfl; walk_at "ns"; walk_at "ns"; walk_at "ns"; walk_at "ns"; exact rfl)
  | walk_at "call3")
local macro_rules | `(tactic| walk_at "call3") => `(tactic| first
  | fail "call3")
theorem rowsO_pos : ∀ {rows : List Str} {c k : Nat}, rowsO c rows = .inl k → 0 < k
  | [], c, k, h => by cases h
  | r :: rs, c, k, h => by
    have h' : (match rowO c r with | none => Sum.inl (c + 1) | some ns => match rowsO (c + 1) rs with | .inl k => .inl k | .inr L => .inr (ns :: L)) = Sum.inl k := h
    cases e : rowO c r with
    | none =>
      rw [e] at h'
      have h' : Sum.inl (c + 1) = (Sum.inl k : Nat ⊕ List (List Nat)) := h'
      cases h'
      omega
    | some ns =>
      rw [e] at h'
      cases e2 : rowsO (c + 1) rs with
      | inl q =>
        rw [e2] at h'
        have h' : Sum.inl q = (Sum.inl k : Nat ⊕ List (List Nat)) := h'
        cases h'
        exact rowsO_pos e2
      | inr L => rw [e2] at h'; cases h'
theorem readO_pos {t : Str} {k : Nat} (h : readO t = .inl k) : 0 < k := by
  unfold readO at h
  cases e : rowsO 0 (linesOf t) with
  | inl q =>
    rw [e] at h
    have h : Sum.inl q = (Sum.inl k : Nat ⊕ List (List Nat)) := h
    cases h
    exact rowsO_pos e
  | inr L =>
    rw [e] at h
    have h : (if tooBig L = true then Sum.inl ((linesOf t).length + 1) else Sum.inr L) = (Sum.inl k : Nat ⊕ List (List Nat)) := h
    split at h
    · cases h
      omega
    · cases h
section
variable {P : Program} {w : World} {K : PySem.W.Frag} {mg : Str → Option Value} {base : Heap} {C B cB cP cN cS cT : Addr}
abbrev spRight : Sp := spOf (fun t : Str => Fine t) (fun t => [kV (.str t)]) (fun _ => kB true)
theorem ok_right {f : Addr} {fd : FuncData} (F : Fun K "_law_right" "_law_right" s_L_right f fd) (T : Tx K mg C) (MD : Df P w K mg base "_law_due" 2 spDue) (MR : Df P w K mg base "_law_refused" 5 spRefused) (MG : Df P w K mg base "read" 4 (spReadG K C)) (MW : Df P w K mg base "written" 1 (spWritten K C)) : FnOk P w K mg base CX0 6 f fd ["_law_text"] spRight := by
  refine fun_ok F sc_L_right (fun _ => rfl) ?_
  rintro cdv A outer s H vs Q E t G hr fine al h k
  obtain ⟨_, rfl, rfl⟩ := al.one
  try dsimp only at fine k ⊢
  have nd := sc_L_right.nd
  refine b_setV (n := 1) h (v := .int (dueN t : Int)) (jv_due MD (hr.mono (by decide)) (by walk_at "jv") fine rfl (by walk_at "ns") rfl) nd rfl (by walk_at "loc") rfl (Or.inl rfl) (fun H1 h1 => ?_)
  refine b_if (p := false) h1 (JT.is (jt_cmp (jo_neI (jv_refused (d := .str t) (r := dueN t) MR (hr.mono (by decide)) (by walk_at "jd") (.inr ⟨t, rfl, fine, rfl⟩) rfl (by walk_at "ns") rfl) (show JV _ _ _ _ (.int (dueN t : Int)) from by walk_at "jv")) rfl) (by rw [decide_eq_true (rfl : (dueN t : Int) = dueN t)]; rfl)) (fun e => by cases e) (fun _ H2 h2 => b_nil ?_)
  refine b_ret h2 (v := .bl (decide ((0 : Int) < (dueN t : Int)) || true)) (jv_or (jv_cmp (jo_gt (by walk_at "jv") jv_int) rfl) (fun hz => jv_one (JV.is (jv_cmp (?g : JO _ _ _ _ _ _ (.bl (decide (t = t)))) rfl) (by rw [decide_eq_true rfl])))) (fun H' h' => k _ _ _ _ h' (by rw [Bool.or_true]))
  have h0 : dueN t = 0 := by
    have := of_decide_eq_false hz
    omega
  rcases read_cases t with ⟨L, h1, h2, h3⟩ | ⟨kk, h1⟩
  · obtain ⟨_, _, ht, _⟩ := rows_of h2
    exact jo_eqS (JV.is (jv_written MW (hr.mono (by decide)) (jp_readG (L := L) MG (hr.mono (by decide)) (by walk_at "jv") fine h2 h3 rfl (by walk_at "ns") rfl) (valid_read h2 h3) rfl (by walk_at "ns") rfl) (by rw [← ht])) (by walk_at "jv")
  · have := readO_pos h1
    unfold dueN at h0
    rw [h1] at h0
    have h0 : kk = 0 := h0
    omega
end
section
variable {X : Cx} {σ : L2.St} {e o a b c : Expr} {G : Hp} {pos : Pos} {t : Str}
theorem jv_right {ap : Pos} (M : Df X.prog X.w X.K X.mg X.base "_law_right" 6 spRight) (hr : Room 6 X.A) (ha : JV X σ a G (.str t)) (hf : Fine t) (hg : Gl X "_law_right") (na : NoStar a)
    (hpl : (backTo pos (starEach [] X.env)).any (·.1) = false) : JV X σ (.Call (.Name "_law_right" ap) [a] [] pos) G (.bl true) :=
  (jp_call M hr hg t hf (jal_cons ha.toPV mo_V (fun _ _ => jal_nil) na) na (by decide) hpl).toB
end
end TP

set_option Elab.async false
set_option linter.all false
set_option maxRecDepth 100000
set_option maxHeartbeats 4000000
namespace TP
open PySem PySem.Spec PyProof.Rows L2
open Evl (Ex)
-- tactics of this text: what an expression is worth (jv jd jt jo jw), growth (ex), what remains (side); call, calld: what the text adds
local macro_rules | `(tactic| walk_at "ex") => `(tactic| first | exact Ex.refl _ | assumption | (refine' Ex.trans ?_ (by assumption); walk_at "ex"))
local macro_rules | `(tactic| walk_at "vis") => `(tactic| first
  | exact Or.inl rfl
  | exact Or.inr (Or.inl rfl)
  | exact Or.inr (Or.inr rfl))
local macro_rules | `(tactic| walk_at "loc") => `(tactic| first
  | exact Or.inl rfl
  | exact Or.inr rfl)
local macro_rules | `(tactic| walk_at "side") => `(tactic| first
  | assumption
  | omega
  | decide
  | exact rfl
  | (simp_all; done)
  | (simp_all; omega))
local macro_rules | `(tactic| walk_at "hu") => `(tactic| first
  | exact room65 (by assumption)
  | exact Room.units (by assumption))
local macro_rules | `(tactic| walk_at "dp") => `(tactic| first | assumption | (refine' Dx.mono ?_ (by assumption); walk_at "ex"))
local macro_rules | `(tactic| walk_at "var") => `(tactic| first
  | (apply jv_var 0; exact rfl; exact rfl; walk_at "vis"; decide; decide)
  | (apply jv_var 1; exact rfl; exact rfl; walk_at "vis"; decide; decide)
  | (apply jv_var 2; exact rfl; exact rfl; walk_at "vis"; decide; decide)
  | (apply jv_var 3; exact rfl; exact rfl; walk_at "vis"; decide; decide)
  | (apply jv_var 4; exact rfl; exact rfl; walk_at "vis"; decide; decide)
  | (apply jv_var 5; exact rfl; exact rfl; walk_at "vis"; decide; decide)
  | (apply jv_var 6; exact rfl; exact rfl; walk_at "vis"; decide; decide)
  | (apply jv_var 7; exact rfl; exact rfl; walk_at "vis"; decide; decide)
  | (apply jv_var 8; exact rfl; exact rfl; walk_at "vis"; decide; decide)
  | (apply jv_var 9; exact rfl; exact rfl; walk_at "vis"; decide; decide)
  | (apply jv_var 10; exact rfl; exact rfl; walk_at "vis"; decide; decide)
  | (apply jv_var 11; exact rfl; exact rfl; walk_at "vis"; decide; decide)
  | (apply jv_var 12; exact rfl; exact rfl; walk_at "vis"; decide; decide)
  | (apply jv_var 13; exact rfl; exact rfl; walk_at "vis"; decide; decide)
  | (apply jv_var 14; exact rfl; exact rfl; walk_at "vis"; decide; decide)
  | (apply jv_var 15; exact rfl; exact rfl; walk_at "vis"; decide; decide)
  | (apply jv_var 16; exact rfl; exact rfl; walk_at "vis"; decide; decide)
  | (apply jv_var 17; exact rfl; exact rfl; walk_at "vis"; decide; decide)
  | (apply jv_var 18; exact rfl; exact rfl; walk_at "vis"; decide; decide)
  | (apply jv_var 19; exact rfl; exact rfl; walk_at "vis"; decide; decide))
local macro_rules | `(tactic| walk_at "bm") => `(tactic| first
  | assumption)
local macro_rules | `(tactic| walk_at "call") => `(tactic| first
  | fail "call")
local macro_rules | `(tactic| walk_at "calld") => `(tactic| first
  | fail "calld")
local macro_rules | `(tactic| walk_at "kit") => `(tactic| first
  | assumption
  | exact kit_ii
  | exact kit_ib
  | exact kit_bi
  | exact kit_bb
  | exact kit_li
  | exact kit_ll
  | exact kit_tt
  | exact kit_tl
  | exact kit_lt
  | exact kit_tb)
local macro_rules | `(tactic| walk_at "ns") => `(tactic| first
  | exact fun _ _ => rfl)
local macro_rules | `(tactic| walk_at "jv") => `(tactic| first
  | exact jv_int
  | exact jv_bl
  | exact jv_non
  | exact jv_str
  | walk_at "var"
  | (apply jv_add; walk_at "jv"; walk_at "jv")
  | (apply jv_sub; walk_at "jv"; walk_at "jv")
  | (apply jv_neg; walk_at "jv")
  | (apply jv_mul; walk_at "jv"; walk_at "jv"; walk_at "mulok")
  | (apply jv_fdiv; walk_at "jv"; walk_at "jv"; walk_at "divok")
  | (apply jv_mod; walk_at "jv"; walk_at "jv"; walk_at "side")
  | (apply jv_band; walk_at "jv"; walk_at "jv")
  | (apply jv_cmp; walk_at "jo"; (first | exact rfl | exact nomark _))
  | (apply jv_chain op_le op_le; walk_at "jv"; walk_at "jv"; walk_at "jv"; with_unfolding_all rfl)
  | (apply jv_chain op_le op_lt; walk_at "jv"; walk_at "jv"; walk_at "jv"; with_unfolding_all rfl)
  | (apply jv_and; walk_at "jv"; intro hand; walk_at "jv")
  | (apply jv_or; walk_at "jv"; intro hor; walk_at "jv")
  | (apply jv_not; walk_at "jv")
  | (apply jv_one; walk_at "jv")
  | (apply jv_lenM; walk_at "bm"; walk_at "jd"; exact rfl; walk_at "ns")
  | (apply jv_len; walk_at "bm"; walk_at "jd"; exact rfl; walk_at "ns")
  | (apply jv_all; exact rfl; walk_at "bm"; walk_at "jd"; exact rfl; decide +kernel; walk_at "ns")
  | (apply jv_any; exact rfl; walk_at "bm"; walk_at "jd"; exact rfl; decide +kernel; walk_at "ns")
  | (apply jv_lenT; walk_at "bm"; walk_at "jd"; exact rfl; walk_at "ns")
  | walk_at "call"
  | (apply jv_isi; (first | exact boot_tint | exact boot_tbool | exact boot_tlist | exact boot_ttuple); walk_at "bm"; walk_at "bm"; walk_at "jd"; walk_at "kit"; exact rfl; exact rfl; exact boot_isi; walk_at "ns"; decide; decide)
  | (apply jv_lenSet; exact rfl; walk_at "bm"; walk_at "bm"; walk_at "jd"; walk_at "side"; exact rfl; exact rfl; walk_at "ns")
  | (apply jv_ifE; walk_at "jt"; intro hif; walk_at "jv"; intro hif; walk_at "jv")
  | (apply JD.toI; walk_at "jx")
  | (apply JD.toB; walk_at "jx")
  | (apply JD.toS; walk_at "jx"))
local macro_rules | `(tactic| walk_at "mulok") => `(tactic| first
  | exact Or.inr ⟨by decide, by decide⟩
  | exact Or.inl ⟨by decide, by decide⟩
  | exact Or.inl ⟨by omega, by omega⟩
  | exact Or.inr ⟨by omega, by omega⟩)
local macro_rules | `(tactic| walk_at "divok") => `(tactic| first
  | exact ⟨by decide, by decide⟩
  | exact ⟨by omega, by omega⟩)
local macro_rules | `(tactic| walk_at "jx") => `(tactic| first
  | (apply jd_ixN; walk_at "jd"; walk_at "jv"; exact fun _ _ => rfl; walk_at "side")
  | (apply jd_ixNs; walk_at "jd"; walk_at "jv"; exact fun _ _ => rfl; walk_at "side")
  | (apply jd_ixP; walk_at "jd"; walk_at "jv"; exact fun _ _ => rfl; walk_at "side")
  | (apply jd_ixPs; walk_at "jd"; walk_at "jv"; exact fun _ _ => rfl; walk_at "side")
  | (apply jd_ixI; walk_at "jd"; walk_at "jv"; exact fun _ _ => rfl; walk_at "side")
  | (apply jd_ixP1; walk_at "jd")
  | (apply jd_ixP2; walk_at "jd")
  | walk_at "calld")
local macro_rules | `(tactic| walk_at "jd") => `(tactic| first
  | (apply JV.toD; walk_at "var"; walk_at "dp")
  | walk_at "jx"
  | (apply jd_list; walk_at "jad"; exact Nat.le_of_ble_eq_true rfl)
  | (apply jd_tuple; walk_at "jad"; exact Nat.le_of_ble_eq_true rfl)
  | (apply jd_listOf; walk_at "bm"; walk_at "jd"; exact rfl; exact boot_tlist; walk_at "ns")
  | (apply JV.toD (v := V.int _); walk_at "jv"; exact Dx.int _)
  | (apply JV.toD (v := V.bl _); walk_at "jv"; exact Dx.bl _)
  | (apply JV.toD (v := V.str _); walk_at "jv"; exact Dx.str _)
  | (apply jd_ifE; walk_at "jt"; intro hif; walk_at "jd"; intro hif; walk_at "jd"))
local macro_rules | `(tactic| walk_at "jad") => `(tactic| first
  | exact jad_nil
  | (apply jad_cons; walk_at "jd"; walk_at "jad"; walk_at "ns"))
local macro_rules | `(tactic| walk_at "jo") => `(tactic| first
  | (apply jo_isN; walk_at "jv")
  | (apply jo_notN; walk_at "jv")
  | (apply jo_eqI; walk_at "jv"; walk_at "jv")
  | (apply jo_neI; walk_at "jv"; walk_at "jv")
  | (apply jo_lt; walk_at "jv"; walk_at "jv")
  | (apply jo_le; walk_at "jv"; walk_at "jv")
  | (apply jo_gt; walk_at "jv"; walk_at "jv")
  | (apply jo_ge; walk_at "jv"; walk_at "jv")
  | (apply jo_inN; walk_at "hu"; walk_at "jv"; walk_at "jd")
  | (apply jo_niN; walk_at "hu"; walk_at "jv"; walk_at "jd")
  | (apply jo_eqD; walk_at "hu"; walk_at "jd"; walk_at "jd"; walk_at "shp"; walk_at "shp")
  | (apply jo_neD; walk_at "hu"; walk_at "jd"; walk_at "jd"; walk_at "shp"; walk_at "shp"))
local macro_rules | `(tactic| walk_at "shp") => `(tactic| first
  | assumption
  | exact Shp.shaped eLL _
  | exact Shp.shaped ePs _
  | exact Shp.shaped eNs _
  | exact Shp.shaped ePss _
  | exact Shp.shaped eP _
  | exact Shp.shaped eN _
  | exact Shp.shaped eI _
  | decide)
local macro_rules | `(tactic| walk_at "jw") => `(tactic| first
  | (apply jw_one_and; walk_at "jt")
  | (apply jw_one_or; walk_at "jt")
  | (apply jw_and; walk_at "jt"; intro hand; walk_at "jw")
  | (apply jw_or; walk_at "jt"; intro hor; walk_at "jw"))
local macro_rules | `(tactic| walk_at "jt") => `(tactic| first
  | (apply jt_w; walk_at "jw")
  | (apply jt_cmp; walk_at "jo"; (first | exact rfl | exact nomark _))
  | (apply jt_not; walk_at "jt")
  | (apply jt_val; walk_at "jv"; exact fun _ => rfl)
  | (apply jt_chain op_le op_le; walk_at "jv"; walk_at "jv"; walk_at "jv"; with_unfolding_all rfl))
local macro_rules | `(tactic| walk_at "camp") => `(tactic| first | assumption | (refine' CampAt.mono ?_ (by assumption); walk_at "ex"))
local macro_rules | `(tactic| walk_at "calld") => `(tactic| first
  | (apply jd_told; assumption; walk_at "var"; walk_at "camp"; exact rfl)
  | walk_at "calld2")
local macro_rules | `(tactic| walk_at "calld2") => `(tactic| first
  | fail "calld2")
local macro_rules | `(tactic| walk_at "room") => `(tactic| first
  | assumption
  | exact Room.mono (by assumption) (by decide))
local macro_rules | `(tactic| walk_at "bm") => `(tactic| first
  | assumption
  | exact Tx.len (by assumption)
  | exact Tx.range (by assumption)
  | exact Tx.list (by assumption)
  | exact Tx.all (by assumption)
  | exact Tx.any (by assumption)
  | exact Tx.isi (by assumption)
  | exact Tx.int (by assumption)
  | exact Tx.bool (by assumption)
  | exact Tx.set (by assumption)
  | exact Tx.tup (by assumption))
local macro_rules | `(tactic| walk_at "call") => `(tactic| first
  | (apply jv_size; assumption; walk_at "var"; walk_at "camp"; exact rfl)
  | (apply jv_index; walk_at "hu"; walk_at "jd"; walk_at "jv"; walk_at "side"; walk_at "ns"; exact rfl; exact rfl; exact rfl)
  | (apply jv_would; assumption; assumption; walk_at "room"; walk_at "var"; walk_at "camp"; walk_at "jv"; walk_at "jv"; walk_at "side"; walk_at "side"; walk_at "ns"; walk_at "ns"; exact rfl; exact rfl)
  | walk_at "call2")
local macro_rules | `(tactic| walk_at "call2") => `(tactic| first
  | fail "call2")
local macro_rules | `(tactic| walk_at "call2") => `(tactic| first
  | (apply jv_cell; assumption; walk_at "room"; walk_at "var"; assumption; walk_at "jv"; exact rfl; walk_at "ns"; walk_at "ns"; exact rfl)
  | (apply jv_draw; assumption; walk_at "room"; walk_at "jv"; walk_at "jv"; walk_at "jv"; walk_at "side"; exact rfl; walk_at "ns"; walk_at "ns"; walk_at "ns"; exact rfl)
  | (apply jv_Lwould; assumption; walk_at "room"; walk_at "jd"; walk_at "jv"; walk_at "jv"; walk_at "side"; walk_at "side"; exact rfl; walk_at "ns"; walk_at "ns"; walk_at "ns"; exact rfl)
  | (apply jv_Lrather; assumption; walk_at "room"; walk_at "jd"; walk_at "jv"; walk_at "jv"; walk_at "jv"; walk_at "side"; walk_at "side"; exact rfl; walk_at "ns"; walk_at "ns"; walk_at "ns"; walk_at "ns"; exact rfl)
  | walk_at "call3")
local macro_rules | `(tactic| walk_at "call3") => `(tactic| first
  | fail "call3")
def signs : Str := "0123456789:- x" ++ "\t\n+"
theorem signs_len : signs.length = 17 := by decide +kernel
def signT (cell : Int) (k : Nat) : Str := ⟨#[signs.cps.toList.getD (drawN cell (k + 3) 17) 0]⟩
def otherT (t : Str) (cell : Int) (k : Nat) : Str :=
  if drawN cell (k + 5) 3 = 0 then (cutS t none (some (drawN cell k (t.length + 1) : Int)) ++ signT cell k) ++ cutS t (some (drawN cell k (t.length + 1) : Int)) none
  else (cutS t none (some (drawN cell k (t.length + 1) : Int)) ++ (if drawN cell (k + 5) 3 = 1 then ("" : Str) else signT cell k)) ++ cutS t (some ((drawN cell k (t.length + 1) : Int) + 1)) none
theorem cutTo_cps (x : Str) (n : Nat) : (cutS x none (some (n : Int))).cps.toList = x.cps.toList.take n := by
  have h : HT.sIx x.length x.length (some (n : Int)) = min n x.length := HT.sIx_nat _ _ n
  show ((x.cps.toList.drop (HT.sIx x.length 0 none)).take (HT.sIx x.length x.length (some (n : Int)) - HT.sIx x.length 0 none)).toArray.toList = _
  rw [HT.sIx_none, h, List.drop_zero, Nat.sub_zero, List.toList_toArray]
  rw [← len_cps]
  rcases Nat.le_total n x.cps.toList.length with z | z
  · rw [Nat.min_eq_left z]
  · rw [Nat.min_eq_right z, List.take_of_length_le (Nat.le_refl _), List.take_of_length_le z]
theorem cutFrom_cps (x : Str) (n : Nat) : (cutS x (some (n : Int)) none).cps.toList = x.cps.toList.drop n := by
  have h : HT.sIx x.length 0 (some (n : Int)) = min n x.length := HT.sIx_nat _ _ n
  show ((x.cps.toList.drop (HT.sIx x.length 0 (some (n : Int)))).take (HT.sIx x.length x.length none - HT.sIx x.length 0 (some (n : Int)))).toArray.toList = _
  rw [HT.sIx_none, h, List.toList_toArray]
  rw [← len_cps]
  rcases Nat.le_total n x.cps.toList.length with z | z
  · rw [Nat.min_eq_left z, List.take_of_length_le (by rw [List.length_drop]; exact Nat.le_refl _)]
  · rw [Nat.min_eq_right z, List.drop_of_length_le (Nat.le_refl _), List.drop_of_length_le z]
    simp
/-- a text made of the two parts of a small one, with one sign, or none, between -/
theorem fine_of {t x : Str} {n m : Nat} {mid : List Nat} (h1 : t.length ≤ 200) (h2 : t.cps.toList.count 10 ≤ 5) (hnm : n ≤ m) (hm : mid.length ≤ 1) (hx : x.cps.toList = t.cps.toList.take n ++ mid ++ t.cps.toList.drop m) : Fine x := by
  have len : ∀ k, x.cps.toList.count k ≤ t.cps.toList.count k + 1 := fun k => by
    have e1 : t.cps.toList.count k = (t.cps.toList.take n).count k + (t.cps.toList.drop n).count k := by rw [← List.count_append, List.take_append_drop]
    have e2 : (t.cps.toList.drop m).count k ≤ (t.cps.toList.drop n).count k := by
      rw [show m = n + (m - n) by omega, ← List.drop_drop]
      exact (List.drop_sublist _ _).count_le k
    have e3 := List.count_le_length (a := k) (l := mid)
    rw [hx, List.count_append, List.count_append]
    omega
  have e3 : t.cps.toList.length = t.length := len_cps t
  refine ⟨?_, ?_, ?_⟩
  · rw [← len_cps, hx, List.length_append, List.length_append, List.length_take, List.length_drop]
    omega
  · have := len 10
    omega
  · have := len 32
    have := List.count_le_length (a := 32) (l := t.cps.toList)
    omega
theorem fine_other {t : Str} (h1 : t.length ≤ 200) (h2 : t.cps.toList.count 10 ≤ 5) (cell : Int) (k : Nat) : Fine (otherT t cell k) := by
  unfold otherT
  by_cases q : drawN cell (k + 5) 3 = 0
  · rw [if_pos q]
    refine fine_of (n := drawN cell k (t.length + 1)) (m := drawN cell k (t.length + 1)) (mid := (signT cell k).cps.toList) h1 h2 (Nat.le_refl _) (Nat.le_refl _) ?_
    rw [PySem.Str.cps_append, PySem.Str.cps_append, Array.toList_append, Array.toList_append, cutTo_cps, cutFrom_cps]
  · rw [if_neg q]
    refine fine_of (n := drawN cell k (t.length + 1)) (m := drawN cell k (t.length + 1) + 1) (mid := (if drawN cell (k + 5) 3 = 1 then ("" : Str) else signT cell k).cps.toList) h1 h2 (Nat.le_succ _) (by split; exact Nat.zero_le _; exact Nat.le_refl _) ?_
    rw [PySem.Str.cps_append, PySem.Str.cps_append, Array.toList_append, Array.toList_append, cutTo_cps]
    have := cutFrom_cps t (drawN cell k (t.length + 1) + 1)
    rw [show ((drawN cell k (t.length + 1) + 1 : Nat) : Int) = (drawN cell k (t.length + 1) : Int) + 1 from rfl] at this
    rw [this]
theorem cutS_len (x : Str) (l h : Option Int) : (cutS x l h).length ≤ x.length := by
  rw [← len_cps, ← len_cps]
  show (((x.cps.toList.drop (HT.sIx x.length 0 l)).take (HT.sIx x.length x.length h - HT.sIx x.length 0 l)).toArray.toList).length ≤ _
  rw [List.toList_toArray, List.length_take, List.length_drop]
  omega
section
variable {P : Program} {w : World} {K : PySem.W.Frag} {mg : Str → Option Value} {base : Heap} {C B cB cP cN cS cT : Addr}
abbrev spOther : Sp := spOf (fun i : Str × Int × Nat => i.1.length ≤ 200) (fun i => [kV (.str i.1), kI i.2.1, kI (i.2.2 : Int)]) (fun i => kV (.str (otherT i.1 i.2.1 i.2.2)))
theorem ok_other {f : Addr} {fd : FuncData} (F : Fun K "_law_other" "_law_other" s_L_other f fd) (T : Tx K mg C) (MD : Df P w K mg base "_law_draw" 1 spDraw) : FnOk P w K mg base CX0 2 f fd ["_law_text", "_law_cell", "_law_k"] spOther := by
  refine fun_ok F sc_L_other (fun _ => rfl) ?_
  rintro cdv A outer s H vs Q E ⟨t, cell, n⟩ G hr hlen al h k
  obtain ⟨_, _, _, rfl, rfl, rfl, rfl⟩ := al.three
  try dsimp only at hlen k ⊢
  have nd := sc_L_other.nd
  have hsz : t.length ≤ sizeLine := by rw [sizeLine_eq]; omega
  refine b_setV (n := 3) h (v := .int (drawN cell n (t.length + 1) : Int)) (jv_draw MD (hr.mono (by decide)) (by walk_at "jv") (by walk_at "jv") (JV.is (jv_add (jv_lenStr T.len (by walk_at "jv") hsz rfl (by walk_at "ns")) jv_int) (show V.int ((t.length : Int) + 1) = V.int ((t.length + 1 : Nat) : Int) from rfl)) (by omega) rfl (by walk_at "ns") (by walk_at "ns") (by walk_at "ns") rfl) nd rfl (by walk_at "loc") rfl (Or.inl rfl) (fun H1 h1 => ?_)
  refine b_setV (n := 4) h1 (v := .str signs) (jv_addS jv_str jv_str (by rw [sizeLine_eq]; decide +kernel)) nd rfl (by walk_at "loc") rfl (Or.inl rfl) (fun H2 h2 => ?_)
  have lt17 := drawN_lt cell (n + 3) (many := 17) (by decide)
  have lt3 := drawN_lt cell (n + 5) (many := 3) (by decide)
  have slen : signs.cps.toList.length = 17 := (len_cps _).trans signs_len
  have ssz : signs.length ≤ sizeLine := by rw [signs_len, sizeLine_eq]; decide
  refine b_setV (n := 4) h2 (v := .str (signT cell n)) (jv_ixStr (x := signs) (by walk_at "jv") (jv_draw (m := n + 3) (n := 17) MD (hr.mono (by decide)) (by walk_at "jv") (JV.is (by walk_at "jv") (show V.int ((n : Int) + 3) = V.int ((n + 3 : Nat) : Int) from rfl)) (JV.is (jv_lenStr (x := signs) T.len (by walk_at "jv") ssz rfl (by walk_at "ns")) (by rw [signs_len])) (by decide) rfl (by walk_at "ns") (by walk_at "ns") (by walk_at "ns") rfl) ssz (atI_nat (by rw [List.getD_eq_getElem?_getD, List.getElem?_eq_getElem (by omega)]; rfl)) (fun _ _ => rfl)) nd rfl (by walk_at "loc") rfl (Or.inl rfl) (fun H3 h3 => ?_)
  refine b_setV (n := 5) h3 (v := .int (drawN cell (n + 5) 3 : Int)) (jv_draw (m := n + 5) (n := 3) MD (hr.mono (by decide)) (by walk_at "jv") (JV.is (by walk_at "jv") (show V.int ((n : Int) + 5) = V.int ((n + 5 : Nat) : Int) from rfl)) (JV.is jv_int (show V.int (3 : Int) = V.int ((3 : Nat) : Int) from rfl)) (by decide) rfl (by walk_at "ns") (by walk_at "ns") (by walk_at "ns") rfl) nd rfl (by walk_at "loc") rfl (Or.inl rfl) (fun H4 h4 => ?_)
  have fin : ∀ {H' v}, Hs G H G H' [] → v = V.str (otherT t cell n) → Q v H' := fun h' e => k _ _ _ _ h' e
  have es1 : (signT cell n).length = 1 := rfl
  unfold otherT at fin
  generalize drawN cell (n + 5) 3 = wy at *
  generalize drawN cell n (t.length + 1) = at0 at *
  generalize signT cell n = sg at *
  have c1 := cutS_len t none (some (at0 : Int))
  refine b_if (p := decide ((wy : Int) = 0)) h4 (by walk_at "jt") (fun e H5 h5 => ?_) (fun e H5 h5 => b_nil ?_)
  · have e0 : wy = 0 := by have := of_decide_eq_true e; omega
    refine b_ret h5 (jv_addS (jv_addS (jv_sliceS (x := t) (by walk_at "jv") hsz rfl ⟨(at0 : Int), rfl, by walk_at "jv"⟩) (show JV _ _ _ _ (.str sg) from by walk_at "jv") (by rw [sizeLine_eq]; omega)) (jv_sliceS (x := t) (by walk_at "jv") hsz ⟨(at0 : Int), rfl, by walk_at "jv"⟩ rfl) ?_) (fun H' h' => fin h' (by rw [if_pos e0]))
    rw [strLen_append, sizeLine_eq]
    have c2 := cutS_len t (some (at0 : Int)) none
    omega
  · have e0 : ¬ wy = 0 := by have := of_decide_eq_false e; omega
    have emp : ("" : Str).length = 0 := rfl
    refine b_ret h5 (jv_addS (jv_addS (jv_sliceS (x := t) (by walk_at "jv") hsz rfl ⟨(at0 : Int), rfl, by walk_at "jv"⟩) (JD.toS (jd_ix (ds := [eS "", eS sg]) (d := eS (if wy = 1 then ("" : Str) else sg)) (i := (wy : Int) - 1) (by walk_at "jd") (by walk_at "jv") ?_ (fun _ _ => rfl))) ?_) (jv_sliceS (x := t) (by walk_at "jv") hsz ⟨(at0 : Int) + 1, rfl, by walk_at "jv"⟩ rfl) ?_) (fun H' h' => fin h' (by rw [if_neg e0]))
    · rcases (show wy = 1 ∨ wy = 2 by omega) with rfl | rfl <;> rfl
    · rw [sizeLine_eq]
      split
      · omega
      · omega
    · rw [strLen_append, sizeLine_eq]
      have c2 := cutS_len t (some ((at0 : Int) + 1)) none
      split
      · omega
      · omega
end
section
variable {X : Cx} {σ : L2.St} {e o a b c : Expr} {G : Hp} {pos : Pos} {t : Str} {cell : Int} {n : Nat}
theorem jv_other {ap : Pos} (M : Df X.prog X.w X.K X.mg X.base "_law_other" 2 spOther) (hr : Room 2 X.A) (ha : JV X σ a G (.str t)) (hb : JV X σ b G (.int cell)) (hc : JV X σ c G (.int (n : Int))) (hl : t.length ≤ 200) (hg : Gl X "_law_other") (na : NoStar a) (nb : NoStar b) (nc : NoStar c)
    (hpl : (backTo pos (starEach [b, c] X.env)).any (·.1) = false) : JV X σ (.Call (.Name "_law_other" ap) [a, b, c] [] pos) G (.str (otherT t cell n)) :=
  (jp_call M hr hg (t, cell, n) hl (jal_cons ha.toPV mo_V (fun _ e => jal_cons (hb.mono e).toPV mo_V (fun _ e2 => jal_cons (hc.mono (e.trans e2)).toPV mo_V (fun _ _ => jal_nil) nc) nb) na) na (by decide) hpl).toV
end
end TP

set_option Elab.async false
set_option linter.all false
set_option maxRecDepth 100000
set_option maxHeartbeats 4000000
namespace TP
open PySem PySem.Spec PyProof.Rows L2
open Evl (Ex)
-- tactics of this text: what an expression is worth (jv jd jt jo jw), growth (ex), what remains (side); call, calld: what the text adds
local macro_rules | `(tactic| walk_at "ex") => `(tactic| first | exact Ex.refl _ | assumption | (refine' Ex.trans ?_ (by assumption); walk_at "ex"))
local macro_rules | `(tactic| walk_at "vis") => `(tactic| first
  | exact Or.inl rfl
  | exact Or.inr (Or.inl rfl)
  | exact Or.inr (Or.inr rfl))
local macro_rules | `(tactic| walk_at "loc") => `(tactic| first
  | exact Or.inl rfl
  | exact Or.inr rfl)
local macro_rules | `(tactic| walk_at "side") => `(tactic| first
  | assumption
  | omega
  | decide
  | exact rfl
  | (simp_all; done)
  | (simp_all; omega))
local macro_rules | `(tactic| walk_at "hu") => `(tactic| first
  | exact room65 (by assumption)
  | exact Room.units (by assumption))
local macro_rules | `(tactic| walk_at "dp") => `(tactic| first | assumption | (refine' Dx.mono ?_ (by assumption); walk_at "ex"))
local macro_rules | `(tactic| walk_at "var") => `(tactic| first
  | (apply jv_var 0; exact rfl; exact rfl; walk_at "vis"; decide; decide)
  | (apply jv_var 1; exact rfl; exact rfl; walk_at "vis"; decide; decide)
  | (apply jv_var 2; exact rfl; exact rfl; walk_at "vis"; decide; decide)
  | (apply jv_var 3; exact rfl; exact rfl; walk_at "vis"; decide; decide)
  | (apply jv_var 4; exact rfl; exact rfl; walk_at "vis"; decide; decide)
  | (apply jv_var 5; exact rfl; exact rfl; walk_at "vis"; decide; decide)
  | (apply jv_var 6; exact rfl; exact rfl; walk_at "vis"; decide; decide)
  | (apply jv_var 7; exact rfl; exact rfl; walk_at "vis"; decide; decide)
  | (apply jv_var 8; exact rfl; exact rfl; walk_at "vis"; decide; decide)
  | (apply jv_var 9; exact rfl; exact rfl; walk_at "vis"; decide; decide)
  | (apply jv_var 10; exact rfl; exact rfl; walk_at "vis"; decide; decide)
  | (apply jv_var 11; exact rfl; exact rfl; walk_at "vis"; decide; decide)
  | (apply jv_var 12; exact rfl; exact rfl; walk_at "vis"; decide; decide)
  | (apply jv_var 13; exact rfl; exact rfl; walk_at "vis"; decide; decide)
  | (apply jv_var 14; exact rfl; exact rfl; walk_at "vis"; decide; decide)
  | (apply jv_var 15; exact rfl; exact rfl; walk_at "vis"; decide; decide)
  | (apply jv_var 16; exact rfl; exact rfl; walk_at "vis"; decide; decide)
  | (apply jv_var 17; exact rfl; exact rfl; walk_at "vis"; decide; decide)
  | (apply jv_var 18; exact rfl; exact rfl; walk_at "vis"; decide; decide)
  | (apply jv_var 19; exact rfl; exact rfl; walk_at "vis"; decide; decide))
local macro_rules | `(tactic| walk_at "bm") => `(tactic| first
  | assumption)
local macro_rules | `(tactic| walk_at "call") => `(tactic| first
  | fail "call")
local macro_rules | `(tactic| walk_at "calld") => `(tactic| first
  | fail "calld")
local macro_rules | `(tactic| walk_at "kit") => `(tactic| first
  | assumption
  | exact kit_ii
  | exact kit_ib
  | exact kit_bi
  | exact kit_bb
  | exact kit_li
  | exact kit_ll
  | exact kit_tt
  | exact kit_tl
  | exact kit_lt
  | exact kit_tb)
local macro_rules | `(tactic| walk_at "ns") => `(tactic| first
  | exact fun _ _ => rfl)
local macro_rules | `(tactic| walk_at "jv") => `(tactic| first
  | exact jv_int
  | exact jv_bl
  | exact jv_non
  | exact jv_str
  | walk_at "var"
  | (apply jv_add; walk_at "jv"; walk_at "jv")
  | (apply jv_sub; walk_at "jv"; walk_at "jv")
  | (apply jv_neg; walk_at "jv")
  | (apply jv_mul; walk_at "jv"; walk_at "jv"; walk_at "mulok")
  | (apply jv_fdiv; walk_at "jv"; walk_at "jv"; walk_at "divok")
  | (apply jv_mod; walk_at "jv"; walk_at "jv"; walk_at "side")
  | (apply jv_band; walk_at "jv"; walk_at "jv")
  | (apply jv_cmp; walk_at "jo"; (first | exact rfl | exact nomark _))
  | (apply jv_chain op_le op_le; walk_at "jv"; walk_at "jv"; walk_at "jv"; with_unfolding_all rfl)
  | (apply jv_chain op_le op_lt; walk_at "jv"; walk_at "jv"; walk_at "jv"; with_unfolding_all rfl)
  | (apply jv_and; walk_at "jv"; intro hand; walk_at "jv")
  | (apply jv_or; walk_at "jv"; intro hor; walk_at "jv")
  | (apply jv_not; walk_at "jv")
  | (apply jv_one; walk_at "jv")
  | (apply jv_lenM; walk_at "bm"; walk_at "jd"; exact rfl; walk_at "ns")
  | (apply jv_len; walk_at "bm"; walk_at "jd"; exact rfl; walk_at "ns")
  | (apply jv_all; exact rfl; walk_at "bm"; walk_at "jd"; exact rfl; decide +kernel; walk_at "ns")
  | (apply jv_any; exact rfl; walk_at "bm"; walk_at "jd"; exact rfl; decide +kernel; walk_at "ns")
  | (apply jv_lenT; walk_at "bm"; walk_at "jd"; exact rfl; walk_at "ns")
  | walk_at "call"
  | (apply jv_isi; (first | exact boot_tint | exact boot_tbool | exact boot_tlist | exact boot_ttuple); walk_at "bm"; walk_at "bm"; walk_at "jd"; walk_at "kit"; exact rfl; exact rfl; exact boot_isi; walk_at "ns"; decide; decide)
  | (apply jv_lenSet; exact rfl; walk_at "bm"; walk_at "bm"; walk_at "jd"; walk_at "side"; exact rfl; exact rfl; walk_at "ns")
  | (apply jv_ifE; walk_at "jt"; intro hif; walk_at "jv"; intro hif; walk_at "jv")
  | (apply JD.toI; walk_at "jx")
  | (apply JD.toB; walk_at "jx")
  | (apply JD.toS; walk_at "jx"))
local macro_rules | `(tactic| walk_at "mulok") => `(tactic| first
  | exact Or.inr ⟨by decide, by decide⟩
  | exact Or.inl ⟨by decide, by decide⟩
  | exact Or.inl ⟨by omega, by omega⟩
  | exact Or.inr ⟨by omega, by omega⟩)
local macro_rules | `(tactic| walk_at "divok") => `(tactic| first
  | exact ⟨by decide, by decide⟩
  | exact ⟨by omega, by omega⟩)
local macro_rules | `(tactic| walk_at "jx") => `(tactic| first
  | (apply jd_ixN; walk_at "jd"; walk_at "jv"; exact fun _ _ => rfl; walk_at "side")
  | (apply jd_ixNs; walk_at "jd"; walk_at "jv"; exact fun _ _ => rfl; walk_at "side")
  | (apply jd_ixP; walk_at "jd"; walk_at "jv"; exact fun _ _ => rfl; walk_at "side")
  | (apply jd_ixPs; walk_at "jd"; walk_at "jv"; exact fun _ _ => rfl; walk_at "side")
  | (apply jd_ixI; walk_at "jd"; walk_at "jv"; exact fun _ _ => rfl; walk_at "side")
  | (apply jd_ixP1; walk_at "jd")
  | (apply jd_ixP2; walk_at "jd")
  | walk_at "calld")
local macro_rules | `(tactic| walk_at "jd") => `(tactic| first
  | (apply JV.toD; walk_at "var"; walk_at "dp")
  | walk_at "jx"
  | (apply jd_list; walk_at "jad"; exact Nat.le_of_ble_eq_true rfl)
  | (apply jd_tuple; walk_at "jad"; exact Nat.le_of_ble_eq_true rfl)
  | (apply jd_listOf; walk_at "bm"; walk_at "jd"; exact rfl; exact boot_tlist; walk_at "ns")
  | (apply JV.toD (v := V.int _); walk_at "jv"; exact Dx.int _)
  | (apply JV.toD (v := V.bl _); walk_at "jv"; exact Dx.bl _)
  | (apply JV.toD (v := V.str _); walk_at "jv"; exact Dx.str _)
  | (apply jd_ifE; walk_at "jt"; intro hif; walk_at "jd"; intro hif; walk_at "jd"))
local macro_rules | `(tactic| walk_at "jad") => `(tactic| first
  | exact jad_nil
  | (apply jad_cons; walk_at "jd"; walk_at "jad"; walk_at "ns"))
local macro_rules | `(tactic| walk_at "jo") => `(tactic| first
  | (apply jo_isN; walk_at "jv")
  | (apply jo_notN; walk_at "jv")
  | (apply jo_eqI; walk_at "jv"; walk_at "jv")
  | (apply jo_neI; walk_at "jv"; walk_at "jv")
  | (apply jo_lt; walk_at "jv"; walk_at "jv")
  | (apply jo_le; walk_at "jv"; walk_at "jv")
  | (apply jo_gt; walk_at "jv"; walk_at "jv")
  | (apply jo_ge; walk_at "jv"; walk_at "jv")
  | (apply jo_inN; walk_at "hu"; walk_at "jv"; walk_at "jd")
  | (apply jo_niN; walk_at "hu"; walk_at "jv"; walk_at "jd")
  | (apply jo_eqD; walk_at "hu"; walk_at "jd"; walk_at "jd"; walk_at "shp"; walk_at "shp")
  | (apply jo_neD; walk_at "hu"; walk_at "jd"; walk_at "jd"; walk_at "shp"; walk_at "shp"))
local macro_rules | `(tactic| walk_at "shp") => `(tactic| first
  | assumption
  | exact Shp.shaped eLL _
  | exact Shp.shaped ePs _
  | exact Shp.shaped eNs _
  | exact Shp.shaped ePss _
  | exact Shp.shaped eP _
  | exact Shp.shaped eN _
  | exact Shp.shaped eI _
  | decide)
local macro_rules | `(tactic| walk_at "jw") => `(tactic| first
  | (apply jw_one_and; walk_at "jt")
  | (apply jw_one_or; walk_at "jt")
  | (apply jw_and; walk_at "jt"; intro hand; walk_at "jw")
  | (apply jw_or; walk_at "jt"; intro hor; walk_at "jw"))
local macro_rules | `(tactic| walk_at "jt") => `(tactic| first
  | (apply jt_w; walk_at "jw")
  | (apply jt_cmp; walk_at "jo"; (first | exact rfl | exact nomark _))
  | (apply jt_not; walk_at "jt")
  | (apply jt_val; walk_at "jv"; exact fun _ => rfl)
  | (apply jt_chain op_le op_le; walk_at "jv"; walk_at "jv"; walk_at "jv"; with_unfolding_all rfl))
local macro_rules | `(tactic| walk_at "camp") => `(tactic| first | assumption | (refine' CampAt.mono ?_ (by assumption); walk_at "ex"))
local macro_rules | `(tactic| walk_at "calld") => `(tactic| first
  | (apply jd_told; assumption; walk_at "var"; walk_at "camp"; exact rfl)
  | walk_at "calld2")
local macro_rules | `(tactic| walk_at "calld2") => `(tactic| first
  | fail "calld2")
local macro_rules | `(tactic| walk_at "room") => `(tactic| first
  | assumption
  | exact Room.mono (by assumption) (by decide))
local macro_rules | `(tactic| walk_at "bm") => `(tactic| first
  | assumption
  | exact Tx.len (by assumption)
  | exact Tx.range (by assumption)
  | exact Tx.list (by assumption)
  | exact Tx.all (by assumption)
  | exact Tx.any (by assumption)
  | exact Tx.isi (by assumption)
  | exact Tx.int (by assumption)
  | exact Tx.bool (by assumption)
  | exact Tx.set (by assumption)
  | exact Tx.tup (by assumption))
local macro_rules | `(tactic| walk_at "call") => `(tactic| first
  | (apply jv_size; assumption; walk_at "var"; walk_at "camp"; exact rfl)
  | (apply jv_index; walk_at "hu"; walk_at "jd"; walk_at "jv"; walk_at "side"; walk_at "ns"; exact rfl; exact rfl; exact rfl)
  | (apply jv_would; assumption; assumption; walk_at "room"; walk_at "var"; walk_at "camp"; walk_at "jv"; walk_at "jv"; walk_at "side"; walk_at "side"; walk_at "ns"; walk_at "ns"; exact rfl; exact rfl)
  | walk_at "call2")
local macro_rules | `(tactic| walk_at "call2") => `(tactic| first
  | fail "call2")
local macro_rules | `(tactic| walk_at "call2") => `(tactic| first
  | (apply jv_cell; assumption; walk_at "room"; walk_at "var"; assumption; walk_at "jv"; exact rfl; walk_at "ns"; walk_at "ns"; exact rfl)
  | (apply jv_draw; assumption; walk_at "room"; walk_at "jv"; walk_at "jv"; walk_at "jv"; walk_at "side"; exact rfl; walk_at "ns"; walk_at "ns"; walk_at "ns"; exact rfl)
  | (apply jv_Lwould; assumption; walk_at "room"; walk_at "jd"; walk_at "jv"; walk_at "jv"; walk_at "side"; walk_at "side"; exact rfl; walk_at "ns"; walk_at "ns"; walk_at "ns"; exact rfl)
  | (apply jv_Lrather; assumption; walk_at "room"; walk_at "jd"; walk_at "jv"; walk_at "jv"; walk_at "jv"; walk_at "side"; walk_at "side"; exact rfl; walk_at "ns"; walk_at "ns"; walk_at "ns"; walk_at "ns"; exact rfl)
  | walk_at "call3")
local macro_rules | `(tactic| walk_at "call3") => `(tactic| first
  | fail "call3")
/-! ### calls whose entry is told by what their argument is -/
section
variable {X : Cx} {σ : L2.St} {e a : Expr} {G : Hp} {pos : Pos} {C : Addr}
theorem ja_one {P : Hp → V → Prop} (h : JP X σ e G P) (hs : NoStar e) : JA X σ [e] G (fun G vs => ∃ v, vs = [v] ∧ P G v) := ⟨fun H eh Q q =>
  ⟨_, pa_cons pe_w pa_nil (hs _ _), h H eh _ fun G1 H1 v s1 p1 => q G1 H1 [v] s1 ⟨v, rfl, p1⟩⟩⟩
theorem jp_campE {ap : Pos} (T : Tx X.K X.mg C) (M : Mkr X.prog X.w X.K X.mg X.base C 2 (spCamp C)) (hr : Room 3 X.A) (ha : JP X σ a G (fun G v => ∃ L, ValidL L ∧ Dx G v (eLL L))) (hg : Gl X "Camp") (na : NoStar a)
    (hpl : (backTo pos (starEach [] X.env)).any (·.1) = false) : JP X σ (.Call (.Name "Camp" ap) [a] [] pos) G (fun G v => ∃ L, ValidL L ∧ kCamp X.K C L G v) := ⟨fun H eh Q q => by
  obtain ⟨f, fd, ps, hf, mk, hb⟩ := M
  refine ⟨_, pe_make mk hf hr hg T.mgC hb .nil pass0 pa_w (by decide) (na _ _) hpl, (ja_one ha na) H eh _ fun G1 H1 vs s1 al xx dx hx hdx ne => ?_⟩
  obtain ⟨v, ev, L, hv, hd⟩ := al
  subst ev
  rw [List.append_nil]
  refine ⟨L, G1, H1, xx, dx, [v], rfl, made_hs s1.gh hx hdx ne, hv, ⟨hd, trivial⟩, fun G' H' fs F h2 eF fr r => ⟨rfl, ?_⟩⟩
  obtain ⟨hf2, e2⟩ := h2.fix
  obtain ⟨t, h1, h3⟩ := r
  exact q (upd G' xx (.ins C dx fs)) H' _ (s1.trans hf2.st) ⟨L, hv, xx, rfl, t, ⟨dx, fs, upd_same, h1⟩, h3.mono (eF.trans e2)⟩⟩
theorem jp_writtenE {ap : Pos} (M : Df X.prog X.w X.K X.mg X.base "written" 1 (spWritten X.K C)) (hr : Room 1 X.A) (ha : JP X σ a G (fun G v => ∃ L, ValidL L ∧ kCamp X.K C L G v)) (hg : Gl X "written") (na : NoStar a)
    (hpl : (backTo pos (starEach [] X.env)).any (·.1) = false) : JP X σ (.Call (.Name "written" ap) [a] [] pos) G (fun _ v => ∃ L, ValidL L ∧ v = .str (textOf L)) := ⟨fun H eh Q q => by
  obtain ⟨f, fd, ps, hf, hm, hk, hb⟩ := M
  refine ⟨_, pe_call hf hr hg hm hk hb .nil pass0 pa_w (by decide) (na _ _) hpl, (ja_one ha na) H eh _ fun G1 H1 vs s1 al => ?_⟩
  obtain ⟨v, ev, L, hv, hd⟩ := al
  subst ev
  rw [List.append_nil]
  exact ⟨L, G1, s1.gh, hv, ⟨hd, trivial⟩, fun G2 H2 v s2 r => q G2 H2 v (s1.trans s2) ⟨L, hv, r⟩⟩⟩
end
section
variable {X : Cx} {σ : L2.St} {G : Hp} {p p2 p3 p4 p5 : Pos} {x y : Str} {j j2 j3 : Nat}
theorem jv_rep1 (hx : x.length ≤ 100) (hy : y.length = 1) : JV X σ (.BinOp (.Constant (.str x) j p) .Add (.BinOp (.Constant (.str y) j2 p2) .Mult (.Constant (.int 4000) j3 p3) p4) p5) G (.str (x ++ times y 4000)) :=
  jv_addS jv_str (jv_mulS (n := 4000) jv_str (JV.is jv_int (show V.int (4000 : Int) = V.int ((4000 : Nat) : Int) from rfl)) hy (by decide) (by decide)) (by rw [times_len hy, sizeLine_eq]; omega)
theorem jv_rep2 (hx : x.length ≤ 100) (hy : y.length = 1) : JV X σ (.BinOp (.BinOp (.Constant (.str y) j2 p2) .Mult (.Constant (.int 4000) j3 p3) p4) .Add (.Constant (.str x) j p) p5) G (.str (times y 4000 ++ x)) :=
  jv_addS (jv_mulS (n := 4000) jv_str (JV.is jv_int (show V.int (4000 : Int) = V.int ((4000 : Nat) : Int) from rfl)) hy (by decide) (by decide)) jv_str (by rw [times_len hy, sizeLine_eq]; omega)
end
/-! ### the texts: each told by a constant, or by one that is long -/
def conS : Expr → Str
  | .Constant (.str x) _ _ => x
  | .BinOp (.Constant (.str x) _ _) .Add (.BinOp (.Constant (.str y) _ _) .Mult (.Constant (.int 4000) _ _) _) _ => x ++ times y 4000
  | .BinOp (.BinOp (.Constant (.str y) _ _) .Mult (.Constant (.int 4000) _ _) _) .Add (.Constant (.str x) _ _) _ => times y 4000 ++ x
  | _ => ⟨#[]⟩
def fineB (t : Str) : Bool := decide (t.length ≤ 9000) && (decide (t.cps.toList.count 10 ≤ 8) && decide (t.cps.toList.count 32 ≤ 2000))
def okXY (x y : Str) : Bool := decide (x.length ≤ 3) && (decide (y.length = 1) && !(decide (y.cps.toList = [10]) || decide (y.cps.toList = [32])))
def okC : Expr → Bool
  | .Constant (.str x) _ _ => fineB x
  | .BinOp (.Constant (.str x) _ _) .Add (.BinOp (.Constant (.str y) _ _) .Mult (.Constant (.int 4000) _ _) _) _ => okXY x y
  | .BinOp (.BinOp (.Constant (.str y) _ _) .Mult (.Constant (.int 4000) _ _) _) .Add (.Constant (.str x) _ _) _ => okXY x y
  | _ => false
theorem fine_B {t : Str} (h : fineB t = true) : Fine t := by
  unfold fineB at h
  rw [Bool.and_eq_true, Bool.and_eq_true, decide_eq_true_eq, decide_eq_true_eq, decide_eq_true_eq] at h
  exact ⟨h.1, h.2.1, h.2.2⟩
theorem fine_rep {t : Str} {xs ys : List Nat} {k : Nat} (h : t.cps.toList = xs ++ List.replicate 4000 k ++ ys) (hk : k ≠ 10 ∧ k ≠ 32) (hx : xs.length ≤ 5) (hy : ys.length ≤ 3) : Fine t := by
  have hc : ∀ z, z ≠ k → t.cps.toList.count z ≤ 8 := fun z hz => by
    rw [h, List.count_append, List.count_append, List.count_replicate, if_neg (by simpa using fun e => hz e.symm)]
    have := List.count_le_length (a := z) (l := xs)
    have := List.count_le_length (a := z) (l := ys)
    omega
  refine ⟨?_, hc 10 (fun e => hk.1 e.symm), Nat.le_trans (hc 32 (fun e => hk.2 e.symm)) (by decide)⟩
  rw [← len_cps, h, List.length_append, List.length_append, List.length_replicate]
  omega
theorem okXY_fine {x y : Str} (h : okXY x y = true) : x.length ≤ 100 ∧ y.length = 1 ∧ Fine (x ++ times y 4000) ∧ Fine (times y 4000 ++ x) := by
  unfold okXY at h
  rw [Bool.and_eq_true, Bool.and_eq_true, Bool.not_eq_true', Bool.or_eq_false_iff, decide_eq_true_eq, decide_eq_true_eq, decide_eq_false_iff_not, decide_eq_false_iff_not] at h
  obtain ⟨h1, h2, h3, h4⟩ := h
  obtain ⟨k, rfl⟩ := one_cps h2
  have hk : k ≠ 10 ∧ k ≠ 32 := ⟨fun e => h3 (by rw [e]), fun e => h4 (by rw [e])⟩
  have hx := len_cps x
  refine ⟨by omega, h2, fine_rep (xs := x.cps.toList) (ys := []) (k := k) ?_ hk (by omega) (by decide), fine_rep (xs := []) (ys := x.cps.toList) (k := k) ?_ hk (by decide) (by omega)⟩
  · rw [PySem.Str.cps_append, Array.toList_append, times_cps, List.append_nil]
  · rw [PySem.Str.cps_append, Array.toList_append, times_cps, List.nil_append]
theorem con_ok {e : Expr} (h : okC e = true) : Fine (conS e) ∧ NoStar e ∧ ∀ {X : Cx} {σ : L2.St} {G : Hp}, JD X σ e G (eS (conS e)) := by
  unfold okC at h
  split at h
  · exact ⟨fine_B h, fun _ _ => rfl, JV.toD jv_str (Dx.str _)⟩
  · obtain ⟨h1, h2, h3, _⟩ := okXY_fine h
    exact ⟨h3, fun _ _ => rfl, JV.toD (jv_rep1 h1 h2) (Dx.str _)⟩
  · obtain ⟨h1, h2, _, h3⟩ := okXY_fine h
    exact ⟨h3, fun _ _ => rfl, JV.toD (jv_rep2 h1 h2) (Dx.str _)⟩
  · cases h
abbrev kFew (n : Nat) : Hp → V → Prop := fun G v => ∃ ts : List Str, (∀ t ∈ ts, Fine t) ∧ ts.length ≤ n ∧ Dx G v (.list (ts.map eS))
theorem con_fine {es : List Expr} (h : es.all okC = true) : ∀ t ∈ es.map conS, Fine t := fun t ht => by
  obtain ⟨e, he, rfl⟩ := List.mem_map.mp ht
  exact (con_ok (List.all_eq_true.mp h e he)).1
section
variable {X : Cx} {σ : L2.St} {G : Hp} {a : Expr} {pos p2 : Pos}
theorem jad_con : ∀ {es : List Expr}, es.all okC = true → JA X σ es G (fun G vs => DxAll G vs ((es.map conS).map eS))
  | [], _ => jad_nil
  | e :: es, h => by
    rw [List.all_cons, Bool.and_eq_true] at h
    obtain ⟨_, h2, h3⟩ := con_ok h.1
    exact jad_cons h3 (jad_con h.2) h2
theorem jd_con {es : List Expr} (h : es.all okC = true) (hl : es.length ≤ 20) : JD X σ (.List es pos) G (.list ((es.map conS).map eS)) :=
  jd_list (jad_con h) (by rw [List.length_map, List.length_map, sizeLine_eq]; omega)
theorem jp_few {es : List Expr} (h : es.all okC = true) (hl : es.length ≤ 20) : JP X σ (.List es pos) G (kFew 20) := ⟨fun H eh Q q => jd_con h hl H eh Q fun G' H' v s p => q G' H' v s ⟨es.map conS, con_fine h, by rw [List.length_map]; exact hl, p⟩⟩
theorem jp_fewC {ts : List Str} {n : Nat} {es : List Expr} (ha : JD X σ a G (.list (ts.map eS))) (hf : ∀ t ∈ ts, Fine t) (hn : ts.length ≤ n) (hk : n ≤ 1000) (h : es.all okC = true) (hl : es.length ≤ 20) : JP X σ (.BinOp a .Add (.List es p2) pos) G (kFew (n + 20)) := ⟨fun H eh Q q =>
  (JN.toD (jn_cat ha (jd_con h hl) (by rw [List.length_map, List.length_map, List.length_map]; omega))) H eh Q fun G' H' v s p => q G' H' v s ⟨ts ++ es.map conS, fun t ht => (List.mem_append.mp ht).elim (hf t) (con_fine h t), by rw [List.length_append, List.length_map]; omega, by rw [List.map_append]; exact p⟩⟩
end
theorem text_small {L : List (List Nat)} (hv : ValidL L) : (textOf L).length ≤ 200 ∧ (textOf L).cps.toList.count 10 ≤ 5 := by
  have h1 := text_len hv.six hv.one fun i hi => hv.len hi
  refine ⟨by omega, ?_⟩
  have h2 := lines_count (textOf L)
  have h3 : linesOf (textOf L) = rowsOf L := text_split hv.six hv.one fun i hi x hx => (hv.row hi).2.2.2 x hx
  rw [h3, rows_len] at h2
  have := hv.six
  omega
theorem fine_text {L : List (List Nat)} (hv : ValidL L) : Fine (textOf L) := by
  obtain ⟨h1, h2⟩ := text_small hv
  refine ⟨by omega, by omega, ?_⟩
  have := List.count_le_length (a := 32) (l := (textOf L).cps.toList)
  have := len_cps (textOf L)
  omega
section
variable {P : Program} {w : World} {K : PySem.W.Frag} {mg : Str → Option Value} {base : Heap} {C : Addr}
def spLaw (K : PySem.W.Frag) : Sp := fun vs H Q _ => ∃ (a : Addr) (ns : List Int), vs = [.ref a] ∧ SqL K H a (ns.map V.int) ∧ ns.length ≤ 63 ∧ ∀ H', Q (.bl true) H'
structure Tl (P : Program) (w : World) (K : PySem.W.Frag) (mg : Str → Option Value) (base : Heap) (C : Addr) : Prop where
  camp : Mkr P w K mg base C 2 (spCamp C)
  written : Df P w K mg base "written" 1 (spWritten K C)
  cell : Df P w K mg base "_law_cell_at" 1 (spCell K)
  llists : Df P w K mg base "_law_lists" 2 (spLL K)
  right : Df P w K mg base "_law_right" 6 spRight
  refused : Df P w K mg base "_law_refused" 5 spRefused
  other : Df P w K mg base "_law_other" 2 spOther
def things : List PyData := [.none, .int 3, .list [.str "0:"], .bool true]
theorem ok_law {f : Addr} {fd : FuncData} (F : Fun K "law" "law" s_law f fd) (T : Tx K mg C) (U : Tl P w K mg base C) : FnOk P w K mg base CX0 7 f fd ["_law_script"] (spLaw K) := by
  refine F.ok sc_law (fun vs H Q E ⟨a, ns, e, _⟩ => by rw [e]; rfl) fun cdv A outer s H vs Q E hr ⟨sa, ns, e, hsc0, hlen, k⟩ => ?_
  subst e
  have h : Hs H H H H [] := .nil (Ex.refl _)
  have hsc : Scr K H sa ns := hsc0
  have nd := sc_law.nd
  have hu := hr.units
  show wSs _ _ _ _ _
  refine b_setP (n := 1) h (jp_writtenE U.written (hr.mono (by decide)) (jp_campE T U.camp (hr.mono (by decide)) (jd_Llists U.llists (hr.mono (by decide)) (by walk_at "var") hsc (JV.is jv_int (show V.int (0 : Int) = V.int ((0 : Nat) : Int) from rfl)) rfl (by walk_at "ns") (by walk_at "ns") rfl) rfl (by walk_at "ns") rfl) rfl (by walk_at "ns") rfl) nd rfl (by walk_at "loc") rfl (Or.inl rfl) (fun G1 H1 lv h1 e1 hlv => ?_)
  obtain ⟨L, hv, rfl⟩ := hlv
  obtain ⟨tl, tn⟩ := text_small hv
  have ft := fine_text hv
  generalize textOf L = t at *
  have hs1 : Scr K G1 sa ns := Evl.ex_l e1 hsc
  refine b_setV (n := 2) h1 (v := .int (ns.getD 2 0)) (jv_cell U.cell (hr.mono (by decide)) (by walk_at "var") hs1 (JV.is jv_int (show V.int (2 : Int) = V.int ((2 : Nat) : Int) from rfl)) rfl (by walk_at "ns") (by walk_at "ns") rfl) nd rfl (by walk_at "loc") rfl (Or.inl rfl) (fun H2 h2 => ?_)
  generalize ns.getD 2 0 = cell at *
  refine b_setP (n := 3) h2 (jp_few (by decide +kernel) (Nat.le_of_ble_eq_true rfl)) nd rfl (by walk_at "loc") rfl (Or.inl rfl) (fun G3 H3 fv3 h3 e3 hf3 => ?_)
  obtain ⟨ts3, f3, l3, d3⟩ := hf3
  refine b_setP (n := 3) h3 (jp_fewC (ts := ts3) (by walk_at "jd") f3 l3 (by decide) (by decide +kernel) (Nat.le_of_ble_eq_true rfl)) nd rfl (by walk_at "loc") rfl (Or.inl rfl) (fun G4 H4 fv4 h4 e4 hf4 => ?_)
  obtain ⟨ts4, f4, l4, d4⟩ := hf4
  refine b_setP (n := 3) h4 (jp_fewC (ts := ts4) (by walk_at "jd") f4 l4 (by decide) (by decide +kernel) (Nat.le_of_ble_eq_true rfl)) nd rfl (by walk_at "loc") rfl (Or.inl rfl) (fun G5 H5 fv5 h5 e5 hf5 => ?_)
  obtain ⟨ts5, f5, l5, d5⟩ := hf5
  refine b_setP (n := 3) h5 (jp_fewC (ts := ts5) (by walk_at "jd") f5 l5 (by decide) (by decide +kernel) (Nat.le_of_ble_eq_true rfl)) nd rfl (by walk_at "loc") rfl (Or.inl rfl) (fun G6 H6 fv6 h6 e6 hf6 => ?_)
  obtain ⟨ts6, f6, l6, d6⟩ := hf6
  refine b_setP (n := 3) h6 (jp_fewC (ts := ts6) (by walk_at "jd") f6 l6 (by decide) (by decide +kernel) (Nat.le_of_ble_eq_true rfl)) nd rfl (by walk_at "loc") rfl (Or.inl rfl) (fun G7 H7 fv7 h7 e7 hf7 => ?_)
  obtain ⟨ts7, f7, l7, d7⟩ := hf7
  refine b_setP (n := 3) h7 (jp_fewC (ts := ts7) (by walk_at "jd") f7 l7 (by decide) (by decide +kernel) (Nat.le_of_ble_eq_true rfl)) nd rfl (by walk_at "loc") rfl (Or.inl rfl) (fun G8 H8 fv8 h8 e8 hf8 => ?_)
  obtain ⟨ts8, f8, l8, d8⟩ := hf8
  clear d3 d4 d5 d6 d7 f3 f4 f5 f6 f7 l3 l4 l5 l6 l7
  have f7 := f8
  have l7 := l8
  generalize ts8 = ts at *
  refine' b_for h8 (f := eS) (xs := (ts ++ [t]) ++ (List.range 3).map fun q : Nat => otherT t (cell + 31 * (q : Int)) q) (JI.is (ji_list (JN.toD (jn_cat (ds := (ts ++ [t]).map eS) (ds2 := (List.range 3).map fun q : Nat => eS (otherT t (cell + 31 * (q : Int)) q)) (JD.is (JN.toD (jn_cat (ds := ts.map eS) (ds2 := [eS t]) (by walk_at "jd") (by walk_at "jd") ?len1)) ?eq1) (JN.toD (jn_lc (n := 5) (f0 := eN) (xs := List.range 3) (f := fun q : Nat => eS (otherT t (cell + 31 * (q : Int)) q)) (ji_range1 T.range (JV.is jv_int (show V.int (3 : Int) = V.int ((3 : Nat) : Int) from rfl)) (by decide) rfl (by walk_at "ns")) (by decide) rfl nd rfl (fun _ _ _ _ _ => ⟨by walk_at "loc", by walk_at "loc"⟩) (by first | kernel_rfl | rfl) (fun _ => rfl) ?body)) ?len2))) ?eq2) PassesOwn.never rfl (fun _ => rfl) (fun G9 H9 h9 e9 => ?_)
  case len1 => rw [List.length_map, List.length_singleton]; omega
  case eq1 => rw [List.map_append]; rfl
  case len2 => rw [List.length_map, List.length_append, List.length_singleton, List.length_map, List.length_range]; omega
  case eq2 => simp only [List.map_append, List.map_map]; rfl
  case body =>
    intro s h C cl fp y hy G2 u e3 pu
    cases pu
    exact JV.toD (jv_other U.other (hr.mono (by decide)) (by walk_at "jv") (by walk_at "jv") (by walk_at "jv") tl rfl (by walk_at "ns") (by walk_at "ns") (by walk_at "ns") rfl) (Dx.str _)
  have fin : ∀ x ∈ (ts ++ [t]) ++ (List.range 3).map fun q : Nat => otherT t (cell + 31 * (q : Int)) q, Fine x := fun x hx => by
    rw [List.mem_append, List.mem_append, List.mem_singleton] at hx
    rcases hx with (hx | rfl) | hx
    · exact f7 x hx
    · exact ft
    · obtain ⟨q, _, rfl⟩ := List.mem_map.mp hx
      exact fine_other tl tn _ _
  refine ⟨fun pre σ' G' H' => ∃ o4, σ' = [some (.ref sa), some (.str t), some (.int cell), some fv8, o4, none, none] ∧ Hs H H G' H' [] ∧ Ex G9 G', ?_, ?_, ?_, ?_⟩
  · exact ⟨none, rfl, h9, Ex.refl _⟩
  · rintro pre σ' G' H' ⟨o4, rfl, hs, e⟩
    exact ⟨e, hs.ex⟩
  · rintro pre x post v σ' G' H' hxs ⟨o4, rfl, hs, e⟩ pv
    cases pv
    have fx := fin x (by rw [hxs]; simp)
    refine wg_name (n := 4) nd rfl (by walk_at "loc") (Or.inl rfl) ?_
    exact b_if (p := false) hs (JT.is (jt_not (jt_val (jv_right U.right (hr.mono (by decide)) (by walk_at "jv") fx rfl (by walk_at "ns") rfl) (fun _ => rfl))) rfl) (fun e => by cases e) (fun _ H5 h5 => b_nil (b_nil ⟨G', _, rfl, h5, e⟩))
  · rintro σ' G' H' ⟨o4, rfl, hs, e⟩
    refine' b_ret hs (v := .bl true) (JV.is (jv_cmp (jo_eqD hu (d1 := .list (things.map fun _ => .int ((1 : Nat) : Int))) (d2 := .list [.int 1, .int 1, .int 1, .int 1]) (JN.toD (jn_lc (n := 6) (f0 := fun d : PyData => d) (xs := things) (f := fun _ => .int ((1 : Nat) : Int)) (JI.is (ji_list (ds := [.none, .int 3, .list [.str "0:"], .bool true]) (jd_list (jad_cons (JV.toD jv_non Dx.non) (jad_cons (by walk_at "jd") (jad_cons (jd_list (jad_cons (JV.toD jv_str (Dx.str _)) jad_nil (by walk_at "ns")) (Nat.le_of_ble_eq_true rfl)) (jad_cons (by walk_at "jd") jad_nil (by walk_at "ns")) (by walk_at "ns")) (by walk_at "ns")) (by walk_at "ns")) (Nat.le_of_ble_eq_true rfl))) rfl) (by decide) rfl nd rfl (fun _ _ _ _ _ => ⟨by walk_at "loc", by walk_at "loc"⟩) (by first | kernel_rfl | rfl) (fun _ => rfl) ?body2)) (by walk_at "jd") (by decide) (by decide)) rfl) rfl) (fun H5 h5 => k H5)
    intro s h C cl fp y hy G2 u e3 pu
    have hy2 : isStr y = false := by
      simp only [things, List.mem_cons, List.not_mem_nil, or_false] at hy
      rcases hy with rfl | rfl | rfl | rfl <;> rfl
    exact JV.toD (jv_refused (d := y) (r := 1) U.refused (hr.mono (by decide)) (by walk_at "jd") (.inl ⟨hy2, rfl⟩) rfl (by walk_at "ns") rfl) (Dx.int _)
end
end TP

set_option Elab.async false
set_option linter.all false
set_option maxRecDepth 100000
set_option maxHeartbeats 4000000
namespace TP
open PySem PySem.Spec PyProof.Rows L2
open Evl (Ex)
theorem all_mk {P : Program} {w : World} {K : PySem.W.Frag} {h : Heap} {mg : Str → Option Value} {fa C CE cB cP cN cS cT : Addr} {t0 t1 : Tok} {nmT qT : Str} {NT : Addr} {bsT : List Value} {snT : List Str} {subT : List Value} {abT : Bool} {colT : Option Bool} {ddT : Option Addr} {m0T m1T m2T m3T m5T : Option Value} (X : K.In h) (G : h.Ns mainGlobals mg) (hfa : mg "law" = some (.ref fa))
    (aC : PySem.W.nsIn K mainGlobals "Camp" = some (some (.ref C)))
    (aCE : PySem.W.nsIn K mainGlobals "CampError" = some (some (.ref CE)))
    (acB : PySem.W.nsIn K mainGlobals "BadCamp" = some (some (.ref cB)))
    (acP : PySem.W.nsIn K mainGlobals "BadPairs" = some (some (.ref cP)))
    (acN : PySem.W.nsIn K mainGlobals "NoCamper" = some (some (.ref cN)))
    (acS : PySem.W.nsIn K mainGlobals "NoneSteady" = some (some (.ref cS)))
    (acT : PySem.W.nsIn K mainGlobals "BadText" = some (some (.ref cT)))
    (g_within : Gf K "within" s_within)
    (g_Camp___init__ : Gm K C "__init__" "Camp.__init__" s_Camp___init__)
    (g_written : Gf K "written" s_written)
    (g_list_in : Gf K "list_in" s_list_in)
    (g_BadText___init__ : Gm K cT "__init__" "BadText.__init__" s_BadText___init__)
    (g_read : Gf K "read" s_read)
    (g_L_cell_at : Gf K "_law_cell_at" s_L_cell_at)
    (g_L_draw : Gf K "_law_draw" s_L_draw)
    (g_L_lists : Gf K "_law_lists" s_L_lists)
    (g_L_row_in : Gf K "_law_row_in" s_L_row_in)
    (g_L_due : Gf K "_law_due" s_L_due)
    (g_L_refused : Gf K "_law_refused" s_L_refused)
    (g_L_right : Gf K "_law_right" s_L_right)
    (g_L_other : Gf K "_law_other" s_L_other)
    (g_law : Gf K "law" s_law)
    (pg : PySem.W.plainGet K C Str.empty = true)
    (hd : PySem.W.hasDictIn K C = true)
    (po : PySem.W.plainOver K C = true)
    (sa : PySem.W.findIn K (.ref C) "__setattr__" = some (some (.builtin "object.__setattr__")))
    (mk : PySem.W.makesIn K C = true)
    (kc : PySem.W.keepIn K (.ref C) = true)
    (n_told : PySem.W.findIn K (.ref C) "told" = some none)
    (n_size : PySem.W.findIn K (.ref C) "size" = some none)
    (hn : PySem.W.specialIn K (.builtin "object.__class__") "__get__" = some (some (.builtin "getset_descriptor.__get__")))
    (htk : PySem.W.takesIn K (.builtin "object.__class__") = some true)
    (xcB : PySem.W.excIn K cB [.type "ValueError", .type "Exception", .type "BaseException", .type "object"] "ValueError.__new__" = true)
    (kpcB : PySem.W.keepIn K (.ref cB) = true)
    (scB : PySem.W.subIn K (.ref cB) (.type "BaseException") = some true)
    (hdcB : PySem.W.hasDictIn K cB = true)
    (ecB : PySem.W.subIn K (.ref cB) (.ref cB) = some true)
    (tcB : PySem.W.typeIn K (.ref cB) = some (.type "type"))
    (icB : PySem.W.isClsIn K cB = true)
    (tcP : PySem.W.typeIn K (.ref cP) = some (.type "type"))
    (icP : PySem.W.isClsIn K cP = true)
    (tcN : PySem.W.typeIn K (.ref cN) = some (.type "type"))
    (icN : PySem.W.isClsIn K cN = true)
    (tcS : PySem.W.typeIn K (.ref cS) = some (.type "type"))
    (icS : PySem.W.isClsIn K cS = true)
    (tcT : PySem.W.typeIn K (.ref cT) = some (.type "type"))
    (icT : PySem.W.isClsIn K cT = true)
    (kpcT : PySem.W.keepIn K (.ref cT) = true)
    (scT : PySem.W.subIn K (.ref cT) (.type "BaseException") = some true)
    (gacT : PySem.W.findIn K (.ref cT) "__getattribute__" = some (some (.builtin "BaseException.__getattribute__")))
    (gtcT : PySem.W.findIn K (.ref cT) "__getattr__" = some none)
    (cacT : PySem.W.findIn K (.ref cT) "__class__" = some (some (.builtin "object.__class__")))
    (hmcT : PySem.W.mroIn K cT (.type "object") = some true)
    (ecT : PySem.W.subIn K (.ref cT) (.ref CE) = some true)
    (vcT : PySem.W.subIn K (.ref cT) (.type "ValueError") = some true)
    (hdcT : PySem.W.hasDictIn K cT = true)
    (ncTcB : (Value.ref cT == Value.ref cB) = false)
    (qcTcB : PySem.W.subIn K (.ref cT) (.ref cB) = some false)
    (ncTcP : (Value.ref cT == Value.ref cP) = false)
    (qcTcP : PySem.W.subIn K (.ref cT) (.ref cP) = some false)
    (ncTcN : (Value.ref cT == Value.ref cN) = false)
    (qcTcN : PySem.W.subIn K (.ref cT) (.ref cN) = some false)
    (ncTcS : (Value.ref cT == Value.ref cS) = false)
    (qcTcS : PySem.W.subIn K (.ref cT) (.ref cS) = some false)
    (sCE : PySem.W.subIn K (.ref CE) (.type "BaseException") = some true)
    (hdCE : PySem.W.hasDictIn K CE = true)
    (tCE : PySem.W.typeIn K (.ref CE) = some (.type "type"))
    (rdCE : PySem.W.readsIn K CE (.type "type") = true)
    (gaCE : PySem.W.specialIn K (.ref CE) "__getattribute__" = some (some (.builtin "type.__getattribute__")))
    (inCE : PySem.W.findCls K (.ref CE) (.type "type") "__init__" = some (.val (.builtin "ValueError.__init__")))
    (xLT : K.lookup cT = some (excClassObj nmT qT cT NT bsT [.ref CE, .type "ValueError", .type "Exception", .type "BaseException", .type "object"] true snT subT abT colT ddT m0T m1T m2T m3T m5T "ValueError.__new__"))
    (saT_ : PySem.W.findIn K (.ref cT) "__setattr__" = some (some (.builtin "object.__setattr__")))
    (nfT : PySem.W.findIn K (.ref cT) "row" = some none)
    (z_len : PySem.W.nsIn K mainGlobals "len" = some none)
    (z_range : PySem.W.nsIn K mainGlobals "range" = some none)
    (z_list : PySem.W.nsIn K mainGlobals "list" = some none)
    (z_all : PySem.W.nsIn K mainGlobals "all" = some none)
    (z_any : PySem.W.nsIn K mainGlobals "any" = some none)
    (z_isinstance : PySem.W.nsIn K mainGlobals "isinstance" = some none)
    (z_int : PySem.W.nsIn K mainGlobals "int" = some none)
    (z_bool : PySem.W.nsIn K mainGlobals "bool" = some none)
    (z_set : PySem.W.nsIn K mainGlobals "set" = some none)
    (z_tuple : PySem.W.nsIn K mainGlobals "tuple" = some none)
    (z_min : PySem.W.nsIn K mainGlobals "min" = some none)
    (z_max : PySem.W.nsIn K mainGlobals "max" = some none)
    (z_str : PySem.W.nsIn K mainGlobals "str" = some none)
    (z_ValueError : PySem.W.nsIn K mainGlobals "ValueError" = some none)
    (c_MOST : PySem.W.nsIn K mainGlobals "MOST" = some (some (.int 6 t0)))
    (c_FIGURES : PySem.W.nsIn K mainGlobals "FIGURES" = some (some (.str "012345" t1)))
    : ∃ fd : FuncData, (∀ (s : Shared) (v : Value), BindsTo s fd ⟨[v], []⟩ [("_law_script", v)]) ∧ ∀ base : Heap, K.In base → base.Ns mainGlobals mg → FnOk P w K mg base CX0 7 fa fd ["_law_script"] (spLaw K) := by
  have T : Tx K mg C := ⟨⟨pg, hd, po, sa⟩, n_told, n_size, PySem.W.mg_of X G aC, PySem.W.mg_none_of X G z_len, PySem.W.mg_none_of X G z_range, PySem.W.mg_none_of X G z_list, PySem.W.mg_none_of X G z_all, PySem.W.mg_none_of X G z_any, PySem.W.mg_none_of X G z_isinstance, PySem.W.mg_none_of X G z_int, PySem.W.mg_none_of X G z_bool, PySem.W.mg_none_of X G z_set, PySem.W.mg_none_of X G z_tuple, ⟨_, PySem.W.mg_of X G c_MOST⟩⟩
  have OcB : Own K mg "BadCamp" cB := ⟨PySem.W.mg_of X G acB, xcB, kpcB, scB, tcB⟩
  have xB : PySem.W.exmOne K (.ref cB) (.ref cB) = some true := PySem.W.exm_ref scB hdcB tcB ecB
  have KcT : ExcK K cT := ⟨icT, gacT, gtcT, scT, cacT, hn, htk, hmcT⟩
  have McT : PySem.W.exmOne K (.ref cT) (.ref CE) = some true := PySem.W.exm_ref sCE hdCE tCE ecT
  have QcT : Kd K cB cP cN cS cT cT 4 := ⟨KcT, kit_cl ncTcB icB tcB qcTcB, kit_cl ncTcP icP tcP qcTcP, kit_cl ncTcN icN tcN qcTcN, kit_cl ncTcS icS tcS qcTcS, kit_eq, kit_ve (by decide +kernel) vcT⟩
  have bas : Bas K mg "CampError" CE (.type "type") := ⟨PySem.W.mg_of X G aCE, rdCE, gaCE, inCE⟩
  have oT : OexC K cT := ⟨⟨nmT, qT, NT, bsT, _, snT, subT, abT, colT, ddT, m0T, m1T, m2T, m3T, m5T, xLT, rfl⟩, saT_, scT, tcT, kpcT⟩
  have xfT : XfC K cT := ⟨gacT, gtcT, scT, hdcT⟩
  have c5 : Cl5 mg cB cP cN cS cT := ⟨PySem.W.mg_of X G acB, PySem.W.mg_of X G acP, PySem.W.mg_of X G acN, PySem.W.mg_of X G acS, PySem.W.mg_of X G acT, PySem.W.mg_none_of X G z_ValueError⟩
  obtain ⟨f9, fd9, a9, F9⟩ := g_law
  have e := hfa.symm.trans (PySem.W.mg_of X G a9)
  cases e
  obtain ⟨oc, od, kV, doc, pm, an, cdv, ct, osl, rfl, lk, hcd⟩ := F9.ex
  refine ⟨PySem.W.fnOf "law" "law" (defArgs s_law) (defBody s_law) (defScope s_law) .none kV doc pm an cdv ct, fun s v => .of_eq rfl, fun base _ _ => ?_⟩
  have Dw : Df P w K mg base "within" 1 spWithin := g_within.df ["number", "low", "high"] X G (fun _ _ F => ok_within F T) (fun _ _ _ _ _ _ us hl => match us, hl with | [_, _, _], _ => rfl)
  have Mk : Mkr P w K mg base C 2 (spCamp C) := g_Camp___init__.mkr ["self", "lists"] mk kc (fun _ _ F => ok_camp F T Dw) (fun _ _ _ _ _ _ us hl => match us, hl with | [_, _], _ => rfl)
  have MkN : MkrN P w K mg base C 2 (spCampR C cB) := g_Camp___init__.mkrN ["self", "lists"] mk kc (fun _ _ F => ok_campRN F T OcB Dw) (fun _ _ _ _ _ _ us hl => match us, hl with | [_, _], _ => rfl)
  have Dwr : Df P w K mg base "written" 1 (spWritten K C) := g_written.df ["camp"] X G (fun _ _ F => ok_written F T (PySem.W.mg_none_of X G z_str)) (fun _ _ _ _ _ _ us hl => match us, hl with | [_], _ => rfl)
  have Dli : Df P w K mg base "list_in" 1 spLI := g_list_in.df ["row", "camper"] X G (fun _ _ F => ok_listInG F T (PySem.W.mg_none_of X G z_str) ⟨_, PySem.W.mg_of X G c_FIGURES⟩) (fun _ _ _ _ _ _ us hl => match us, hl with | [_, _], _ => rfl)
  have OT : OwnX P w K mg base "BadText" cT "row" := g_BadText___init__.ownX ["self", "row"] (PySem.W.mg_of X G acT) oT nfT (fun _ _ F => ok_textInit F bas oT nfT) (fun _ _ _ _ _ _ us hl => match us, hl with | [_, _], _ => rfl)
  have OTH : OwnXH P w K mg base "BadText" cT "row" := g_BadText___init__.ownXH ["self", "row"] (PySem.W.mg_of X G acT) oT (fun _ _ F => okH_textInit F bas oT nfT) (fun _ _ _ _ _ _ us hl => match us, hl with | [_, _], _ => rfl)
  have DrG : Df P w K mg base "read" 4 (spReadG K C) := g_read.df ["text"] X G (fun _ _ F => ok_readG F T (PySem.W.mg_none_of X G z_str) ⟨_, PySem.W.mg_of X G c_FIGURES⟩ Dli Mk) (fun _ _ _ _ _ _ us hl => match us, hl with | [_], _ => rfl)
  have DrR : DfT P w K mg base "read" 4 (spReadR cT) := g_read.dfT ["text"] X G (fun _ _ F => ok_readR F T (PySem.W.mg_none_of X G z_str) ⟨_, PySem.W.mg_of X G c_FIGURES⟩ OT OTH (PySem.W.mg_of X G acB) xB Dli MkN) (fun _ _ _ _ _ _ us hl => match us, hl with | [_], _ => rfl)
  have Lc : Df P w K mg base "_law_cell_at" 1 (spCell K) := g_L_cell_at.df ["_law_script", "_law_k"] X G (fun _ _ F => ok_cell F T) (fun _ _ _ _ _ _ us hl => match us, hl with | [_, _], _ => rfl)
  have Ld : Df P w K mg base "_law_draw" 1 spDraw := g_L_draw.df ["_law_cell", "_law_k", "_law_many"] X G (fun _ _ F => ok_draw F T) (fun _ _ _ _ _ _ us hl => match us, hl with | [_, _, _], _ => rfl)
  have Ll : Df P w K mg base "_law_lists" 2 (spLL K) := g_L_lists.df ["_law_script", "_law_first"] X G (fun _ _ F => ok_Llists F T (PySem.W.mg_none_of X G z_min) Lc Ld) (fun _ _ _ _ _ _ us hl => match us, hl with | [_, _], _ => rfl)
  have Lri : Df P w K mg base "_law_row_in" 1 spRowIn := g_L_row_in.df ["_law_row", "_law_camper"] X G (fun _ _ F => ok_rowIn F T (PySem.W.mg_none_of X G z_str)) (fun _ _ _ _ _ _ us hl => match us, hl with | [_, _], _ => rfl)
  have Ldu : Df P w K mg base "_law_due" 2 spDue := g_L_due.df ["_law_text"] X G (fun _ _ F => ok_due F T (PySem.W.mg_none_of X G z_max) Lri) (fun _ _ _ _ _ _ us hl => match us, hl with | [_], _ => rfl)
  have Lre : Df P w K mg base "_law_refused" 5 spRefused := g_L_refused.df ["_law_text"] X G (fun _ _ F => ok_refused F T ⟨c5, DrR, DrG, PySem.W.mg_of X G aCE, McT, QcT, xfT, nfT⟩) (fun _ _ _ _ _ _ us hl => match us, hl with | [_], _ => rfl)
  have Lrg : Df P w K mg base "_law_right" 6 spRight := g_L_right.df ["_law_text"] X G (fun _ _ F => ok_right F T Ldu Lre DrG Dwr) (fun _ _ _ _ _ _ us hl => match us, hl with | [_], _ => rfl)
  have Lot : Df P w K mg base "_law_other" 2 spOther := g_L_other.df ["_law_text", "_law_cell", "_law_k"] X G (fun _ _ F => ok_other F T Ld) (fun _ _ _ _ _ _ us hl => match us, hl with | [_, _, _], _ => rfl)
  exact ok_law F9 T ⟨Mk, Dwr, Lc, Ll, Lrg, Lre, Lot⟩
theorem walk {l : PySem.W.OpenLaw} {q : Program} {loose : List Str} {XP : (Str → Option Value) → Heap → Prop} {YP : World → Heap → Prop} {d : DefRec} {K : Params → PySem.W.Frag} (hn : l.most = some 63) (hdf : d.params.defaults = [])
    (hY : ∀ (w : World) (h : Heap), YP w h → (K w.params).In h)
    (F : ∀ (w : World) (mg : Str → Option Value) (fa : Addr) (h : Heap), (K w.params).In h → h.Ns mainGlobals mg → mg d.name = some (.ref fa) →
      ∃ fd : FuncData, (∀ (s : Shared) (u : Value), BindsTo s fd ⟨[u], []⟩ [("_law_script", u)]) ∧ ∀ base : Heap, (K w.params).In base → base.Ns mainGlobals mg → FnOk l.prog w (K w.params) mg base CX0 7 fa fd ["_law_script"] (spLaw (K w.params))) :
    PySem.W.WalkO q loose XP YP l.row.toRowW d [] (fun f vs => PySem.call f vs) :=
  L2.walk_of (n := 63) (k := 7) (x := "_law_script") (CX := fun _ => CX0) (sp := fun w => spLaw (K w.params)) hn (by decide) hdf ⟨by decide, by decide, by decide⟩ hY F (fun _ _ a ns hl _ hS => ⟨a, ns, rfl, hS, hl, fun _ => rfl⟩) fun _ _ _ _ _ z => z
end TP

open PySem PySem.W PyProof.Rows in
set_option maxRecDepth 100000 in
set_option maxHeartbeats 0 in
theorem PySem.Challenge.cw_tentpairs_k06_texts_misread_holds : PySem.Challenge.rw_tentpairs_k06_texts_misread.Holds := by
  w_on; o_law; k_head; (case hw => w_witness2)
  k_fill
  refine TP.walk (l := PySem.Challenge.rw_tentpairs_k06_texts_misread) rfl rfl (fun w h Y => PySem.W.kIn_of Y) ?F
  case F =>
    intro w mg fa h KX G hmg
    refine' TP.all_mk KX G hmg ?aC ?aCE ?acB ?acP ?acN ?acS ?acT ?g_within ?g_Camp___init__ ?g_written ?g_list_in ?g_BadText___init__ ?g_read ?g_L_cell_at ?g_L_draw ?g_L_lists ?g_L_row_in ?g_L_due ?g_L_refused ?g_L_right ?g_L_other ?g_law ?pg ?hd ?po ?sa ?mk ?kc ?n_told ?n_size ?hn ?htk ?xcB ?kpcB ?scB ?hdcB ?ecB ?tcB ?icB ?tcP ?icP ?tcN ?icN ?tcS ?icS ?tcT ?icT ?kpcT ?scT ?gacT ?gtcT ?cacT ?hmcT ?ecT ?vcT ?hdcT ?ncTcB ?qcTcB ?ncTcP ?qcTcP ?ncTcN ?qcTcN ?ncTcS ?qcTcS ?sCE ?hdCE ?tCE ?rdCE ?gaCE ?inCE ?xLT ?saT_ ?nfT ?z_len ?z_range ?z_list ?z_all ?z_any ?z_isinstance ?z_int ?z_bool ?z_set ?z_tuple ?z_min ?z_max ?z_str ?z_ValueError ?c_MOST ?c_FIGURES
    (case aC => k_is)
    (case aCE => k_is)
    (case acB => k_is)
    (case acP => k_is)
    (case acN => k_is)
    (case acS => k_is)
    (case acT => k_is)
    (case g_within => (refine' TP.gf_mk ?ga ?gl ?gc ?gk; (case ga => k_is); (case gl => k_is); (case gc => k_is); (case gk => k_is)))
    (case g_Camp___init__ => (refine' TP.gm_mk ?ga ?gi ?gl ?gc ?gk; (case ga => k_is); (case gi => k_is); (case gl => k_is); (case gc => k_is); (case gk => k_is)))
    (case g_written => (refine' TP.gf_mk ?ga ?gl ?gc ?gk; (case ga => k_is); (case gl => k_is); (case gc => k_is); (case gk => k_is)))
    (case g_list_in => (refine' TP.gf_mk ?ga ?gl ?gc ?gk; (case ga => k_is); (case gl => k_is); (case gc => k_is); (case gk => k_is)))
    (case g_BadText___init__ => (refine' TP.gm_mk ?ga ?gi ?gl ?gc ?gk; (case ga => k_is); (case gi => k_is); (case gl => k_is); (case gc => k_is); (case gk => k_is)))
    (case g_read => (refine' TP.gf_mk ?ga ?gl ?gc ?gk; (case ga => k_is); (case gl => k_is); (case gc => k_is); (case gk => k_is)))
    (case g_L_cell_at => (refine' TP.gf_mk ?ga ?gl ?gc ?gk; (case ga => k_is); (case gl => k_is); (case gc => k_is); (case gk => k_is)))
    (case g_L_draw => (refine' TP.gf_mk ?ga ?gl ?gc ?gk; (case ga => k_is); (case gl => k_is); (case gc => k_is); (case gk => k_is)))
    (case g_L_lists => (refine' TP.gf_mk ?ga ?gl ?gc ?gk; (case ga => k_is); (case gl => k_is); (case gc => k_is); (case gk => k_is)))
    (case g_L_row_in => (refine' TP.gf_mk ?ga ?gl ?gc ?gk; (case ga => k_is); (case gl => k_is); (case gc => k_is); (case gk => k_is)))
    (case g_L_due => (refine' TP.gf_mk ?ga ?gl ?gc ?gk; (case ga => k_is); (case gl => k_is); (case gc => k_is); (case gk => k_is)))
    (case g_L_refused => (refine' TP.gf_mk ?ga ?gl ?gc ?gk; (case ga => k_is); (case gl => k_is); (case gc => k_is); (case gk => k_is)))
    (case g_L_right => (refine' TP.gf_mk ?ga ?gl ?gc ?gk; (case ga => k_is); (case gl => k_is); (case gc => k_is); (case gk => k_is)))
    (case g_L_other => (refine' TP.gf_mk ?ga ?gl ?gc ?gk; (case ga => k_is); (case gl => k_is); (case gc => k_is); (case gk => k_is)))
    (case g_law => (refine' TP.gf_mk ?ga ?gl ?gc ?gk; (case ga => k_is); (case gl => k_is); (case gc => k_is); (case gk => k_is)))
    (case pg => k_is)
    (case hd => k_is)
    (case po => k_is)
    (case sa => k_is)
    (case mk => k_is)
    (case kc => k_is)
    (case n_told => k_is)
    (case n_size => k_is)
    (case hn => k_is)
    (case htk => k_is)
    (case xcB => k_exc)
    (case kpcB => k_is)
    (case scB => k_is)
    (case hdcB => k_is)
    (case ecB => k_is)
    (case tcB => k_is)
    (case icB => k_is)
    (case tcP => k_is)
    (case icP => k_is)
    (case tcN => k_is)
    (case icN => k_is)
    (case tcS => k_is)
    (case icS => k_is)
    (case tcT => k_is)
    (case icT => k_is)
    (case kpcT => k_is)
    (case scT => k_is)
    (case gacT => k_is)
    (case gtcT => k_is)
    (case cacT => k_is)
    (case hmcT => k_is)
    (case ecT => k_is)
    (case vcT => k_is)
    (case hdcT => k_is)
    (case ncTcB => rfl)
    (case qcTcB => k_is)
    (case ncTcP => rfl)
    (case qcTcP => k_is)
    (case ncTcN => rfl)
    (case qcTcN => k_is)
    (case ncTcS => rfl)
    (case qcTcS => k_is)
    (case sCE => k_is)
    (case hdCE => k_is)
    (case tCE => k_is)
    (case rdCE => k_is)
    (case gaCE => k_is)
    (case inCE => k_is)
    (case xLT => k_is)
    (case saT_ => k_is)
    (case nfT => k_is)
    (case z_len => k_is)
    (case z_range => k_is)
    (case z_list => k_is)
    (case z_all => k_is)
    (case z_any => k_is)
    (case z_isinstance => k_is)
    (case z_int => k_is)
    (case z_bool => k_is)
    (case z_set => k_is)
    (case z_tuple => k_is)
    (case z_min => k_is)
    (case z_max => k_is)
    (case z_str => k_is)
    (case z_ValueError => k_is)
    (case c_MOST => k_is)
    (case c_FIGURES => k_is)
#print axioms PySem.Challenge.cw_tentpairs_k06_texts_misread_holds

