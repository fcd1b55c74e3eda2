import PyProof.Rows.All
import Wide.All
import OpenK.AllK
import Wide.FinOn
import HandS.ForMost
import HandS.ForExc
import HandS.Deep
import HandS.Walk
import HandS.Evl
import HandS.Style
import HandS.IsInst
import HandS.Conv
import HandS.Zip
import KE.SortData
import HandS.Small
import KE.BitLaws
import PySem.Challenge.RW_tentpairs_k07_refused
import HandS.ExcInit
import HandS.HotCalls
import HandS.ClsMeth
import KE.KExcIs
import KE.DataFind
import HandS.ExcIs
set_option Elab.async false
set_option linter.all false
set_option maxRecDepth 100000
set_option maxHeartbeats 1000000
namespace TP
open PySem PySem.Spec PyProof.Rows L2
open Evl (Ex)

/-! ### the widest reading of each piece of syntax -/
def wE (X : Cx) (e : Expr) : TE := fun σ H Q => ∃ t, PE X e t ∧ t σ H Q
def wT (X : Cx) (e : Expr) : TT := fun σ H Q => ∃ t, PT X e t ∧ t σ H Q
def wW (X : Cx) (e : Expr) : TT := fun σ H Q => ∃ t, PW X e t ∧ t σ H Q
def wA (X : Cx) (es : List Expr) : TA := fun σ H Q => ∃ t, PA X es t ∧ t σ H Q
def wS (X : Cx) (st : Stmt) : TS := fun D σ H => ∃ t, PS X st t ∧ t D σ H
def wSs (X : Cx) (sts : List Stmt) : TS := fun D σ H => ∃ t, PSs X sts t ∧ t D σ H
def wG (X : Cx) (tg : Expr) : TG := fun v σ H Q => ∃ t, PG X tg t ∧ t v σ H Q
section
variable {X : Cx}
theorem pe_w {e : Expr} : PE X e (wE X e) := ⟨fun pins s σ H Q I ⟨_, h, q⟩ => h.run pins s σ H Q I q⟩
theorem pt_w {e : Expr} : PT X e (wT X e) := ⟨fun pins s σ H Q I ⟨_, h, q⟩ => h.run pins s σ H Q I q⟩
theorem pw_w {e : Expr} : PW X e (wW X e) := ⟨fun wh pins s σ H Q I ⟨_, h, q⟩ => h.run wh pins s σ H Q I q⟩
theorem pa_w {es : List Expr} : PA X es (wA X es) := ⟨fun pos pins s σ H Q I ⟨_, h, q⟩ => h.run pos pins s σ H Q I q⟩
theorem ps_w {st : Stmt} : PS X st (wS X st) := ⟨fun pins s σ H D I ⟨_, h, q⟩ => h.run pins s σ H D I q⟩
theorem pss_w {sts : List Stmt} : PSs X sts (wSs X sts) := ⟨fun pins s σ H D I ⟨_, h, q⟩ => h.run pins s σ H D I q⟩
end

/-! ### growing heaps -/
/-- G, G': what is fixed for good; H, H': all -/
structure Stp (G H G' H' : Hp) : Prop where
  g : Ex G G'
  gh : Ex G' H'
  h : Ex H H'
  fr : ∀ a, H a ≠ none → G' a ≠ none → G a ≠ none
theorem Stp.refl {G H : Hp} (e : Ex G H) : Stp G H G H := ⟨Ex.refl _, e, Ex.refl _, fun _ _ h => h⟩
theorem Stp.trans {G H G1 H1 G2 H2 : Hp} (a : Stp G H G1 H1) (b : Stp G1 H1 G2 H2) : Stp G H G2 H2 := by
  refine ⟨a.g.trans b.g, b.gh, a.h.trans b.h, fun x hx h2 => ?_⟩
  have h1 : H1 x ≠ none := by
    cases e : H x with
    | none => exact absurd e hx
    | some o => rw [a.h x o e]; simp
  exact a.fr x hx (b.fr x h1 h2)
/-- a step of the whole heap alone -/
theorem Stp.flat {G H H' : Hp} (e : Ex G H) (h : Ex H H') : Stp G H G H' := ⟨Ex.refl _, e.trans h, h, fun _ _ q => q⟩
theorem Stp.eh {G H G' H' : Hp} (s : Stp G H G' H') : Ex G H' := s.g.trans s.gh
/-- a new object, fixed for good -/
theorem Stp.new {G H : Hp} {p : Addr} {o : HO} (e : Ex G H) (hp : H p = none) : Stp G H (upd G p o) (upd H p o) := by
  have gp : G p = none := Evl.fresh_back e hp
  refine ⟨Ex.new gp, fun a u h => ?_, Ex.new hp, fun a ha h => ?_⟩
  · by_cases q : a = p
    · subst q; rw [upd_same] at h ⊢; exact h
    · rw [upd_ne q] at h ⊢; exact e a u h
  · by_cases q : a = p
    · subst q; exact absurd hp ha
    · rw [upd_ne q] at h; exact h
/-- what is fixed may be known to be more -/
def join (G G1 : Hp) : Hp := fun a => match G a with | some o => some o | none => G1 a
theorem Stp.wide {G H G1 G' H' : Hp} (e1 : Ex G G1) (e2 : Ex G1 H) (s : Stp G H G' H') : Stp G1 H (join G1 G') H' ∧ Ex G' (join G1 G') := by
  refine ⟨⟨fun a o h => by unfold join; rw [h], fun a o h => ?_, s.h, fun a ha h => ?_⟩, fun a o h => ?_⟩
  · unfold join at h
    cases q : G1 a with
    | some u => rw [q] at h; cases h; exact s.h a _ (e2 a _ q)
    | none => rw [q] at h; exact s.gh a o h
  · unfold join at h
    cases q : G1 a with
    | some u => simp
    | none =>
      rw [q] at h
      have g0 := s.fr a ha h
      cases r : G a with
      | none => exact absurd r g0
      | some u => rw [e1 a u r] at q; cases q
  · unfold join
    cases q : G1 a with
    | none => exact h
    | some u =>
      have h1 : H' a = some u := s.h a u (e2 a u q)
      rw [s.gh a o h] at h1
      cases h1; rfl

/-! ### data: what stands at v, all of it fixed -/
mutual
inductive Dx (H : Hp) : V → PyData → Prop
  | non : Dx H .non .none
  | bl (b : Bool) : Dx H (.bl b) (.bool b)
  | int (i : Int) : Dx H (.int i) (.int i)
  | str (x : Str) : Dx H (.str x) (.str x)
  | lst {a : Addr} {xs : List V} {ds : List PyData} : H a = some (.lst xs) → DxAll H xs ds → Dx H (.ref a) (.list ds)
  | tup {a : Addr} {xs : List V} {ds : List PyData} : H a = some (.tup xs) → DxAll H xs ds → Dx H (.ref a) (.tuple ds)
inductive DxAll (H : Hp) : List V → List PyData → Prop
  | nil : DxAll H [] []
  | cons {v : V} {vs : List V} {d : PyData} {ds : List PyData} : Dx H v d → DxAll H vs ds → DxAll H (v :: vs) (d :: ds)
end
mutual
theorem Dx.mono {H H' : Hp} (e : Ex H H') : ∀ {v : V} {d : PyData}, Dx H v d → Dx H' v d
  | _, _, .non => .non
  | _, _, .bl b => .bl b
  | _, _, .int i => .int i
  | _, _, .str x => .str x
  | _, _, .lst h a => .lst (e _ _ h) (DxAll.mono e a)
  | _, _, .tup h a => .tup (e _ _ h) (DxAll.mono e a)
theorem DxAll.mono {H H' : Hp} (e : Ex H H') : ∀ {vs : List V} {ds : List PyData}, DxAll H vs ds → DxAll H' vs ds
  | _, _, .nil => .nil
  | _, _, .cons a b => .cons (Dx.mono e a) (DxAll.mono e b)
end
mutual
theorem Dx.dp {K : PySem.W.Frag} {H : Hp} : ∀ {v : V} {d : PyData}, Dx H v d → Dp K H v d
  | _, _, .non => .non
  | _, _, .bl b => .bl b
  | _, _, .int i => .int i
  | _, _, .str x => .str x
  | _, _, .lst h a => .lst (SqL.of h) (DxAll.dp a)
  | _, _, .tup h a => .tup (SqT.of h) (DxAll.dp a)
theorem DxAll.dp {K : PySem.W.Frag} {H : Hp} : ∀ {vs : List V} {ds : List PyData}, DxAll H vs ds → DpAll K H vs ds
  | _, _, .nil => .nil
  | _, _, .cons a b => .cons (Dx.dp a) (DxAll.dp b)
end
section
variable {H : Hp}
theorem DxAll.length : ∀ {vs : List V} {ds : List PyData}, DxAll H vs ds → vs.length = ds.length
  | _, _, .nil => rfl
  | _, _, .cons _ b => by rw [List.length_cons, List.length_cons, DxAll.length b]
theorem DxAll.get : ∀ {vs : List V} {ds : List PyData} {i : Nat} {d : PyData}, DxAll H vs ds → ds[i]? = some d → ∃ v, vs[i]? = some v ∧ Dx H v d
  | _, _, _, _, .nil, h => by simp at h
  | _, _, 0, _, .cons a _, h => by simp at h; subst h; exact ⟨_, rfl, a⟩
  | _, _, i + 1, _, .cons _ b, h => by
    obtain ⟨v, h1, h2⟩ := DxAll.get (i := i) b (by simpa using h)
    exact ⟨v, by simpa using h1, h2⟩
theorem DxAll.back : ∀ {vs : List V} {ds : List PyData} {i : Nat} {v : V}, DxAll H vs ds → vs[i]? = some v → ∃ d, ds[i]? = some d ∧ Dx H v d
  | _, _, _, _, .nil, h => by simp at h
  | _, _, 0, _, .cons a _, h => by simp at h; subst h; exact ⟨_, rfl, a⟩
  | _, _, i + 1, _, .cons _ b, h => by
    obtain ⟨v, h1, h2⟩ := DxAll.back (i := i) b (by simpa using h)
    exact ⟨v, by simpa using h1, h2⟩
theorem DxAll.append : ∀ {vs us : List V} {ds es : List PyData}, DxAll H vs ds → DxAll H us es → DxAll H (vs ++ us) (ds ++ es)
  | _, _, _, _, .nil, h => h
  | _, _, _, _, .cons a b, h => .cons a (DxAll.append b h)
theorem DxAll.snoc {vs : List V} {ds : List PyData} {v : V} {d : PyData} (h : DxAll H vs ds) (q : Dx H v d) : DxAll H (vs ++ [v]) (ds ++ [d]) := h.append (.cons q .nil)
theorem DxAll.take : ∀ {vs : List V} {ds : List PyData} (n : Nat), DxAll H vs ds → DxAll H (vs.take n) (ds.take n)
  | _, _, 0, _ => .nil
  | _, _, _ + 1, .nil => .nil
  | _, _, n + 1, .cons a b => .cons a (DxAll.take n b)
theorem DxAll.drop : ∀ {vs : List V} {ds : List PyData} (n : Nat), DxAll H vs ds → DxAll H (vs.drop n) (ds.drop n)
  | _, _, 0, h => h
  | _, _, _ + 1, .nil => .nil
  | _, _, n + 1, .cons _ b => DxAll.drop n b
theorem DxAll.set : ∀ {vs : List V} {ds : List PyData} {v : V} {d : PyData} (n : Nat), DxAll H vs ds → Dx H v d → DxAll H (vs.set n v) (ds.set n d)
  | _, _, _, _, _, .nil, _ => .nil
  | _, _, _, _, 0, .cons _ b, q => .cons q b
  | _, _, _, _, n + 1, .cons a b, q => .cons a (DxAll.set n b q)
theorem DxAll.eraseIdx : ∀ {vs : List V} {ds : List PyData} (n : Nat), DxAll H vs ds → DxAll H (vs.eraseIdx n) (ds.eraseIdx n)
  | _, _, _, .nil => .nil
  | _, _, 0, .cons _ b => b
  | _, _, n + 1, .cons a b => .cons a (DxAll.eraseIdx n b)
theorem DxAll.reverse : ∀ {vs : List V} {ds : List PyData}, DxAll H vs ds → DxAll H vs.reverse ds.reverse
  | _, _, .nil => .nil
  | _, _, .cons a b => by rw [List.reverse_cons, List.reverse_cons]; exact DxAll.snoc (DxAll.reverse b) a
theorem Dx.int_inv {v : V} {i : Int} (h : Dx H v (.int i)) : v = .int i := by cases h; rfl
theorem Dx.bl_inv {v : V} {b : Bool} (h : Dx H v (.bool b)) : v = .bl b := by cases h; rfl
theorem Dx.str_inv {v : V} {x : Str} (h : Dx H v (.str x)) : v = .str x := by cases h; rfl
theorem DxAll.ints : ∀ {vs : List V} {ns : List Int}, DxAll H vs (ns.map PyData.int) → vs = ns.map V.int
  | _, [], h => by cases h; rfl
  | _, n :: ns, h => by
    cases h with
    | cons a b => rw [Dx.int_inv a, DxAll.ints b]; rfl
theorem DxAll.bls : ∀ {vs : List V} {ns : List Bool}, DxAll H vs (ns.map PyData.bool) → vs = ns.map V.bl
  | _, [], h => by cases h; rfl
  | _, n :: ns, h => by
    cases h with
    | cons a b => rw [Dx.bl_inv a, DxAll.bls b]; rfl
theorem DxAll.strs : ∀ {vs : List V} {ns : List Str}, DxAll H vs (ns.map PyData.str) → vs = ns.map V.str
  | _, [], h => by cases h; rfl
  | _, n :: ns, h => by
    cases h with
    | cons a b => rw [Dx.str_inv a, DxAll.strs b]; rfl
theorem DxAll.of_ints : ∀ (ns : List Int), DxAll H (ns.map V.int) (ns.map PyData.int)
  | [] => .nil
  | n :: ns => .cons (.int n) (DxAll.of_ints ns)
end

/-! ### lists of one's own, not yet fixed. G0, H0: the entry; G: what is fixed for good; H: all; os: one's own new objects -/
structure Hs (G0 H0 G H : Hp) (os : List (Addr × HO)) : Prop where
  st : Stp G0 H0 G H
  own : ∀ x ∈ os, G x.1 = none ∧ H x.1 = some x.2 ∧ H0 x.1 = none
  nd : (os.map (·.1)).Nodup
section
variable {G0 H0 G H G' H' : Hp} {os : List (Addr × HO)} {p q r : Addr} {o o' u : HO}
theorem Hs.ex (h : Hs G0 H0 G H os) : Ex G H := h.st.gh
theorem Hs.nil (e : Ex G H) : Hs G H G H [] := ⟨.refl e, fun _ h => (by simp at h), by simp⟩
theorem Hs.stp (h : Hs G0 H0 G H os) (s : Stp G H G' H') : Hs G0 H0 G' H' os := by
  refine ⟨h.st.trans s, fun x hx => ?_, h.nd⟩
  obtain ⟨h1, h2, h3⟩ := h.own x hx
  refine ⟨?_, s.h _ _ h2, h3⟩
  cases e : G' x.1 with
  | none => rfl
  | some z => exact absurd h1 (s.fr x.1 (by rw [h2]; simp) (by rw [e]; simp))
theorem Hs.flat (h : Hs G0 H0 G H os) (e : Ex H H') : Hs G0 H0 G H' os := h.stp (.flat h.ex e)
theorem Hs.ne (h : Hs G0 H0 G H os) (hp : H p = none) : ∀ x ∈ os, x.1 ≠ p := fun x hx e => by
  have := (h.own x hx).2.1
  rw [e, hp] at this; cases this
theorem Hs.new (h : Hs G0 H0 G H os) (hp : H p = none) : Hs G0 H0 G (upd H p o) ((p, o) :: os) := by
  have gp : G p = none := Evl.fresh_back h.ex hp
  have ne := h.ne hp
  refine ⟨⟨h.st.g, h.ex.trans (Ex.new hp), h.st.h.trans (Ex.new hp), h.st.fr⟩, fun x hx => ?_, ?_⟩
  · rcases List.mem_cons.mp hx with rfl | hx
    · exact ⟨gp, upd_same, Evl.fresh_back h.st.h hp⟩
    · rw [upd_ne (ne x hx)]; exact h.own x hx
  · rw [List.map_cons, List.nodup_cons]
    refine ⟨fun hm => ?_, h.nd⟩
    obtain ⟨x, hx, e⟩ := List.mem_map.mp hm
    exact ne x hx e
theorem Hs.at0 (h : Hs G0 H0 G H ((p, o) :: os)) : H p = some o := (h.own _ List.mem_cons_self).2.1
theorem Hs.tail (h : Hs G0 H0 G H ((p, o) :: os)) : Hs G0 H0 G H os := ⟨h.st, fun x hx => h.own x (List.mem_cons_of_mem _ hx), (List.nodup_cons.mp h.nd).2⟩
theorem Hs.put0 (h : Hs G0 H0 G H ((p, o) :: os)) : Hs G0 H0 G (upd H p o') ((p, o') :: os) := by
  have nd := List.nodup_cons.mp h.nd
  have o0 := h.own _ List.mem_cons_self
  refine ⟨⟨h.st.g, Evl.Ex.mut h.ex o0.1, Evl.Ex.mut h.st.h o0.2.2, h.st.fr⟩, fun x hx => ?_, h.nd⟩
  rcases List.mem_cons.mp hx with rfl | hx
  · exact ⟨o0.1, upd_same, o0.2.2⟩
  · have ne : x.1 ≠ p := fun e => nd.1 (by rw [← e]; exact List.mem_map.mpr ⟨x, hx, rfl⟩)
    rw [upd_ne ne]; exact h.own x (List.mem_cons_of_mem _ hx)
theorem Hs.perm {os' : List (Addr × HO)} (h : Hs G0 H0 G H os) (p : os.Perm os') : Hs G0 H0 G H os' :=
  ⟨h.st, fun x hx => h.own x (p.mem_iff.mpr hx), (p.map _).nodup_iff.mp h.nd⟩
theorem Hs.swap (h : Hs G0 H0 G H ((p, o) :: (q, u) :: os)) : Hs G0 H0 G H ((q, u) :: (p, o) :: os) := h.perm (.swap _ _ _)
/-- a new list behind a step -/
theorem Hs.newL (h : Hs G0 H0 G H os) (s : Stp G H G' H') (hp : H p = none) (gp : G' p = none) (hq : H' p = some o) : Hs G0 H0 G' H' ((p, o) :: os) := by
  have h1 := h.stp s
  have ne := h.ne hp
  refine ⟨h1.st, fun z hz => ?_, ?_⟩
  · rcases List.mem_cons.mp hz with rfl | hz
    · exact ⟨gp, hq, Evl.fresh_back h.st.h hp⟩
    · exact h1.own z hz
  · rw [List.map_cons, List.nodup_cons]
    refine ⟨fun hm => ?_, h.nd⟩
    obtain ⟨z, hz, e⟩ := List.mem_map.mp hm
    exact ne z hz e
/-- fixed for good -/
theorem Hs.fix (h : Hs G0 H0 G H ((p, o) :: os)) : Hs G0 H0 (upd G p o) H os ∧ Ex G (upd G p o) := by
  have o0 := h.own _ List.mem_cons_self
  have nd := List.nodup_cons.mp h.nd
  refine ⟨⟨⟨h.st.g.trans (Ex.new o0.1), fun a x e => ?_, h.st.h, fun a ha e => ?_⟩, fun x hx => ?_, nd.2⟩, Ex.new o0.1⟩
  · by_cases q : a = p
    · subst q; rw [upd_same] at e; cases e; exact h.at0
    · rw [upd_ne q] at e; exact h.ex a x e
  · by_cases q : a = p
    · subst q; exact absurd o0.2.2 ha
    · rw [upd_ne q] at e; exact h.st.fr a ha e
  · have ne : x.1 ≠ p := fun e => nd.1 (by rw [← e]; exact List.mem_map.mpr ⟨x, hx, rfl⟩)
    rw [upd_ne ne]
    exact h.own x (List.mem_cons_of_mem _ hx)
end
end TP

set_option Elab.async false
set_option linter.all false
set_option maxRecDepth 100000
set_option maxHeartbeats 1000000
namespace TP
open PySem PySem.Spec PyProof.Rows L2
open Evl (Ex)

/-! ### what a piece of syntax is worth, over what is fixed -/
structure JV (X : Cx) (σ : L2.St) (e : Expr) (G : Hp) (v : V) : Prop where
  run : ∀ H, Ex G H → ∀ Q : VK, (∀ H', Ex H H' → Q v H') → wE X e σ H Q
instance {X : Cx} {σ : L2.St} {e : Expr} {G : Hp} {v : V} : CoeFun (JV X σ e G v) (fun _ => ∀ H, Ex G H → ∀ Q : VK, (∀ H', Ex H H' → Q v H') → wE X e σ H Q) := ⟨fun h => h.run⟩
structure JD (X : Cx) (σ : L2.St) (e : Expr) (G : Hp) (d : PyData) : Prop where
  run : ∀ H, Ex G H → ∀ Q : VK, (∀ G' H' v, Stp G H G' H' → Dx G' v d → Q v H') → wE X e σ H Q
instance {X : Cx} {σ : L2.St} {e : Expr} {G : Hp} {d : PyData} : CoeFun (JD X σ e G d) (fun _ => ∀ H, Ex G H → ∀ Q : VK, (∀ G' H' v, Stp G H G' H' → Dx G' v d → Q v H') → wE X e σ H Q) := ⟨fun h => h.run⟩
structure JP (X : Cx) (σ : L2.St) (e : Expr) (G : Hp) (P : Hp → V → Prop) : Prop where
  run : ∀ H, Ex G H → ∀ Q : VK, (∀ G' H' v, Stp G H G' H' → P G' v → Q v H') → wE X e σ H Q
instance {X : Cx} {σ : L2.St} {e : Expr} {G : Hp} {P : Hp → V → Prop} : CoeFun (JP X σ e G P) (fun _ => ∀ H, Ex G H → ∀ Q : VK, (∀ G' H' v, Stp G H G' H' → P G' v → Q v H') → wE X e σ H Q) := ⟨fun h => h.run⟩
structure JT (X : Cx) (σ : L2.St) (e : Expr) (G : Hp) (b : Bool) : Prop where
  run : ∀ H, Ex G H → ∀ Q : Bool → Hp → Prop, (∀ H', Ex H H' → Q b H') → wT X e σ H Q
instance {X : Cx} {σ : L2.St} {e : Expr} {G : Hp} {b : Bool} : CoeFun (JT X σ e G b) (fun _ => ∀ H, Ex G H → ∀ Q : Bool → Hp → Prop, (∀ H', Ex H H' → Q b H') → wT X e σ H Q) := ⟨fun h => h.run⟩
structure JW (X : Cx) (σ : L2.St) (e : Expr) (G : Hp) (b : Bool) : Prop where
  run : ∀ H, Ex G H → ∀ Q : Bool → Hp → Prop, (∀ H', Ex H H' → Q b H') → wW X e σ H Q
instance {X : Cx} {σ : L2.St} {e : Expr} {G : Hp} {b : Bool} : CoeFun (JW X σ e G b) (fun _ => ∀ H, Ex G H → ∀ Q : Bool → Hp → Prop, (∀ H', Ex H H' → Q b H') → wW X e σ H Q) := ⟨fun h => h.run⟩
structure JA (X : Cx) (σ : L2.St) (es : List Expr) (G : Hp) (R : Hp → List V → Prop) : Prop where
  run : ∀ H, Ex G H → ∀ Q : List V → Hp → Prop, (∀ G' H' vs, Stp G H G' H' → R G' vs → Q vs H') → wA X es σ H Q
instance {X : Cx} {σ : L2.St} {es : List Expr} {G : Hp} {R : Hp → List V → Prop} : CoeFun (JA X σ es G R) (fun _ => ∀ H, Ex G H → ∀ Q : List V → Hp → Prop, (∀ G' H' vs, Stp G H G' H' → R G' vs → Q vs H') → wA X es σ H Q) := ⟨fun h => h.run⟩
def JO (X : Cx) (σ : L2.St) (op : CmpOp) (a b : Expr) (G : Hp) (v : V) : Prop := ∃ r, OpR X (compareOp op) r ∧ ∀ H, Ex G H → ∀ Q : VK, (∀ H', Ex H H' → Q v H') → tOp r (wE X a) (wE X b) σ H Q
/-- no starred argument -/
def NoStar (a : Expr) : Prop := ∀ es env, starEach (a :: es) env = (false, eval a env) :: starEach es env
/-- monotone -/
def Mo (P : Hp → V → Prop) : Prop := ∀ G G' v, Ex G G' → P G v → P G' v

section
variable {X : Cx} {σ : L2.St} {e a b c : Expr} {es : List Expr} {G G1 : Hp} {v u : V} {d d1 d2 : PyData} {pos : Pos} {i j k : Int} {x : Str}
theorem JV.mono (m : Ex G G1) (h : JV X σ e G v) : JV X σ e G1 v := ⟨fun H eh Q q => h H (m.trans eh) Q q⟩
theorem JT.mono {t : Bool} (m : Ex G G1) (h : JT X σ e G t) : JT X σ e G1 t := ⟨fun H eh Q q => h H (m.trans eh) Q q⟩
theorem JD.mono (m : Ex G G1) (h : JD X σ e G d) : JD X σ e G1 d := ⟨fun H eh Q q => h H (m.trans eh) Q fun G' H' v s p =>
  let ⟨s1, e1⟩ := Stp.wide m eh s
  q _ H' v s1 (p.mono e1)⟩
theorem JP.mono {P : Hp → V → Prop} (mo : Mo P) (m : Ex G G1) (h : JP X σ e G P) : JP X σ e G1 P := ⟨fun H eh Q q => h H (m.trans eh) Q fun G' H' v s p =>
  let ⟨s1, e1⟩ := Stp.wide m eh s
  q _ H' v s1 (mo _ _ _ e1 p)⟩
theorem JV.toD (h : JV X σ e G v) (p : Dx G v d) : JD X σ e G d := ⟨fun H eh Q q => h H eh Q fun H' e1 => q G H' v (.flat eh e1) p⟩
theorem JV.toP {P : Hp → V → Prop} (h : JV X σ e G v) (p : P G v) : JP X σ e G P := ⟨fun H eh Q q => h H eh Q fun H' e1 => q G H' v (.flat eh e1) p⟩
theorem JD.toP (h : JD X σ e G d) : JP X σ e G (fun G v => Dx G v d) := ⟨h.run⟩
theorem JP.toD (h : JP X σ e G (fun G v => Dx G v d)) : JD X σ e G d := ⟨h.run⟩
theorem JD.toI (h : JD X σ e G (.int i)) : JV X σ e G (.int i) := ⟨fun H eh Q q => h H eh Q fun _ H' v s p => by
  cases p.int_inv
  exact q H' s.h⟩
theorem JD.toB {t : Bool} (h : JD X σ e G (.bool t)) : JV X σ e G (.bl t) := ⟨fun H eh Q q => h H eh Q fun _ H' v s p => by
  cases p.bl_inv
  exact q H' s.h⟩
theorem JD.toS (h : JD X σ e G (.str x)) : JV X σ e G (.str x) := ⟨fun H eh Q q => h H eh Q fun _ H' v s p => by
  cases p.str_inv
  exact q H' s.h⟩
theorem JV.is (h : JV X σ e G u) (q : u = v) : JV X σ e G v := q ▸ h
theorem JD.is (h : JD X σ e G d1) (q : d1 = d) : JD X σ e G d := q ▸ h
theorem JT.is {p q : Bool} (h : JT X σ e G p) (r : p = q) : JT X σ e G q := r ▸ h

/-! ### names and constants -/
theorem jv_var (n : Nat) (hs : σ[n]? = some (some v)) (hN : X.N[n]? = some x) (hv : Vis X.env.scope x) (hd : (x == ("__debug__" : Str)) = false) (hcd : (x == ("__classdict__" : Str)) = false) : JV X σ (.Name x pos) G v := ⟨fun H _ Q q => ⟨_, pe_var hN hv hd hcd, v, hs, q H (Ex.refl H)⟩⟩
theorem jv_int {j : Nat} : JV X σ (.Constant (.int i) j pos) G (.int i) := ⟨fun H _ Q q => ⟨_, pe_int, q H (Ex.refl H)⟩⟩
theorem jv_bl {t : Bool} {j : Nat} : JV X σ (.Constant (.bool t) j pos) G (.bl t) := ⟨fun H _ Q q => ⟨_, pe_bl, q H (Ex.refl H)⟩⟩
theorem jv_str {j : Nat} : JV X σ (.Constant (.str x) j pos) G (.str x) := ⟨fun H _ Q q => ⟨_, pe_str, q H (Ex.refl H)⟩⟩
theorem jv_non {j : Nat} : JV X σ (.Constant .none j pos) G .non := ⟨fun H _ Q q => ⟨_, pe_non, q H (Ex.refl H)⟩⟩
theorem jv_glob {u : Value} (hg : Gl X x) (hm : X.mg x = some u) (r : RelV v u) (hd : (x == ("__debug__" : Str)) = false) : JV X σ (.Name x pos) G v := ⟨fun H _ Q q => ⟨_, pe_glob hg hm r hd, q H (Ex.refl H)⟩⟩
theorem jv_bltn {u : Value} (hg : Gl X x) (hm : X.mg x = none) (hv : bootBuiltins x = some u) (r : RelV v u) (hn : x ≠ "__name__") (hd : (x == ("__debug__" : Str)) = false) : JV X σ (.Name x pos) G v := ⟨fun H _ Q q => ⟨_, pe_bltn hg hm hv r hn hd, q H (Ex.refl H)⟩⟩

/-! ### operators -/
theorem jv_op {op : Operator} {r : R2} {y : V} (ho : OpR X (binaryOp op) r) (ha : JV X σ a G v) (hb : JV X σ b G u) (hr : ∀ H Q, Q y H → r v u H Q) : JV X σ (.BinOp a op b pos) G y := ⟨fun H eh Q q =>
  ⟨_, pe_op ho pe_w pe_w, ha H eh _ fun H1 e1 => hb H1 (eh.trans e1) _ fun H2 e2 => hr H2 Q (q H2 (e1.trans e2))⟩⟩
theorem jv_add (ha : JV X σ a G (.int i)) (hb : JV X σ b G (.int j)) : JV X σ (.BinOp a .Add b pos) G (.int (i + j)) := jv_op op_add ha hb fun H Q q => ⟨i, j, rfl, rfl, q⟩
theorem jv_sub (ha : JV X σ a G (.int i)) (hb : JV X σ b G (.int j)) : JV X σ (.BinOp a .Sub b pos) G (.int (i - j)) := jv_op op_sub ha hb fun H Q q => ⟨i, j, rfl, rfl, q⟩
theorem jv_mul (ha : JV X σ a G (.int i)) (hb : JV X σ b G (.int j)) (c : CMul i j) : JV X σ (.BinOp a .Mult b pos) G (.int (i * j)) := jv_op op_mul ha hb fun H Q q => ⟨i, j, rfl, rfl, c, q⟩
theorem jv_fdiv (ha : JV X σ a G (.int i)) (hb : JV X σ b G (.int j)) (c : CDiv i j) : JV X σ (.BinOp a .FloorDiv b pos) G (.int (i / j)) := jv_op op_fdiv ha hb fun H Q q => ⟨i, j, rfl, rfl, c, q⟩
theorem jv_mod (ha : JV X σ a G (.int i)) (hb : JV X σ b G (.int j)) (c : 0 < j) : JV X σ (.BinOp a .Mod b pos) G (.int (i % j)) := jv_op op_mod ha hb fun H Q q => ⟨i, j, rfl, rfl, c, q⟩
theorem jv_addS {y : Str} (ha : JV X σ a G (.str x)) (hb : JV X σ b G (.str y)) (c : x.length + y.length ≤ sizeLine) : JV X σ (.BinOp a .Add b pos) G (.str (x ++ y)) := jv_op op_add_str ha hb fun H Q q => ⟨x, y, rfl, rfl, c, q⟩
theorem jv_neg (ha : JV X σ a G (.int i)) : JV X σ (.UnaryOp .USub a pos) G (.int (-i)) := ⟨fun H eh Q q => ⟨_, pe_un un_neg pe_w, ha H eh _ fun H1 e1 => ⟨i, rfl, q H1 e1⟩⟩⟩
theorem jv_band (ha : JV X σ a G (.int i)) (hb : JV X σ b G (.int j)) : JV X σ (.BinOp a .BitAnd b pos) G (.int (Builtin.bitAnd i j)) := jv_op op_and ha hb fun H Q q => ⟨i, j, rfl, rfl, q⟩

/-! ### comparisons -/
theorem jo_of {op : CmpOp} {r : R2} {y : V} (ho : OpR X (compareOp op) r) (ha : JV X σ a G v) (hb : JV X σ b G u) (hr : ∀ H Q, Q y H → r v u H Q) : JO X σ op a b G y := ⟨r, ho, fun H eh Q q =>
  ha H eh _ fun H1 e1 => hb H1 (eh.trans e1) _ fun H2 e2 => hr H2 Q (q H2 (e1.trans e2))⟩
theorem jo_ofD {op : CmpOp} {r : R2} {y : V} (ho : OpR X (compareOp op) r) (ha : JD X σ a G d1) (hb : JD X σ b G d2) (hr : ∀ H v u Q, Dp X.K H v d1 → Dp X.K H u d2 → Q y H → r v u H Q) : JO X σ op a b G y := ⟨r, ho, fun H eh Q q =>
  ha H eh _ fun G1 H1 v s1 p1 => (hb.mono s1.g) H1 s1.gh _ fun G2 H2 u s2 p2 => hr H2 v u Q (p1.mono (s2.g.trans s2.gh)).dp (p2.mono s2.gh).dp (q H2 (s1.h.trans s2.h))⟩
theorem jo_eqI (ha : JV X σ a G (.int i)) (hb : JV X σ b G (.int j)) : JO X σ .Eq a b G (.bl (decide (i = j))) := jo_of op_eq ha hb fun H Q q => ⟨rfl, by
  have e : decide (V.int i = V.int j) = decide (i = j) := by by_cases h : i = j <;> simp [h]
  rw [e]; exact q⟩
theorem jo_neI (ha : JV X σ a G (.int i)) (hb : JV X σ b G (.int j)) : JO X σ .NotEq a b G (.bl (!decide (i = j))) := jo_of op_ne ha hb fun H Q q => ⟨rfl, by
  have e : decide (V.int i = V.int j) = decide (i = j) := by by_cases h : i = j <;> simp [h]
  rw [e]; exact q⟩
theorem jo_eqV (ha : JV X σ a G v) (hb : JV X σ b G u) (h : scal v u = true) : JO X σ .Eq a b G (.bl (decide (v = u))) := jo_of op_eq ha hb fun H Q q => ⟨h, q⟩
theorem jo_neV (ha : JV X σ a G v) (hb : JV X σ b G u) (h : scal v u = true) : JO X σ .NotEq a b G (.bl (!decide (v = u))) := jo_of op_ne ha hb fun H Q q => ⟨h, q⟩
theorem jo_lt (ha : JV X σ a G (.int i)) (hb : JV X σ b G (.int j)) : JO X σ .Lt a b G (.bl (decide (i < j))) := jo_of op_lt ha hb fun H Q q => ⟨i, j, rfl, rfl, q⟩
theorem jo_le (ha : JV X σ a G (.int i)) (hb : JV X σ b G (.int j)) : JO X σ .LtE a b G (.bl (decide (i ≤ j))) := jo_of op_le ha hb fun H Q q => ⟨i, j, rfl, rfl, q⟩
theorem jo_gt (ha : JV X σ a G (.int i)) (hb : JV X σ b G (.int j)) : JO X σ .Gt a b G (.bl (decide (j < i))) := jo_of op_gt ha hb fun H Q q => ⟨i, j, rfl, rfl, q⟩
theorem jo_ge (ha : JV X σ a G (.int i)) (hb : JV X σ b G (.int j)) : JO X σ .GtE a b G (.bl (decide (j ≤ i))) := jo_of op_ge ha hb fun H Q q => ⟨i, j, rfl, rfl, q⟩
theorem jo_eqD (hu : X.A.units + 64 < cLine) (ha : JD X σ a G d1) (hb : JD X σ b G d2) (s1 : SeqAt.shaped d1 = true) (s2 : SeqAt.shaped d2 = true) : JO X σ .Eq a b G (.bl (PyData.eqv d1 d2)) :=
  jo_ofD (op_eqD hu) ha hb fun H v u Q h1 h2 q => ⟨d1, d2, h1, h2, s1, s2, q⟩
theorem jo_neD (hu : X.A.units + 64 < cLine) (ha : JD X σ a G d1) (hb : JD X σ b G d2) (s1 : SeqAt.shaped d1 = true) (s2 : SeqAt.shaped d2 = true) : JO X σ .NotEq a b G (.bl (!PyData.eqv d1 d2)) :=
  jo_ofD (op_neD hu) ha hb fun H v u Q h1 h2 q => ⟨d1, d2, h1, h2, s1, s2, q⟩
theorem jo_inD {ds : List PyData} (hu : X.A.units + 65 < cLine) (ha : JD X σ a G d1) (hb : JD X σ b G (.list ds)) (s1 : SeqAt.shaped d1 = true) (s2 : SeqAt.shaped (.list ds) = true) : JO X σ .In a b G (.bl (ds.any fun z => PyData.eqv z d1)) :=
  jo_ofD (op_inD hu) ha hb fun H v u Q h1 h2 q => ⟨d1, ds, h1, h2, s1, s2, q⟩
theorem jo_niD {ds : List PyData} (hu : X.A.units + 65 < cLine) (ha : JD X σ a G d1) (hb : JD X σ b G (.list ds)) (s1 : SeqAt.shaped d1 = true) (s2 : SeqAt.shaped (.list ds) = true) : JO X σ .NotIn a b G (.bl (!ds.any fun z => PyData.eqv z d1)) :=
  jo_ofD (op_notInD hu) ha hb fun H v u Q h1 h2 q => ⟨d1, ds, h1, h2, s1, s2, q⟩
theorem jo_isN (ha : JV X σ a G v) {n : Nat} {p : Pos} : JO X σ .Is a (.Constant .none n p) G (.bl (decide (v = .non))) := jo_of op_isN ha jv_non fun H Q q => ⟨rfl, q⟩
theorem jo_notN (ha : JV X σ a G v) {n : Nat} {p : Pos} : JO X σ .IsNot a (.Constant .none n p) G (.bl (!decide (v = .non))) := jo_of op_notN ha jv_non fun H Q q => ⟨rfl, q⟩
theorem jo_isB {s t : Bool} (ha : JV X σ a G (.bl s)) (hb : JV X σ b G (.bl t)) : JO X σ .Is a b G (.bl (decide (s = t))) := jo_of op_isBl ha hb fun H Q q => ⟨s, t, rfl, rfl, q⟩
theorem jv_cmp {op : CmpOp} (h : JO X σ op a b G v) (hm : behindInMarks op b = false) : JV X σ (.Compare a [op] [b] pos) G v := ⟨fun H eh Q q =>
  let ⟨_, ho, h⟩ := h
  ⟨_, pe_cmpR ho pe_w pe_w hm, h H eh Q q⟩⟩
theorem jt_cmp {op : CmpOp} {t : Bool} (h : JO X σ op a b G (.bl t)) (hm : behindInMarks op b = false) : JT X σ (.Compare a [op] [b] pos) G t := ⟨fun H eh Q q =>
  let ⟨_, ho, h⟩ := h
  ⟨_, pt_cmpR ho pe_w pe_w hm, h H eh _ fun H' e' => ⟨t, rfl, q H' e'⟩⟩⟩
theorem jv_chain {op op' : CmpOp} {g g' : Int → Int → Bool} (ho : OpR X (compareOp op) (rI0 fun i j => .bl (g i j))) (ho' : OpR X (compareOp op') (rI0 fun i j => .bl (g' i j))) (ha : JV X σ a G (.int i)) (hb : JV X σ b G (.int j)) (hc : JV X σ c G (.int k))
    (hm : lastMarks [op, op'] [b, c] = false) : JV X σ (.Compare a [op, op'] [b, c] pos) G (.bl (g i j && g' j k)) := ⟨fun H eh Q q =>
  ⟨_, pe_chain ho ho' pe_w pe_w pe_w hm, ha H eh _ fun H1 e1 => hb H1 (eh.trans e1) _ fun H2 e2 => ⟨i, j, rfl, rfl, g i j, rfl, by
    cases h : g i j with
    | true =>
      rw [if_pos rfl]
      refine hc H2 ((eh.trans e1).trans e2) _ fun H3 e3 => ⟨j, k, rfl, rfl, ?_⟩
      have := q H3 ((e1.trans e2).trans e3)
      rw [h] at this
      exact this
    | false =>
      rw [if_neg Bool.false_ne_true]
      have := q H2 (e1.trans e2)
      rw [h] at this
      exact this⟩⟩⟩
theorem jt_chain {op op' : CmpOp} {g g' : Int → Int → Bool} (ho : OpR X (compareOp op) (rI0 fun i j => .bl (g i j))) (ho' : OpR X (compareOp op') (rI0 fun i j => .bl (g' i j))) (ha : JV X σ a G (.int i)) (hb : JV X σ b G (.int j)) (hc : JV X σ c G (.int k))
    (hm : lastMarks [op, op'] [b, c] = false) : JT X σ (.Compare a [op, op'] [b, c] pos) G (g i j && g' j k) := ⟨fun H eh Q q =>
  ⟨_, pt_chain ho ho' pe_w pe_w pe_w hm, ha H eh _ fun H1 e1 => hb H1 (eh.trans e1) _ fun H2 e2 => ⟨i, j, rfl, rfl, g i j, rfl, by
    cases h : g i j with
    | true =>
      rw [if_pos rfl]
      refine hc H2 ((eh.trans e1).trans e2) _ fun H3 e3 => ⟨j, k, rfl, rfl, _, rfl, ?_⟩
      have := q H3 ((e1.trans e2).trans e3)
      rw [h] at this
      exact this
    | false =>
      rw [if_neg Bool.false_ne_true]
      have := q H2 (e1.trans e2)
      rw [h] at this
      exact ⟨_, rfl, this⟩⟩⟩⟩

/-! ### and, or, not, if -/
theorem jv_one {op : BoolOp} (h : JV X σ a G v) : JV X σ (.BoolOp op [a] pos) G v := ⟨fun H eh Q q => ⟨_, pe_one pe_w, h H eh Q q⟩⟩
theorem jv_and {p t : Bool} (ha : JV X σ a G (.bl p)) (hb : p = true → JV X σ (.BoolOp .And (b :: es) pos) G (.bl t)) : JV X σ (.BoolOp .And (a :: b :: es) pos) G (.bl (p && t)) := ⟨fun H eh Q q => ⟨_, pe_and pe_w pe_w, ha H eh _ fun H1 e1 => ⟨p, rfl, by
  cases p with
  | true => rw [if_pos rfl]; exact hb rfl H1 (eh.trans e1) Q fun H2 e2 => q H2 (e1.trans e2)
  | false => rw [if_neg Bool.false_ne_true]; exact q H1 e1⟩⟩⟩
theorem jv_or {p t : Bool} (ha : JV X σ a G (.bl p)) (hb : p = false → JV X σ (.BoolOp .Or (b :: es) pos) G (.bl t)) : JV X σ (.BoolOp .Or (a :: b :: es) pos) G (.bl (p || t)) := ⟨fun H eh Q q => ⟨_, pe_or pe_w pe_w, ha H eh _ fun H1 e1 => ⟨p, rfl, by
  cases p with
  | false => rw [if_neg Bool.false_ne_true]; exact hb rfl H1 (eh.trans e1) Q fun H2 e2 => q H2 (e1.trans e2)
  | true => rw [if_pos rfl]; exact q H1 e1⟩⟩⟩
theorem jv_not {p : Bool} (h : JV X σ a G (.bl p)) : JV X σ (.UnaryOp .Not a pos) G (.bl (!p)) := ⟨fun H eh Q q => ⟨_, pe_not pe_w, h H eh _ fun H1 e1 => ⟨p, rfl, q H1 e1⟩⟩⟩
theorem jw_one_and {p : Bool} (h : JT X σ a G p) : JW X σ (.BoolOp .And [a] pos) G p := ⟨fun H eh Q q => ⟨_, pw_and1 pt_w, h H eh Q q⟩⟩
theorem jw_one_or {p : Bool} (h : JT X σ a G p) : JW X σ (.BoolOp .Or [a] pos) G p := ⟨fun H eh Q q => ⟨_, pw_or1 pt_w, h H eh Q q⟩⟩
theorem jw_and {p t : Bool} (ha : JT X σ a G p) (hb : p = true → JW X σ (.BoolOp .And (b :: es) pos) G t) : JW X σ (.BoolOp .And (a :: b :: es) pos) G (p && t) := ⟨fun H eh Q q => ⟨_, pw_and pt_w pw_w, ha H eh _ fun H1 e1 => by
  cases p with
  | true => rw [if_pos rfl]; exact hb rfl H1 (eh.trans e1) Q fun H2 e2 => q H2 (e1.trans e2)
  | false => rw [if_neg Bool.false_ne_true]; exact q H1 e1⟩⟩
theorem jw_or {p t : Bool} (ha : JT X σ a G p) (hb : p = false → JW X σ (.BoolOp .Or (b :: es) pos) G t) : JW X σ (.BoolOp .Or (a :: b :: es) pos) G (p || t) := ⟨fun H eh Q q => ⟨_, pw_or pt_w pw_w, ha H eh _ fun H1 e1 => by
  cases p with
  | false => rw [if_neg Bool.false_ne_true]; exact hb rfl H1 (eh.trans e1) Q fun H2 e2 => q H2 (e1.trans e2)
  | true => rw [if_pos rfl]; exact q H1 e1⟩⟩
theorem jt_w {p : Bool} (h : JW X σ e G p) : JT X σ e G p := ⟨fun H eh Q q => ⟨_, pw_w.pt, h H eh Q q⟩⟩
theorem jt_not {p : Bool} (h : JT X σ a G p) : JT X σ (.UnaryOp .Not a pos) G (!p) := ⟨fun H eh Q q => ⟨_, pt_not pt_w, h H eh _ fun H1 e1 => q H1 e1⟩⟩
theorem jt_val {p : Bool} (h : JV X σ e G (.bl p)) (he : ∀ whole, isTrue e X.env whole = (do let v ← whole; standAt e.pos; holding [v] (truthy v))) : JT X σ e G p := ⟨fun H eh Q q => ⟨_, pt_val pe_w he, h H eh _ fun H1 e1 => ⟨p, rfl, q H1 e1⟩⟩⟩
theorem jv_ifE {p : Bool} (hc : JT X σ c G p) (ha : p = true → JV X σ a G v) (hb : p = false → JV X σ b G v) : JV X σ (.IfExp c a b pos) G v := ⟨fun H eh Q q => ⟨_, pe_ifExp pt_w pe_w pe_w, hc H eh _ fun H1 e1 => by
  cases p with
  | true => rw [if_pos rfl]; exact ha rfl H1 (eh.trans e1) Q fun H2 e2 => q H2 (e1.trans e2)
  | false => rw [if_neg Bool.false_ne_true]; exact hb rfl H1 (eh.trans e1) Q fun H2 e2 => q H2 (e1.trans e2)⟩⟩
theorem jd_ifE {p : Bool} (hc : JT X σ c G p) (ha : p = true → JD X σ a G d) (hb : p = false → JD X σ b G d) : JD X σ (.IfExp c a b pos) G d := ⟨fun H eh Q q => ⟨_, pe_ifExp pt_w pe_w pe_w, hc H eh _ fun H1 e1 => by
  cases p with
  | true => rw [if_pos rfl]; exact ha rfl H1 (eh.trans e1) Q fun G2 H2 v s p => q G2 H2 v ((Stp.flat eh e1).trans s) p
  | false => rw [if_neg Bool.false_ne_true]; exact hb rfl H1 (eh.trans e1) Q fun G2 H2 v s p => q G2 H2 v ((Stp.flat eh e1).trans s) p⟩⟩

/-! ### argument lists, displays -/
theorem ja_nil : JA X σ [] G (fun _ vs => vs = []) := ⟨fun H eh Q q => ⟨_, pa_nil, q G H [] (.refl eh) rfl⟩⟩
/-- arguments by what is true of each -/
def Al (G : Hp) : List (Hp → V → Prop) → List V → Prop
  | [], [] => True
  | P :: Ps, v :: vs => P G v ∧ Al G Ps vs
  | _, _ => False
theorem jal_nil : JA X σ [] G (fun G vs => Al G [] vs) := ⟨fun H eh Q q => ⟨_, pa_nil, q G H [] (.refl eh) trivial⟩⟩
theorem jal_cons {P : Hp → V → Prop} {Ps : List (Hp → V → Prop)} (he : JP X σ e G P) (mo : Mo P) (hr : ∀ G1, Ex G G1 → JA X σ es G1 (fun G vs => Al G Ps vs))
    (hs : NoStar e) : JA X σ (e :: es) G (fun G vs => Al G (P :: Ps) vs) := ⟨fun H eh Q q =>
  ⟨_, pa_cons pe_w pa_w (hs _ _), he H eh _ fun G1 H1 v s1 p1 => hr G1 s1.g H1 s1.gh _ fun G2 H2 vs s2 p2 => q G2 H2 (v :: vs) (s1.trans s2) ⟨mo _ _ _ s2.g p1, p2⟩⟩⟩
theorem jad_nil : JA X σ [] G (fun G vs => DxAll G vs []) := ⟨fun H eh Q q => ⟨_, pa_nil, q G H [] (.refl eh) .nil⟩⟩
theorem JA.monoD {ds : List PyData} (m : Ex G G1) (h : JA X σ es G (fun G vs => DxAll G vs ds)) : JA X σ es G1 (fun G vs => DxAll G vs ds) := ⟨fun H eh Q q => h H (m.trans eh) Q fun G' H' v s p =>
  let ⟨s1, e1⟩ := Stp.wide m eh s
  q _ H' v s1 (p.mono e1)⟩
theorem jad_cons {ds : List PyData} (he : JD X σ e G d) (hr : JA X σ es G (fun G vs => DxAll G vs ds))
    (hs : NoStar e) : JA X σ (e :: es) G (fun G vs => DxAll G vs (d :: ds)) := ⟨fun H eh Q q =>
  ⟨_, pa_cons pe_w pa_w (hs _ _), he H eh _ fun G1 H1 v s1 p1 => (hr.monoD s1.g) H1 s1.gh _ fun G2 H2 vs s2 p2 => q G2 H2 (v :: vs) (s1.trans s2) (.cons (p1.mono s2.g) p2)⟩⟩
theorem jd_list {ds : List PyData} (h : JA X σ es G (fun G vs => DxAll G vs ds)) (hl : ds.length ≤ sizeLine) : JD X σ (.List es pos) G (.list ds) := ⟨fun H eh Q q =>
  ⟨_, pe_lst pa_w, h H eh _ fun G1 H1 vs s1 p1 => ⟨by rw [p1.length]; exact hl, fun p hp => q _ _ _ (s1.trans (Stp.new s1.gh hp)) (.lst upd_same (p1.mono (Ex.new (Evl.fresh_back s1.gh hp))))⟩⟩⟩
theorem jd_tuple {ds : List PyData} {ctx} (h : JA X σ es G (fun G vs => DxAll G vs ds)) (hl : ds.length ≤ sizeLine) : JD X σ (.Tuple es ctx pos) G (.tuple ds) := ⟨fun H eh Q q =>
  ⟨_, pe_tup pa_w, h H eh _ fun G1 H1 vs s1 p1 => ⟨by rw [p1.length]; exact hl, fun p hp => q _ _ _ (s1.trans (Stp.new s1.gh hp)) (.tup upd_same (p1.mono (Ex.new (Evl.fresh_back s1.gh hp))))⟩⟩⟩

/-! ### items, slices -/
theorem atI_map {α β : Type} (f : α → β) (xs : List α) (i : Int) : atI (xs.map f) i = (atI xs i).map f := by
  unfold atI
  rw [List.length_map]
  cases ixN xs.length i with
  | none => rfl
  | some n => simp
theorem DxAll.atI {H : Hp} {vs : List V} {ds : List PyData} {i : Int} {d : PyData} (h : DxAll H vs ds) (q : atI ds i = some d) : ∃ v, L2.atI vs i = some v ∧ Dx H v d := by
  unfold L2.atI at q ⊢
  rw [h.length]
  cases e : ixN ds.length i with
  | none => rw [e] at q; cases q
  | some n =>
    rw [e] at q
    exact h.get (i := n) q
theorem jd_ix {ds : List PyData} (ha : JD X σ a G (.list ds)) (hb : JV X σ b G (.int i)) (h : atI ds i = some d) (hs : PlainIx b) : JD X σ (.Subscript a b pos) G d := ⟨fun H eh Q q =>
  ⟨_, pe_ix ix_list pe_w pe_w hs, ha H eh _ fun G1 H1 x s1 p1 => (hb.mono s1.g) H1 s1.gh _ fun H2 e2 => by
    cases p1 with
    | lst hl hd =>
      obtain ⟨v, h1, h2⟩ := DxAll.atI hd h
      exact ⟨_, _, i, v, rfl, rfl, SqL.of ((s1.gh.trans e2) _ _ hl), h1, q G1 H2 v (s1.trans (.flat s1.gh e2)) h2⟩⟩⟩
theorem jd_ixT {ds : List PyData} (ha : JD X σ a G (.tuple ds)) (hb : JV X σ b G (.int i)) (h : atI ds i = some d) (hs : PlainIx b) : JD X σ (.Subscript a b pos) G d := ⟨fun H eh Q q =>
  ⟨_, pe_ix ix_tup pe_w pe_w hs, ha H eh _ fun G1 H1 x s1 p1 => (hb.mono s1.g) H1 s1.gh _ fun H2 e2 => by
    cases p1 with
    | tup hl hd =>
      obtain ⟨v, h1, h2⟩ := DxAll.atI hd h
      exact ⟨_, _, i, v, rfl, rfl, SqT.of ((s1.gh.trans e2) _ _ hl), h1, q G1 H2 v (s1.trans (.flat s1.gh e2)) h2⟩⟩⟩

/-! ### built-in functions -/
theorem jv_len {ds : List PyData} {p : Pos} (hm : X.mg "len" = none) (ha : JD X σ a G (.list ds)) (hg : Gl X "len") (he : NoStar a) : JV X σ (.Call (.Name "len" p) [a] [] pos) G (.int ds.length) := ⟨fun H eh Q q =>
  ⟨_, pe_callB call_len_seq hg hm PySem.boot_len (pa_cons pe_w pa_nil (he _ _)) (he := he _ _), ha H eh _ fun G1 H1 x s1 p1 => by
    cases p1 with
    | lst hl hd => exact ⟨_, _, rfl, .inl (SqL.of (s1.gh _ _ hl)), by rw [hd.length]; exact q H1 s1.h⟩⟩⟩
theorem jv_lenT {ds : List PyData} {p : Pos} (hm : X.mg "len" = none) (ha : JD X σ a G (.tuple ds)) (hg : Gl X "len") (he : NoStar a) : JV X σ (.Call (.Name "len" p) [a] [] pos) G (.int ds.length) := ⟨fun H eh Q q =>
  ⟨_, pe_callB call_len_seq hg hm PySem.boot_len (pa_cons pe_w pa_nil (he _ _)) (he := he _ _), ha H eh _ fun G1 H1 x s1 p1 => by
    cases p1 with
    | tup hl hd => exact ⟨_, _, rfl, .inr (SqT.of (s1.gh _ _ hl)), by rw [hd.length]; exact q H1 s1.h⟩⟩⟩
theorem jv_all {bs : List Bool} {p : Pos} (hc : X.calm = true) (hm : X.mg "all" = none) (ha : JD X σ a G (.list (bs.map .bool))) (hg : Gl X "all") (hb : bootBuiltins "all" = some (.builtin "all")) (he : NoStar a) : JV X σ (.Call (.Name "all" p) [a] [] pos) G (.bl (bs.all id)) := ⟨fun H eh Q q =>
  ⟨_, pe_callB (cr_all hc) hg hm hb (pa_cons pe_w pa_nil (he _ _)) (he := he _ _), ha H eh _ fun G1 H1 x s1 p1 => by
    cases p1 with
    | lst hl hd =>
      cases hd.bls
      exact ⟨_, bs, rfl, SqL.of (s1.gh _ _ hl), q H1 s1.h⟩⟩⟩
theorem jv_any {bs : List Bool} {p : Pos} (hc : X.calm = true) (hm : X.mg "any" = none) (ha : JD X σ a G (.list (bs.map .bool))) (hg : Gl X "any") (hb : bootBuiltins "any" = some (.builtin "any")) (he : NoStar a) : JV X σ (.Call (.Name "any" p) [a] [] pos) G (.bl (bs.any id)) := ⟨fun H eh Q q =>
  ⟨_, pe_callB (cr_any hc) hg hm hb (pa_cons pe_w pa_nil (he _ _)) (he := he _ _), ha H eh _ fun G1 H1 x s1 p1 => by
    cases p1 with
    | lst hl hd =>
      cases hd.bls
      exact ⟨_, bs, rfl, SqL.of (s1.gh _ _ hl), q H1 s1.h⟩⟩⟩
/-- list(xs): a copy -/
theorem jd_listOf {ds : List PyData} {p : Pos} (hm : X.mg "list" = none) (ha : JD X σ a G (.list ds)) (hg : Gl X "list") (hb : bootBuiltins "list" = some (.type "list")) (he : NoStar a) : JD X σ (.Call (.Name "list" p) [a] [] pos) G (.list ds) := ⟨fun H eh Q q =>
  ⟨_, pe_callTy call_list_of hg hm hb (pa_cons pe_w pa_nil (he _ _)) (he := he _ _), ha H eh _ fun G1 H1 x s1 p1 => by
    cases p1 with
    | lst hl hd => exact ⟨_, _, rfl, .inl (SqL.of (s1.gh _ _ hl)), fun l hn => q _ _ _ (s1.trans (Stp.new s1.gh hn)) (.lst upd_same (hd.mono (Ex.new (Evl.fresh_back s1.gh hn))))⟩⟩⟩
/-- list(a tuple) -/
theorem jd_listT {ds : List PyData} {p : Pos} (hm : X.mg "list" = none) (ha : JD X σ a G (.tuple ds)) (hg : Gl X "list") (hb : bootBuiltins "list" = some (.type "list")) (he : NoStar a) : JD X σ (.Call (.Name "list" p) [a] [] pos) G (.list ds) := ⟨fun H eh Q q =>
  ⟨_, pe_callTy call_list_of hg hm hb (pa_cons pe_w pa_nil (he _ _)) (he := he _ _), ha H eh _ fun G1 H1 x s1 p1 => by
    cases p1 with
    | tup hl hd => exact ⟨_, _, rfl, .inr (SqT.of (s1.gh _ _ hl)), fun l hn => q _ _ _ (s1.trans (Stp.new s1.gh hn)) (.lst upd_same (hd.mono (Ex.new (Evl.fresh_back s1.gh hn))))⟩⟩⟩
end
end TP

set_option Elab.async false
set_option linter.all false
set_option maxRecDepth 100000
set_option maxHeartbeats 1000000
namespace TP
open PySem PySem.Spec PyProof.Rows L2
open Evl (Ex)

/-! ### what a for walks, over what is fixed -/
def WalkD (J : It) (G1 : Hp) (ds : List PyData) : Prop := Walk J ds.length (fun H => Ex G1 H) (fun i H x H' => H' = H ∧ ∃ d, ds[i]? = some d ∧ Dx G1 x d)
structure JI (X : Cx) (σ : L2.St) (tg iter : Expr) (G : Hp) (ds : List PyData) : Prop where
  run : ∀ H, Ex G H → ∀ R : It → Hp → Prop, (∀ G1 H1 J, Stp G H G1 H1 → WalkD J G1 ds → R J H1) → ∃ wi, PI X tg iter wi ∧ wi σ H R
instance {X : Cx} {σ : L2.St} {tg iter : Expr} {G : Hp} {ds : List PyData} : CoeFun (JI X σ tg iter G ds) (fun _ => ∀ H, Ex G H → ∀ R : It → Hp → Prop, (∀ G1 H1 J, Stp G H G1 H1 → WalkD J G1 ds → R J H1) → ∃ wi, PI X tg iter wi ∧ wi σ H R) := ⟨fun h => h.run⟩
section
variable {X : Cx} {σ : L2.St} {e a b c tg iter : Expr} {es : List Expr} {G G1 : Hp} {v u : V} {d d1 d2 : PyData} {pos : Pos} {i j k : Int} {x : Str} {ds : List PyData}
theorem JI.is {ds' : List PyData} (h : JI X σ tg iter G ds) (q : ds = ds') : JI X σ tg iter G ds' := q ▸ h
theorem ji_list (h : JD X σ iter G (.list ds)) : JI X σ tg iter G ds := ⟨fun H eh R q => ⟨_, pi_list pe_w, h H eh _ fun G1 H1 v s p => by
  cases p with
  | @lst a xs _ hl hd =>
    refine ⟨a, rfl, ⟨xs, SqL.of (s.gh _ _ hl)⟩, q G1 H1 _ s ?_⟩
    have w : Walk (Itl X.K a) xs.length (fun H => SqL X.K H a xs) (YAt xs) := walk_list
    unfold WalkD
    rw [← hd.length]
    refine w.mono (fun H e => SqL.of (e _ _ hl)) fun i H x H' hi e y => ?_
    obtain ⟨d, h1, h2⟩ := hd.back y.2
    exact ⟨y.1, d, h1, h2⟩⟩⟩
theorem ji_tup (h : JD X σ iter G (.tuple ds)) : JI X σ tg iter G ds := ⟨fun H eh R q => ⟨_, pi_tup pe_w, h H eh _ fun G1 H1 v s p => by
  cases p with
  | @tup a xs _ hl hd =>
    refine ⟨a, rfl, ⟨xs, SqT.of (s.gh _ _ hl)⟩, q G1 H1 _ s ?_⟩
    have w : Walk (Itt X.K a) xs.length (fun H => SqT X.K H a xs) (YAt xs) := walk_tup
    unfold WalkD
    rw [← hd.length]
    refine w.mono (fun H e => SqT.of (e _ _ hl)) fun i H x H' hi e y => ?_
    obtain ⟨d, h1, h2⟩ := hd.back y.2
    exact ⟨y.1, d, h1, h2⟩⟩⟩
theorem ji_range1 {n : Nat} {p : Pos} (hm : X.mg "range" = none) (h : JV X σ a G (.int n)) (hn : n < 2 ^ 62) (hg : Gl X "range") (he : NoStar a) :
    JI X σ tg (.Call (.Name "range" p) [a] [] pos) G ((List.range n).map fun i => .int (i : Nat)) := ⟨fun H eh R q => ⟨_, pi_range1 hg hm (pa_cons pe_w pa_nil (he _ _)) (he _ _), h H eh _ fun H1 e1 => by
  refine ⟨(n : Int), rfl, by omega, by omega, q G H1 _ (.flat eh e1) ?_⟩
  have w : Walk (Itr 0 (n : Int).toNat) (n : Int).toNat (fun _ => True) (YFn fun i => .int (0 + i)) := walk_range
  unfold WalkD
  rw [List.length_map, List.length_range]
  have e2 : (n : Int).toNat = n := rfl
  rw [e2] at w ⊢
  refine w.mono (fun _ _ => trivial) fun i H x H' hi e y => ⟨y.1, .int (i : Nat), by simp [hi], ?_⟩
  rw [y.2]
  show Dx G (V.int (0 + (i : Int))) _
  rw [Int.zero_add]
  exact .int _⟩⟩
theorem ji_range2 {p : Pos} (hm : X.mg "range" = none) (h1 : JV X σ a G (.int i)) (h2 : JV X σ b G (.int j)) (hi : -1000000 ≤ i ∧ i ≤ 1000000) (hj : -1000000 ≤ j ∧ j ≤ 1000000) (hg : Gl X "range") (he : NoStar a) (hf : NoStar b) :
    JI X σ tg (.Call (.Name "range" p) [a, b] [] pos) G ((List.range (j - i).toNat).map fun k => .int (i + (k : Nat))) := ⟨fun H eh R q =>
  ⟨_, pi_range2 hg hm (pa_cons pe_w (pa_cons pe_w pa_nil (hf _ _)) (he _ _)) ((he _ _).trans (by rw [hf] <;> rfl)) (hf _ _), h1 H eh _ fun H1 e1 => h2 H1 (eh.trans e1) _ fun H2 e2 => by
  refine ⟨i, j, rfl, ⟨by omega, by omega, by omega, by omega⟩, q G H2 _ (.flat eh (e1.trans e2)) ?_⟩
  have w : Walk (Itr i (j - i).toNat) (j - i).toNat (fun _ => True) (YFn fun k => .int (i + k)) := walk_range
  unfold WalkD
  rw [List.length_map, List.length_range]
  refine w.mono (fun _ _ => trivial) fun k H x H' hi e y => ⟨y.1, .int (i + (k : Nat)), by simp [hi], ?_⟩
  rw [y.2]
  exact .int _⟩⟩

/-! ### targets -/
theorem wg_name {n : Nat} {p : Pos} {v : V} {σ : L2.St} {H : Hp} {Q : L2.St → Hp → Prop} (hN : X.N.Nodup) (hi : X.N[n]? = some x) (hx : Loc X.env.scope x) (hf : X.fn x = true ∨ X.env.scope.names.lookup x = some .local) (q : Q (σ.set n (some v)) H) :
    wG X (.Name x p) v σ H Q := ⟨_, pg_name hN hi hx hf, q⟩
theorem pg_w : PG X tg (wG X tg) := ⟨fun pins s σ H v u Q I r ⟨_, h, q⟩ => h.run pins s σ H v u Q I r q⟩
/-- a pair of two names -/
theorem wg_pair {n m : Nat} {p1 p2 p3 : Pos} {y : Str} {kk : Nat} {v1 v2 : V} {σ : L2.St} {H : Hp} {Q : L2.St → Hp → Prop} (hc : X.calm = true) (hN : X.N.Nodup) (hi : X.N[n]? = some x) (hx : Loc X.env.scope x) (hf : X.fn x = true ∨ X.env.scope.names.lookup x = some .local)
    (hj : X.N[m]? = some y) (hy : Loc X.env.scope y) (hg : X.fn y = true ∨ X.env.scope.names.lookup y = some .local) {t : Addr} (ht : SqT X.K H t [v1, v2]) (q : Q ((σ.set n (some v1)).set m (some v2)) H)
    (hn : (assignEach [.Name x p1, .Name y p2] X.env).length = 2) (hst : (assignEach [.Name x p1, .Name y p2] X.env).findIdx? (·.1) = none)
    (hs1 : (assignEach [.Name x p1, .Name y p2] X.env).map (·.2) = assign (.Name x p1) X.env :: (assignEach [.Name y p2] X.env).map (·.2)) (hs2 : (assignEach [.Name y p2] X.env).map (·.2) = assign (.Name y p2) X.env :: (assignEach [] X.env).map (·.2)) :
    wG X (.Tuple [.Name x p1, .Name y p2] kk p3) (.ref t) σ H Q :=
  ⟨_, pg_tup hc (pgs_cons (pg_name hN hi hx hf) (pgs_cons (pg_name hN hj hy hg) pgs_nil hs2) hs1) hn hst, t, [v1, v2], rfl, ht, rfl, v1, [v2], rfl, v2, [], rfl, rfl, q⟩

/-! ### statements, each ahead of the rest of its block -/
variable {st : Stmt} {rest body : List Stmt} {D : Ends} {G0 H0 H : Hp} {os : List (Addr × HO)}
theorem b_nil {H : Hp} (h : D.nx σ H) : wSs X [] D σ H := ⟨_, pss_nil, h⟩
theorem b_cons {H : Hp} (h : wS X st { D with nx := wSs X rest D } σ H) : wSs X (st :: rest) D σ H := ⟨_, pss_cons ps_w pss_w, h⟩
theorem b_setV {n : Nat} {p q : Pos} (h : Hs G0 H0 G H os) (he : JV X σ e G v) (hN : X.N.Nodup) (hi : X.N[n]? = some x) (hx : Loc X.env.scope x) (hs : swapsWith e (some (.Name x p)) q.line X.env = pure false) (hf : X.fn x = true ∨ X.env.scope.names.lookup x = some .local)
    (k : ∀ H', Hs G0 H0 G H' os → wSs X rest D (σ.set n (some v)) H') : wSs X (.Assign [.Name x p] e q :: rest) D σ H :=
  b_cons ⟨_, ps_set hN hi hx pe_w hs hf, he H h.ex _ fun H1 e1 => k H1 (h.flat e1)⟩
theorem b_setD {n : Nat} {p q : Pos} (h : Hs G0 H0 G H os) (he : JD X σ e G d) (hN : X.N.Nodup) (hi : X.N[n]? = some x) (hx : Loc X.env.scope x) (hs : swapsWith e (some (.Name x p)) q.line X.env = pure false) (hf : X.fn x = true ∨ X.env.scope.names.lookup x = some .local)
    (k : ∀ G' H' v, Hs G0 H0 G' H' os → Ex G G' → Dx G' v d → wSs X rest D (σ.set n (some v)) H') : wSs X (.Assign [.Name x p] e q :: rest) D σ H :=
  b_cons ⟨_, ps_set hN hi hx pe_w hs hf, he H h.ex _ fun G1 H1 v s p => k G1 H1 v (h.stp s) s.g p⟩
theorem b_setP {n : Nat} {p q : Pos} {P : Hp → V → Prop} (h : Hs G0 H0 G H os) (he : JP X σ e G P) (hN : X.N.Nodup) (hi : X.N[n]? = some x) (hx : Loc X.env.scope x) (hs : swapsWith e (some (.Name x p)) q.line X.env = pure false) (hf : X.fn x = true ∨ X.env.scope.names.lookup x = some .local)
    (k : ∀ G' H' v, Hs G0 H0 G' H' os → Ex G G' → P G' v → wSs X rest D (σ.set n (some v)) H') : wSs X (.Assign [.Name x p] e q :: rest) D σ H :=
  b_cons ⟨_, ps_set hN hi hx pe_w hs hf, he H h.ex _ fun G1 H1 v s p => k G1 H1 v (h.stp s) s.g p⟩
/-- x = []: a list of one's own -/
theorem b_setN {n : Nat} {p q r : Pos} (h : Hs G0 H0 G H os) (hN : X.N.Nodup) (hi : X.N[n]? = some x) (hx : Loc X.env.scope x) (hf : X.fn x = true ∨ X.env.scope.names.lookup x = some .local)
    (k : ∀ H' a, Hs G0 H0 G H' ((a, .lst []) :: os) → wSs X rest D (σ.set n (some (.ref a))) H') : wSs X (.Assign [.Name x p] (.List [] r) q :: rest) D σ H :=
  b_cons ⟨_, ps_set hN hi hx (pe_lst pa_nil) rfl hf, Nat.zero_le _, fun a ha => k _ a (h.new ha)⟩
/-- x = e, e a new list: a list of one's own -/
theorem b_ret {q : Pos} (h : Hs G0 H0 G H os) (he : JV X σ e G v) (k : ∀ H', Hs G0 H0 G H' os → D.rt v H') : wSs X (.Return (some e) q :: rest) D σ H :=
  b_cons ⟨_, ps_ret pe_w, he H h.ex _ fun H1 e1 => k H1 (h.flat e1)⟩
theorem b_retD {q : Pos} (h : Hs G0 H0 G H os) (he : JD X σ e G d) (k : ∀ G' H' v, Hs G0 H0 G' H' os → Dx G' v d → D.rt v H') : wSs X (.Return (some e) q :: rest) D σ H :=
  b_cons ⟨_, ps_ret pe_w, he H h.ex _ fun G1 H1 v s p => k G1 H1 v (h.stp s) p⟩
theorem b_retP {q : Pos} {P : Hp → V → Prop} (h : Hs G0 H0 G H os) (he : JP X σ e G P) (k : ∀ G' H' v, Hs G0 H0 G' H' os → P G' v → D.rt v H') : wSs X (.Return (some e) q :: rest) D σ H :=
  b_cons ⟨_, ps_ret pe_w, he H h.ex _ fun G1 H1 v s p => k G1 H1 v (h.stp s) p⟩
theorem b_if {p : Bool} {els : List Stmt} {q : Pos} (h : Hs G0 H0 G H os) (hc : JT X σ c G p) (h1 : p = true → ∀ H', Hs G0 H0 G H' os → wSs X body { D with nx := wSs X rest D } σ H')
    (h2 : p = false → ∀ H', Hs G0 H0 G H' os → wSs X els { D with nx := wSs X rest D } σ H') : wSs X (.If c body els q :: rest) D σ H :=
  b_cons ⟨_, ps_if pt_w pss_w pss_w, hc H h.ex _ fun H1 e1 => by
    cases p with
    | true => rw [if_pos rfl]; exact h1 rfl H1 (h.flat e1)
    | false => rw [if_neg Bool.false_ne_true]; exact h2 rfl H1 (h.flat e1)⟩
/-- a call whose value is dropped -/
theorem b_expr {q : Pos} (h : Hs G0 H0 G H os) (he : JP X σ e G (fun _ _ => True)) (hs : swapsWith e none q.line X.env = pure false) (k : ∀ G' H', Hs G0 H0 G' H' os → Ex G G' → wSs X rest D σ H') : wSs X (.Expr e q :: rest) D σ H :=
  b_cons ⟨_, ps_expr pe_w hs, he H h.ex _ fun G1 H1 v s p => k G1 H1 (h.stp s) s.g⟩
theorem b_dead {q : L2.St → Hp → Prop} : wSs X rest D σ H ∨ True := .inr trivial
/-- x.append(e), x a list of one's own, the first of os -/
theorem b_append {n : Nat} {p ap cp q : Pos} {l : Addr} {xs : List V} (h : Hs G0 H0 G H ((l, .lst xs) :: os)) (hs : σ[n]? = some (some (.ref l))) (hN : X.N[n]? = some x) (hv : Vis X.env.scope x) (he : JD X σ e G d) (hl : xs.length < 100000)
    (hd : (x == ("__debug__" : Str)) = false) (hcd : (x == ("__classdict__" : Str)) = false) (ns : NoStar e) (hbase : attributeBase (.Name x p) "append" X.env (eval (.Name x p) X.env) = eval (.Name x p) X.env) (hline : (ap.endLine == cp.line) = true)
    (hfew : ((backTo cp (starEach [e] X.env)).all (fun x => !x.1) && (backToKw cp (keywordEach [] X.env)).all (fun x => x.1.isSome) && decide ([e].length + ([] : List Keyword).length + (if ([] : List Keyword).isEmpty then 0 else 1) < 30)) = true)
    (hsw : swapsWith (.Call (.Attribute (.Name x p) "append" ap) [e] [] cp) none q.line X.env = pure false)
    (k : ∀ G' H' v, Hs G0 H0 G' H' ((l, .lst (xs ++ [v])) :: os) → Ex G G' → Dx G' v d → wSs X rest D σ H') : wSs X (.Expr (.Call (.Attribute (.Name x p) "append" ap) [e] [] cp) q :: rest) D σ H :=
  b_cons ⟨_, ps_expr (pe_bm PySem.F.plainAttrs_list PySem.F.slot_list_append PySem.F.type_list_append mt_append (pe_var hN hv hd hcd) (pa_cons pe_w pa_nil (ns _ _)) (hs := ns _ _) (hbase := hbase) (hline := hline) (hfew := hfew)) hsw,
    _, hs, .inl ⟨rfl, _, SqL.of h.at0⟩, he H h.ex _ fun G1 H1 v s p => by
      have h1 := h.stp s
      exact ⟨l, xs, v, rfl, rfl, h1.at0, Evl.sz_lt hl, k G1 _ v h1.put0 s.g p⟩⟩

/-! ### for -/
/-- the rule: W by the part taken, the slots, what is fixed, all -/
theorem b_for {α : Type} {f : α → PyData} {xs : List α} {q : Pos} (h : Hs G0 H0 G H os) (hi : JI X σ tg iter G (xs.map f)) (hp : PassesOwn (model X.prog X.w) X.A X.env X.xe) (hc : X.calm = true) (hs : ∀ x, foldedSetIterable iter X.env x = pure x)
    (k : ∀ G1 H1, Hs G0 H0 G1 H1 os → Ex G G1 → ∃ W : List α → L2.St → Hp → Hp → Prop, W [] σ G1 H1 ∧ (∀ pre σ G' H', W pre σ G' H' → Ex G1 G' ∧ Ex G' H') ∧
      (∀ pre x post v σ' G' H', xs = pre ++ x :: post → W pre σ' G' H' → Dx G1 v (f x) →
        wG X tg v σ' H' fun σ2 H2 => wSs X body { D with nx := fun s h => ∃ g, W (pre ++ [x]) s g h, ct := fun s h => ∃ g, W (pre ++ [x]) s g h, bk := wSs X rest D } σ2 H2) ∧
      (∀ σ' G' H', W xs σ' G' H' → wSs X rest D σ' H')) : wSs X (.For tg iter body [] q :: rest) D σ H := by
  refine b_cons ?_
  have key : ∃ wi, PI X tg iter wi ∧ wi σ H (fun J H1 => ∃ W : Nat → Nat → L2.St → Hp → Prop, (∃ m, W 0 m σ H1) ∧ ∀ i m σ H, W i m σ H →
      (J.stop i H ∧ wSs X rest D σ H) ∨ (J.go i H ∧ ∃ N : L2.St → Hp → Prop, (∀ σ' H', N σ' H' → ∃ m', m' < m ∧ W (i + 1) m' σ' H') ∧ ∀ x H', J.yld i H x H' → wG X tg x σ H' fun σ2 H2 => wSs X body { D with nx := N, ct := N, bk := wSs X rest D } σ2 H2)) := by
    refine hi H h.ex _ fun G1 H1 J s w => ?_
    obtain ⟨W, w0, wx, wt, wd⟩ := k G1 H1 (h.stp s) s.g
    have hw := w
    unfold WalkD at hw
    rw [List.length_map] at hw
    refine for_it hw (tb := wSs X body) (D := { D with nx := wSs X rest D }) (fun i σ H => ∃ G', W (xs.take i) σ G' H) ⟨G1, by simpa using w0⟩ (fun i σ H _ ⟨G', hW⟩ => (wx _ _ _ _ hW).1.trans (wx _ _ _ _ hW).2) ?_ fun σ H ⟨G', hW⟩ => wd σ G' H (by simpa using hW)
    rintro i x σ' H' H'' hlt ⟨G', hW⟩ ⟨rfl, d, hd, pd⟩
    have hx : xs[i]? = some xs[i] := List.getElem?_eq_getElem hlt
    have ed : d = f xs[i] := by
      rw [List.getElem?_map, hx] at hd
      exact (Option.some.inj hd).symm
    subst ed
    have split : xs = xs.take i ++ xs[i] :: xs.drop (i + 1) := by
      have := List.take_append_drop i xs
      rw [List.drop_eq_getElem_cons hlt] at this
      exact this.symm
    have tk : xs.take (i + 1) = xs.take i ++ [xs[i]] := by rw [List.take_succ, hx]; rfl
    have := wt (xs.take i) xs[i] (xs.drop (i + 1)) x σ' G' H'' split hW pd
    rw [← tk] at this
    exact this
  obtain ⟨wi, hpi, hwi⟩ := key
  exact ⟨_, ps_for hp hc hpi pg_w pss_w hs, hwi⟩

/-! ### while -/
theorem b_while {q : Pos} (hp : PassesOwn (model X.prog X.w) X.A X.env X.xe) (W : Nat → L2.St → Hp → Hp → Prop) {m0 : Nat} (w0 : W m0 σ G H)
    (turn : ∀ m σ G H, W m σ G H → Ex G H ∧ ∃ p, JT X σ c G p ∧ (p = true → ∀ H', Ex H H' → wSs X body { D with nx := fun s h => ∃ m' g, m' < m ∧ W m' s g h, ct := fun s h => ∃ m' g, m' < m ∧ W m' s g h, bk := wSs X rest D } σ H') ∧
      (p = false → ∀ H', Ex H H' → wSs X rest D σ H')) : wSs X (.While c body [] q :: rest) D σ H := by
  refine b_cons ⟨_, ps_while hp pt_w pss_w, fun m σ H => ∃ G, W m σ G H, ⟨m0, G, w0⟩, ?_⟩
  rintro m σ H ⟨G, hW⟩
  obtain ⟨ex, p, hc, h1, h2⟩ := turn m σ G H hW
  refine hc H ex _ fun H' e' => ?_
  cases p with
  | true =>
    rw [if_pos rfl]
    refine ⟨fun s h => ∃ m' g, m' < m ∧ W m' s g h, fun σ' H' ⟨m', g, hm, hw⟩ => ⟨m', hm, g, hw⟩, h1 rfl H' e'⟩
  | false =>
    rw [if_neg Bool.false_ne_true]
    exact h2 rfl H' e'
end
end TP

set_option Elab.async false
set_option linter.all false
set_option maxRecDepth 100000
set_option maxHeartbeats 1000000
namespace TP
open PySem PySem.Spec PyProof.Rows L2
open Evl (Ex)
theorem wE.mono {X : Cx} {e : Expr} {σ : L2.St} {H : Hp} {Q Q' : VK} (h : wE X e σ H Q) (m : ∀ v H', Q v H' → Q' v H') : wE X e σ H Q' := by
  obtain ⟨t, ht, q⟩ := h
  refine ⟨fun σ H Q' => ∃ Q, t σ H Q ∧ ∀ v H', Q v H' → Q' v H', ⟨fun pins s σ H Q' I ⟨Q, q, m⟩ => ?_⟩, Q, q, m⟩
  exact thn (ht.run pins s σ H Q I q) fun u s' ⟨v, H', I', r, q'⟩ => ⟨v, H', I', r, m _ _ q'⟩
/-! ### a new list, not yet fixed -/
structure JN (X : Cx) (σ : L2.St) (e : Expr) (G : Hp) (ds : List PyData) : Prop where
  run : ∀ H, Ex G H → ∀ Q : VK, (∀ G' H' p vs, Stp G H G' H' → H p = none → G' p = none → H' p = some (.lst vs) → DxAll G' vs ds → Q (.ref p) H') → wE X e σ H Q
instance {X : Cx} {σ : L2.St} {e : Expr} {G : Hp} {ds : List PyData} : CoeFun (JN X σ e G ds) (fun _ => ∀ H, Ex G H → ∀ Q : VK, (∀ G' H' p vs, Stp G H G' H' → H p = none → G' p = none → H' p = some (.lst vs) → DxAll G' vs ds → Q (.ref p) H') → wE X e σ H Q) := ⟨fun h => h.run⟩
section
variable {X : Cx} {σ : L2.St} {e a b c tg iter : Expr} {es : List Expr} {G G1 : Hp} {v u : V} {d d1 d2 : PyData} {ds : List PyData} {pos : Pos} {i j k : Int} {x : Str} {st : Stmt} {rest body : List Stmt} {D : Ends} {G0 H0 H : Hp} {os : List (Addr × HO)}
theorem JN.toD (h : JN X σ e G ds) : JD X σ e G (.list ds) := ⟨fun H eh Q q => h H eh Q fun G' H' p vs s hp gp hq hd => by
  have gn : Ex G' (upd G' p (.lst vs)) := Ex.new gp
  refine q (upd G' p (.lst vs)) H' _ ⟨s.g.trans gn, fun a o e => ?_, s.h, fun a ha e => ?_⟩ (.lst upd_same (hd.mono gn))
  · by_cases z : a = p
    · subst z; rw [upd_same] at e; cases e; exact hq
    · rw [upd_ne z] at e; exact s.gh a o e
  · by_cases z : a = p
    · subst z; exact absurd hp ha
    · rw [upd_ne z] at e; exact s.fr a ha e⟩
theorem JN.mono (m : Ex G G1) (h : JN X σ e G ds) : JN X σ e G1 ds := ⟨fun H eh Q q => h H (m.trans eh) Q fun G' H' p vs s hp gp hq hd => by
  obtain ⟨s1, e1⟩ := Stp.wide m eh s
  refine q _ H' p vs s1 hp ?_ hq (hd.mono e1)
  unfold join
  rw [Evl.fresh_back eh hp]
  exact gp⟩
theorem jn_new {H1 G1 : Hp} {vs : List V} (eh : Ex G H) (s1 : Stp G H G1 H1) {p : Addr} (hp : H1 p = none) (hd : DxAll G1 vs ds) {Q : VK} (q : ∀ G' H' p vs, Stp G H G' H' → H p = none → G' p = none → H' p = some (.lst vs) → DxAll G' vs ds → Q (.ref p) H') : Q (.ref p) (upd H1 p (.lst vs)) :=
  q G1 _ p vs ⟨s1.g, s1.gh.trans (Ex.new hp), s1.h.trans (Ex.new hp), s1.fr⟩ (Evl.fresh_back s1.h hp) (Evl.fresh_back s1.gh hp) upd_same hd
end
/-! ### list comprehensions -/
/-- a block's context -/
abbrev Blk (X : Cx) (scope : Scope) (s : Shared) (H : Hp) (C : Addr) (cl : List (Str × Addr)) (fp : List Addr) : Cx := X.blk s H scope (compEnvC scope cl C X.env) fp
def bE (X : Cx) (scope : Scope) (e : Expr) : TE := fun σ H Q => ∀ s h C cl fp, wE (Blk X scope s h C cl fp) e σ H Q
def bT (X : Cx) (scope : Scope) (e : Expr) : TT := fun σ H Q => ∀ s h C cl fp, wT (Blk X scope s h C cl fp) e σ H Q
def bG (X : Cx) (scope : Scope) (tg : Expr) : TG := fun v σ H Q => ∀ s h C cl fp, wG (Blk X scope s h C cl fp) tg v σ H Q
section
variable {X : Cx} {σ : L2.St} {elt c tg iter : Expr} {G G1 : Hp} {scope : Scope} {own : List (Str × Nat)} {pos : Pos}
theorem pe_b {e : Expr} (s : Shared) (h : Hp) (C : Addr) (cl : List (Str × Addr)) (fp : List Addr) : PE (Blk X scope s h C cl fp) e (bE X scope e) := ⟨fun pins s' σ H Q I q => pe_w.run pins s' σ H Q I (q s h C cl fp)⟩
theorem pt_b {e : Expr} (s : Shared) (h : Hp) (C : Addr) (cl : List (Str × Addr)) (fp : List Addr) : PT (Blk X scope s h C cl fp) e (bT X scope e) := ⟨fun pins s' σ H Q I q => pt_w.run pins s' σ H Q I (q s h C cl fp)⟩
theorem pg_b {e : Expr} (s : Shared) (h : Hp) (C : Addr) (cl : List (Str × Addr)) (fp : List Addr) : PG (Blk X scope s h C cl fp) e (bG X scope e) := ⟨fun pins s' σ H v u Q I r q => pg_w.run pins s' σ H v u Q I r (q s h C cl fp)⟩

/-- the reading of a comprehension: pre what is known of each item, p its test, f its value -/
theorem lc_read {α : Type} {f0 : α → PyData} {xs : List α} {p : α → Bool} {f : α → PyData} {te : TE} {tt : TT} {tgt : TG} {vs : List Nat} {wi : TI} (hl : xs.length < 100000)
    (hwi : ∀ H, Ex G H → ∀ R : It → Hp → Prop, (∀ G1 H1 J, Stp G H G1 H1 → WalkD J G1 (xs.map f0) → R J H1) → wi σ H R)
    (hb : ∀ x ∈ xs, ∀ G' v, Ex G G' → Dx G' v (f0 x) → ∃ σ2, wipe σ2 vs = wipe σ vs ∧ (∀ H Q, Ex G' H → Q σ2 H → tgt v (wipe σ vs) H Q) ∧
      (∀ H Q, Ex G' H → (∀ H', Ex H H' → Q (p x) H') → tt σ2 H Q) ∧
      (p x = true → ∀ H Q, Ex G' H → (∀ G2 H' v, Stp G' H G2 H' → Dx G2 v (f x) → Q v H') → te σ2 H Q)) :
    ∀ H, Ex G H → ∀ Q : VK, (∀ G' H' l ws, Stp G H G' H' → H l = none → G' l = none → H' l = some (.lst ws) → DxAll G' ws ((xs.filter p).map f) → Q (.ref l) H') → tLc wi tgt tt te vs σ H Q := by
  intro H eh Q q
  refine hwi H eh _ fun G1 H1 J s1 w D hD => ?_
  have h1 : Hs G1 H1 G1 H1 [] := .nil s1.gh
  unfold WalkD at w
  rw [List.length_map] at w
  refine lc_it w (fun i H => ∃ G' ws, Hs G1 H1 G' H [(D, .lst ws)] ∧ DxAll G' ws (((xs.take i).filter p).map f)) ⟨G1, [], h1.new hD, .nil⟩ (fun i H _ ⟨G', ws, hs, _⟩ => hs.st.g.trans hs.ex) ?_ ?_
  · rintro i x H2 H2' hlt ⟨G', ws, hs, hd⟩ ⟨rfl, d, hd1, pd⟩
    have hx : xs[i]? = some xs[i] := List.getElem?_eq_getElem hlt
    have ed : d = f0 xs[i] := by
      rw [List.getElem?_map, hx] at hd1
      exact (Option.some.inj hd1).symm
    subst ed
    have tk : xs.take (i + 1) = xs.take i ++ [xs[i]] := by rw [List.take_succ, hx]; rfl
    have eg : Ex G G' := s1.g.trans hs.st.g
    obtain ⟨σ2, e2, ht, hc, he⟩ := hb xs[i] (List.getElem_mem hlt) G' x eg (pd.mono hs.st.g)
    have len : ws.length < sizeLine := by
      rw [hd.length, List.length_map]
      have a1 : ((xs.take i).filter p).length ≤ (xs.take i).length := List.length_filter_le _ _
      have a2 : (xs.take i).length ≤ xs.length := by rw [List.length_take]; omega
      exact Evl.sz_lt (by omega)
    refine ht H2' _ hs.ex ⟨e2, hc H2' _ hs.ex fun H3 e3 => ?_⟩
    have hs3 := hs.flat e3
    cases hp : p xs[i] with
    | false =>
      rw [if_neg Bool.false_ne_true]
      refine ⟨G', ws, hs3, ?_⟩
      rw [tk, List.filter_append, List.filter_cons_of_neg (by rw [hp]; decide)]
      simpa using hd
    | true =>
      rw [if_pos rfl]
      refine he hp H3 _ hs3.ex fun G4 H4 v s4 p4 => ?_
      have hs4 := hs3.stp s4
      refine ⟨ws, hs4.at0, len, G4, ws ++ [v], hs4.put0, ?_⟩
      rw [tk, List.filter_append, List.filter_cons_of_pos hp, List.filter_nil, List.map_append]
      exact (hd.mono s4.g).snoc p4
  · rintro H2 ⟨G', ws, hs, hd⟩
    rw [List.take_length] at hd
    have o0 := hs.own _ List.mem_cons_self
    exact q G' H2 D ws (s1.trans hs.st) (Evl.fresh_back s1.h o0.2.2) o0.1 o0.2.1 hd
/-- [elt for y in iter if c] -/
theorem jn_lcT {α : Type} {f0 : α → PyData} {xs : List α} {p : α → Bool} {f : α → PyData} {n : Nat} {y : Str} {py : Pos} (hi : JI X σ (.Name y py) iter G (xs.map f0)) (hl : xs.length < 100000) (hc : X.calm = true) (hN : X.N.Nodup) (hn : X.N[n]? = some y) (hy : ∀ s h C cl fp, Loc (Blk X scope s h C cl fp).env.scope y ∧ ((Blk X scope s h C cl fp).fn y = true ∨ (Blk X scope s h C cl fp).env.scope.names.lookup y = some .local))
    (ok : blkC X.N X.env.scope scope [(y, n)] = true) (hs : ∀ x, foldedSetIterable iter X.env x = pure x)
    (ht : ∀ s h C cl fp, ∀ x ∈ xs, ∀ G' v, Ex G G' → Dx G' v (f0 x) → JT (Blk X scope s h C cl fp) (σ.set n (some v)) c G' (p x))
    (he : ∀ s h C cl fp, ∀ x ∈ xs, p x = true → ∀ G' v, Ex G G' → Dx G' v (f0 x) → JD (Blk X scope s h C cl fp) (σ.set n (some v)) elt G' (f x)) :
    JN X σ (.ListComp elt [⟨.Name y py, iter, [c], 0⟩] scope pos) G ((xs.filter p).map f) := ⟨fun H eh Q q => by
  have hw : ∀ v, wipe ((σ.set n none).set n (some v)) [n] = wipe σ [n] := fun v => by simp [wipe, List.set_set]
  refine ⟨_, pe_lc (wi := fun σ H R => ∃ wi, PI X (.Name y py) iter wi ∧ wi σ H R) hc hN ⟨fun pins s σ H R I ⟨_, h, q⟩ => h.run pins s σ H R I q⟩ (blkOk_by ok) pg_b (fun s h C cl fp => pts_one (pt_b s h C cl fp)) pe_b hs, ?_⟩
  refine lc_read (G := G) (wi := fun σ H R => ∃ wi, PI X (.Name y py) iter wi ∧ wi σ H R) (f0 := f0) (xs := xs) (p := p) (f := f) hl hi (fun x hx G' v e pd => ⟨(σ.set n none).set n (some v), hw v, fun H Q _ q s h C cl fp => wg_name (X := Blk X scope s h C cl fp) hN hn (hy s h C cl fp).1 (hy s h C cl fp).2 q, ?_, ?_⟩) H eh Q q
  · intro H Q e1 q1 s h C cl fp
    have := ht s h C cl fp x hx G' v e pd
    rw [List.set_set]
    exact this H e1 Q q1
  · intro hp H Q e1 q1 s h C cl fp
    have := he s h C cl fp x hx hp G' v e pd
    rw [List.set_set]
    exact this H e1 Q q1⟩
/-- [elt for y in iter] -/
theorem jn_lc {α : Type} {f0 : α → PyData} {xs : List α} {f : α → PyData} {n : Nat} {y : Str} {py : Pos} (hi : JI X σ (.Name y py) iter G (xs.map f0)) (hl : xs.length < 100000) (hc : X.calm = true) (hN : X.N.Nodup) (hn : X.N[n]? = some y) (hy : ∀ s h C cl fp, Loc (Blk X scope s h C cl fp).env.scope y ∧ ((Blk X scope s h C cl fp).fn y = true ∨ (Blk X scope s h C cl fp).env.scope.names.lookup y = some .local))
    (ok : blkC X.N X.env.scope scope [(y, n)] = true) (hs : ∀ x, foldedSetIterable iter X.env x = pure x)
    (he : ∀ s h C cl fp, ∀ x ∈ xs, ∀ G' v, Ex G G' → Dx G' v (f0 x) → JD (Blk X scope s h C cl fp) (σ.set n (some v)) elt G' (f x)) :
    JN X σ (.ListComp elt [⟨.Name y py, iter, [], 0⟩] scope pos) G (xs.map f) := ⟨fun H eh Q q => by
  have hw : ∀ v, wipe ((σ.set n none).set n (some v)) [n] = wipe σ [n] := fun v => by simp [wipe, List.set_set]
  refine ⟨_, pe_lc (wi := fun σ H R => ∃ wi, PI X (.Name y py) iter wi ∧ wi σ H R) hc hN ⟨fun pins s σ H R I ⟨_, h, q⟩ => h.run pins s σ H R I q⟩ (blkOk_by ok) pg_b (fun s h C cl fp => pts_nil) pe_b hs, ?_⟩
  have ef : xs.filter (fun _ => true) = xs := by simp
  refine lc_read (G := G) (wi := fun σ H R => ∃ wi, PI X (.Name y py) iter wi ∧ wi σ H R) (f0 := f0) (xs := xs) (p := fun _ => true) (f := f) hl hi (fun x hx G' v e pd => ⟨(σ.set n none).set n (some v), hw v, fun H Q _ q s h C cl fp => wg_name (X := Blk X scope s h C cl fp) hN hn (hy s h C cl fp).1 (hy s h C cl fp).2 q, ?_, ?_⟩) H eh Q (by rw [ef]; exact q)
  · intro H Q e1 q1
    exact q1 H (Ex.refl H)
  · intro hp H Q e1 q1 s h C cl fp
    have := he s h C cl fp x hx G' v e pd
    rw [List.set_set]
    exact this H e1 Q q1⟩
variable {rest : List Stmt} {D : Ends} {G0 H0 H : Hp} {os : List (Addr × HO)}
/-- z = [elt for y in iter if c] -/
theorem b_setLcT {α : Type} {f0 : α → PyData} {xs : List α} {p : α → Bool} {f : α → PyData} {n m : Nat} {y z : Str} {py pz q : Pos} (h : Hs G0 H0 G H os) (hi : JI X σ (.Name y py) iter G (xs.map f0)) (hl : xs.length < 100000) (hc : X.calm = true) (hN : X.N.Nodup) (hn : X.N[n]? = some y) (hy : ∀ s h C cl fp, Loc (Blk X scope s h C cl fp).env.scope y ∧ ((Blk X scope s h C cl fp).fn y = true ∨ (Blk X scope s h C cl fp).env.scope.names.lookup y = some .local))
    (ok : blkC X.N X.env.scope scope [(y, n)] = true) (hs : ∀ x, foldedSetIterable iter X.env x = pure x) (hm : X.N[m]? = some z) (hz : X.env.scope.names.lookup z = some .local)
    (hsw : swapsWith (.ListComp elt [⟨.Name y py, iter, [c], 0⟩] scope pos) (some (.Name z pz)) q.line X.env = pure true)
    (ht : ∀ s h C cl fp, ∀ x ∈ xs, ∀ G' v, Ex G G' → Dx G' v (f0 x) → JT (Blk X scope s h C cl fp) (σ.set n (some v)) c G' (p x))
    (he : ∀ s h C cl fp, ∀ x ∈ xs, p x = true → ∀ G' v, Ex G G' → Dx G' v (f0 x) → JD (Blk X scope s h C cl fp) (σ.set n (some v)) elt G' (f x))
    (k : ∀ G' H' l vs, Hs G0 H0 G' H' ((l, .lst vs) :: os) → Ex G G' → DxAll G' vs ((xs.filter p).map f) → wSs X rest D (σ.set m (some (.ref l))) H') :
    wSs X (.Assign [.Name z pz] (.ListComp elt [⟨.Name y py, iter, [c], 0⟩] scope pos) q :: rest) D σ H := by
  have hw : ∀ v, wipe ((σ.set n none).set n (some v)) [n] = wipe σ [n] := fun v => by simp [wipe, List.set_set]
  refine b_cons ⟨_, ps_setLc (wi := fun σ H R => ∃ wi, PI X (.Name y py) iter wi ∧ wi σ H R) hc hN hm hz hsw ⟨fun pins s σ H R I ⟨_, h, q⟩ => h.run pins s σ H R I q⟩ (blkOk_by ok) pg_b (fun s h C cl fp => pts_one (pt_b s h C cl fp)) pe_b hs, ?_⟩
  refine lc_read (G := G) (wi := fun σ H R => ∃ wi, PI X (.Name y py) iter wi ∧ wi σ H R) (f0 := f0) (xs := xs) (p := p) (f := f) hl hi (fun x hx G' v e pd => ⟨(σ.set n none).set n (some v), hw v, fun H Q _ q s h C cl fp => wg_name (X := Blk X scope s h C cl fp) hN hn (hy s h C cl fp).1 (hy s h C cl fp).2 q, ?_, ?_⟩) H h.ex _ fun G' H' l vs s hp gp hq pd => k G' H' l vs (h.newL s hp gp hq) s.g pd
  · intro H Q e1 q1 s h C cl fp
    have := ht s h C cl fp x hx G' v e pd
    rw [List.set_set]
    exact this H e1 Q q1
  · intro hp H Q e1 q1 s h C cl fp
    have := he s h C cl fp x hx hp G' v e pd
    rw [List.set_set]
    exact this H e1 Q q1
/-- z = [elt for y in iter] -/
theorem b_setLc {α : Type} {f0 : α → PyData} {xs : List α} {f : α → PyData} {n m : Nat} {y z : Str} {py pz q : Pos} (h : Hs G0 H0 G H os) (hi : JI X σ (.Name y py) iter G (xs.map f0)) (hl : xs.length < 100000) (hc : X.calm = true) (hN : X.N.Nodup) (hn : X.N[n]? = some y) (hy : ∀ s h C cl fp, Loc (Blk X scope s h C cl fp).env.scope y ∧ ((Blk X scope s h C cl fp).fn y = true ∨ (Blk X scope s h C cl fp).env.scope.names.lookup y = some .local))
    (ok : blkC X.N X.env.scope scope [(y, n)] = true) (hs : ∀ x, foldedSetIterable iter X.env x = pure x) (hm : X.N[m]? = some z) (hz : X.env.scope.names.lookup z = some .local)
    (hsw : swapsWith (.ListComp elt [⟨.Name y py, iter, [], 0⟩] scope pos) (some (.Name z pz)) q.line X.env = pure true)
    (he : ∀ s h C cl fp, ∀ x ∈ xs, ∀ G' v, Ex G G' → Dx G' v (f0 x) → JD (Blk X scope s h C cl fp) (σ.set n (some v)) elt G' (f x))
    (k : ∀ G' H' l vs, Hs G0 H0 G' H' ((l, .lst vs) :: os) → Ex G G' → DxAll G' vs (xs.map f) → wSs X rest D (σ.set m (some (.ref l))) H') :
    wSs X (.Assign [.Name z pz] (.ListComp elt [⟨.Name y py, iter, [], 0⟩] scope pos) q :: rest) D σ H := by
  have hw : ∀ v, wipe ((σ.set n none).set n (some v)) [n] = wipe σ [n] := fun v => by simp [wipe, List.set_set]
  have ef : xs.filter (fun _ => true) = xs := by simp
  refine b_cons ⟨_, ps_setLc (wi := fun σ H R => ∃ wi, PI X (.Name y py) iter wi ∧ wi σ H R) hc hN hm hz hsw ⟨fun pins s σ H R I ⟨_, h, q⟩ => h.run pins s σ H R I q⟩ (blkOk_by ok) pg_b (fun s h C cl fp => pts_nil) pe_b hs, ?_⟩
  refine lc_read (G := G) (wi := fun σ H R => ∃ wi, PI X (.Name y py) iter wi ∧ wi σ H R) (f0 := f0) (xs := xs) (p := fun _ => true) (f := f) hl hi (fun x hx G' v e pd => ⟨(σ.set n none).set n (some v), hw v, fun H Q _ q s h C cl fp => wg_name (X := Blk X scope s h C cl fp) hN hn (hy s h C cl fp).1 (hy s h C cl fp).2 q, ?_, ?_⟩) H h.ex _ (by rw [ef]; exact fun G' H' l vs s hp gp hq pd => k G' H' l vs (h.newL s hp gp hq) s.g pd)
  · intro H Q e1 q1
    exact q1 H (Ex.refl H)
  · intro hp H Q e1 q1 s h C cl fp
    have := he s h C cl fp x hx G' v e pd
    rw [List.set_set]
    exact this H e1 Q q1
end
end TP

set_option Elab.async false
set_option linter.all false
set_option maxRecDepth 100000
set_option maxHeartbeats 1000000
namespace TP
open PySem PySem.Spec PyProof.Rows L2
open Evl (Ex)
/-! ### kinds of values -/
abbrev kV (v : V) : Hp → V → Prop := fun _ u => u = v
abbrev kI (i : Int) : Hp → V → Prop := fun _ u => u = .int i
abbrev kB (b : Bool) : Hp → V → Prop := fun _ u => u = .bl b
abbrev kD (d : PyData) : Hp → V → Prop := fun G v => Dx G v d
theorem mo_V {v : V} : Mo (kV v) := fun _ _ _ _ h => h
theorem mo_I {i : Int} : Mo (kI i) := fun _ _ _ _ h => h
theorem mo_B {b : Bool} : Mo (kB b) := fun _ _ _ _ h => h
theorem mo_D {d : PyData} : Mo (kD d) := fun _ _ _ e h => Dx.mono e h
/-- an instance of the class at C whose attributes are those of A, no others -/
structure InsAt (G : Hp) (a C : Addr) (A : List (Str × V)) : Prop where
  ex : ∃ dx fs, G a = some (.ins C dx fs) ∧ ∀ f, fs.lookup f = A.lookup f
theorem InsAt.mono {G G' : Hp} {a C : Addr} {A : List (Str × V)} (e : Ex G G') (h : InsAt G a C A) : InsAt G' a C A := let ⟨dx, fs, h1, h2⟩ := h.ex; ⟨dx, fs, e _ _ h1, h2⟩

/-! ### promises in one form -/
/-- given what holds of i: arguments as told by Ps i, then what is handed back is as told by R i; what is fixed grows, all else stands -/
def spOf {ι : Type} (pre : ι → Prop) (Ps : ι → List (Hp → V → Prop)) (R : ι → Hp → V → Prop) : Sp := fun vs H Q _ =>
  ∃ i G, Ex G H ∧ pre i ∧ Al G (Ps i) vs ∧ ∀ G' H' v, Stp G H G' H' → R i G' v → Q v H'
theorem Al.length {G : Hp} : ∀ {Ps : List (Hp → V → Prop)} {vs : List V}, Al G Ps vs → vs.length = Ps.length
  | [], [], _ => rfl
  | _ :: _, _ :: _, h => by rw [List.length_cons, List.length_cons, Al.length h.2]
theorem Al.one {G : Hp} {P : Hp → V → Prop} : ∀ {vs : List V}, Al G [P] vs → ∃ a, vs = [a] ∧ P G a
  | [a], h => ⟨a, rfl, h.1⟩
  | _ :: _ :: _, h => h.2.elim
theorem Al.two {G : Hp} {P P2 : Hp → V → Prop} : ∀ {vs : List V}, Al G [P, P2] vs → ∃ a b, vs = [a, b] ∧ P G a ∧ P2 G b
  | [a, b], h => ⟨a, b, rfl, h.1, h.2.1⟩
  | [_], h => h.2.elim
  | _ :: _ :: _ :: _, h => h.2.2.elim
theorem Al.three {G : Hp} {P P2 P3 : Hp → V → Prop} : ∀ {vs : List V}, Al G [P, P2, P3] vs → ∃ a b c, vs = [a, b, c] ∧ P G a ∧ P2 G b ∧ P3 G c
  | [a, b, c], h => ⟨a, b, c, rfl, h.1, h.2.1, h.2.2.1⟩
  | [_], h => h.2.elim
  | [_, _], h => h.2.2.elim
  | _ :: _ :: _ :: _ :: _, h => h.2.2.2.elim
theorem Al.four {G : Hp} {P P2 P3 P4 : Hp → V → Prop} : ∀ {vs : List V}, Al G [P, P2, P3, P4] vs → ∃ a b c d, vs = [a, b, c, d] ∧ P G a ∧ P2 G b ∧ P3 G c ∧ P4 G d
  | [a, b, c, d], h => ⟨a, b, c, d, rfl, h.1, h.2.1, h.2.2.1, h.2.2.2.1⟩
  | [_], h => h.2.elim
  | [_, _], h => h.2.2.elim
  | [_, _, _], h => h.2.2.2.elim
  | _ :: _ :: _ :: _ :: _ :: _, h => h.2.2.2.2.elim

section
variable {P : Program} {w : World} {K : PySem.W.Frag} {mg : Str → Option Value} {base : Heap}
/-- a def of the module that keeps its promise | a method | a class that is made by an __init__ -/
def Df (P : Program) (w : World) (K : PySem.W.Frag) (mg : Str → Option Value) (base : Heap) (x : Str) (k : Nat) (sp : Sp) : Prop :=
  ∃ f fd ps, FnOk P w K mg base CX0 k f fd ps sp ∧ mg x = some (.ref f) ∧ PySem.W.keepIn K (.ref f) = true ∧ Binds K fd ps []
def Mt (P : Program) (w : World) (K : PySem.W.Frag) (mg : Str → Option Value) (base : Heap) (C : Addr) (m : Str) (k : Nat) (sp : Sp) : Prop :=
  ∃ f fd ps, FnOk P w K mg base CX0 k f fd ps sp ∧ Meth K C m f ∧ Binds K fd ps []
def Mkr (P : Program) (w : World) (K : PySem.W.Frag) (mg : Str → Option Value) (base : Heap) (C : Addr) (k : Nat) (sp : Sp) : Prop :=
  ∃ f fd ps, FnOk P w K mg base CX0 k f fd ps sp ∧ Mk K C f ∧ Binds K fd ps []
/-- THE RULE for a def, in one form -/
theorem fun_ok {ι : Type} {pre : ι → Prop} {Ps : ι → List (Hp → V → Prop)} {R : ι → Hp → V → Prop} {x qual : Str} {st : Stmt} {f : Addr} {fd : FuncData} {N ps : List Str} {k : Nat} (F : Fun K x qual st f fd) (S : FnScope N ps (defScope st)) (hl : ∀ i, (Ps i).length = ps.length)
    (hb : ∀ (cdv : Value) (A : Around) (outer : List Env) (s : Shared) (H : Hp) (vs : List V) (Q : VK) (E : XK) (i : ι) (G : Hp), Room k (A.deeper (envOfC qual (defScope st) s.heap.objs.size f cdv)) → pre i → Al G (Ps i) vs → Hs G H G H [] →
      (∀ G' H' v os, Hs G H G' H' os → R i G' v → Q v H') →
      wSs (cxOf CX0 P w K mg base N qual (defScope st) f cdv A outer s H E).nox (defBody st) { nx := fun _ H' => Q .non H', rt := Q } (start N vs) H) : FnOk P w K mg base CX0 (k + 1) f fd ps (spOf pre Ps R) := by
  refine F.ok S (fun vs H Q E ⟨i, G, _, _, al, _⟩ => al.length.trans (hl i)) fun cdv A outer s H vs Q E hr ⟨i, G, eh, hp, al, k⟩ => ?_
  exact hb cdv A outer s H vs Q E i G hr hp al (.nil eh) fun G' H' v os h r => k G' H' v h.st r
end

section
variable {X : Cx} {σ : L2.St} {e o a b c : Expr} {es : List Expr} {G : Hp} {pos : Pos} {x : Str} {k : Nat} {ι : Type} {pre : ι → Prop} {Ps : ι → List (Hp → V → Prop)} {R : ι → Hp → V → Prop}
theorem JP.toV {v : V} (h : JP X σ e G (kV v)) : JV X σ e G v := ⟨fun H eh Q q => h H eh Q fun _ H' _ s p => by cases p; exact q H' s.h⟩
theorem JP.toI {i : Int} (h : JP X σ e G (kI i)) : JV X σ e G (.int i) := JP.toV h
theorem JP.toB {i : Bool} (h : JP X σ e G (kB i)) : JV X σ e G (.bl i) := JP.toV h
theorem JV.toPV {v : V} (h : JV X σ e G v) : JP X σ e G (kV v) := h.toP rfl
/-- f(e, ..) -/
theorem jp_call {p : Pos} (F : Df X.prog X.w X.K X.mg X.base x k (spOf pre Ps R)) (hr : Room k X.A) (hg : Gl X x) (i : ι) (hp : pre i) (ha : JA X σ (e :: es) G (fun G vs => Al G (Ps i) vs)) (hs : NoStar e) (hdb : (x == ("__debug__" : Str)) = false)
    (hpl : (backTo pos (starEach es X.env)).any (·.1) = false) : JP X σ (.Call (.Name x p) (e :: es) [] pos) G (R i) := ⟨fun H eh Q q => by
  obtain ⟨f, fd, ps, hf, hm, hk, hb⟩ := F
  refine ⟨_, pe_call hf hr hg hm hk hb .nil pass0 pa_w hdb (hs _ _) hpl, ha H eh _ fun G1 H1 vs s1 al => ?_⟩
  rw [List.append_nil]
  exact ⟨i, G1, s1.gh, hp, al, fun G2 H2 v s2 r => q G2 H2 v (s1.trans s2) r⟩⟩
/-- o.m(e, ..) -/
theorem jp_meth {C : Addr} {m : Str} {p : Pos} {oa : Addr} {A : List (Str × V)} {pl : Sem Bool} (F : Mt X.prog X.w X.K X.mg X.base C m k (spOf pre Ps R)) (cl : Cls X.K C) (ho : JV X σ o G (.ref oa)) (hi : InsAt G oa C A) (hA : A.lookup m = none) (hr : Room k X.A) (i : ι) (hp : pre i)
    {P0 : Hp → V → Prop} {Ps' : List (Hp → V → Prop)} (hP : Ps i = P0 :: Ps') (h0 : P0 G (.ref oa)) (m0 : Mo P0) (hes : JA X σ (e :: es) G (fun G vs => Al G Ps' vs)) (hs : NoStar e)
    (hpl : (backTo pos (starEach es X.env)).any (·.1) = false)
    (ht : eval (.Call (.Attribute o m p) (e :: es) [] pos) X.env = (do
      let ov ← eval o X.env
      standAt p.atName
      let (f, first) ← holding [ov] (getMethod ov m pl)
      callWith pos f first (backTo pos (starEach (e :: es) X.env)) (backToKw pos (keywordEach [] X.env)))) : JP X σ (.Call (.Attribute o m p) (e :: es) [] pos) G (R i) := ⟨fun H eh Q q => by
  obtain ⟨f, fd, ps, hf, hm, hb⟩ := F
  obtain ⟨dx, fs, hG, hfs⟩ := hi.ex
  refine ⟨_, pe_meth pe_w cl hm hf hr hb .nil pass0 pa_w (hs _ _) hpl ht, ho H eh _ fun H1 e1 => ⟨oa, dx, fs, rfl, e1 _ _ (eh _ _ hG), (hfs m).trans hA, ?_⟩⟩
  refine hes H1 (eh.trans e1) _ fun G2 H2 vs s2 al => ?_
  rw [List.append_nil]
  refine ⟨i, G2, s2.gh, hp, by rw [hP]; exact ⟨m0 _ _ _ s2.g h0, al⟩, fun G3 H3 v s3 r => q G3 H3 v ?_ r⟩
  exact (Stp.flat eh e1).trans (s2.trans s3)⟩
/-- o.m() -/
theorem jp_meth0 {C : Addr} {m : Str} {p : Pos} {oa : Addr} {A : List (Str × V)} {pl : Sem Bool} (F : Mt X.prog X.w X.K X.mg X.base C m k (spOf pre Ps R)) (cl : Cls X.K C) (ho : JV X σ o G (.ref oa)) (hi : InsAt G oa C A) (hA : A.lookup m = none) (hr : Room k X.A) (i : ι) (hp : pre i)
    {P0 : Hp → V → Prop} (hP : Ps i = [P0]) (h0 : P0 G (.ref oa))
    (ht : eval (.Call (.Attribute o m p) [] [] pos) X.env = (do
      let ov ← eval o X.env
      standAt p.atName
      let (f, first) ← holding [ov] (getMethod ov m pl)
      callWith pos f first (backTo pos (starEach [] X.env)) (backToKw pos (keywordEach [] X.env)))) : JP X σ (.Call (.Attribute o m p) [] [] pos) G (R i) := ⟨fun H eh Q q => by
  obtain ⟨f, fd, ps, hf, hm, hb⟩ := F
  obtain ⟨dx, fs, hG, hfs⟩ := hi.ex
  refine ⟨_, pe_meth0 pe_w cl hm hf hr hb .nil pass0 ht, ho H eh _ fun H1 e1 => ⟨oa, dx, fs, rfl, e1 _ _ (eh _ _ hG), (hfs m).trans hA, ?_⟩⟩
  refine ⟨i, G, eh.trans e1, hp, by rw [hP]; exact ⟨h0, trivial⟩, fun G3 H3 v s3 r => q G3 H3 v ?_ r⟩
  exact (Stp.flat eh e1).trans s3⟩
/-- o.f -/
theorem jv_fld {C : Addr} {f : Str} {oa : Addr} {v : V} {A : List (Str × V)} (cl : Cls X.K C) (hn : NoAttr X.K C f) (ho : JV X σ o G (.ref oa)) (hi : InsAt G oa C A) (hA : A.lookup f = some v) (hb : attributeBase o f X.env (eval o X.env) = eval o X.env) : JV X σ (.Attribute o f pos) G v := ⟨fun H eh Q q => by
  obtain ⟨dx, fs, hG, hfs⟩ := hi.ex
  exact ⟨_, pe_fld pe_w hb, ho H eh _ fun H1 e1 => ⟨oa, C, dx, fs, v, rfl, e1 _ _ (eh _ _ hG), cl, hn, (hfs f).trans hA, q H1 e1⟩⟩⟩
end
end TP

set_option Elab.async false
set_option linter.all false
set_option maxRecDepth 100000
set_option maxHeartbeats 1000000
namespace TP
open PySem PySem.Spec PyProof.Rows L2
open Evl (Ex)
/-! ### data of this program: numbers, pairs, lists of them -/
abbrev eN : Nat → PyData := fun n => .int (n : Int)
abbrev eL {α : Type} (f : α → PyData) : List α → PyData := fun xs => .list (xs.map f)
abbrev eNs : List Nat → PyData := fun xs => .list (xs.map eN)
abbrev eLL : List (List Nat) → PyData := fun xs => .list (xs.map eNs)
abbrev eP : Nat × Nat → PyData := fun p => .tuple [.int (p.1 : Int), .int (p.2 : Int)]
abbrev ePs : List (Nat × Nat) → PyData := fun xs => .list (xs.map eP)
abbrev ePss : List (List (Nat × Nat)) → PyData := fun xs => .list (xs.map ePs)
abbrev eI : Int → PyData := fun n => .int n
abbrev eB : Bool → PyData := fun n => .bool n
abbrev eS : Str → PyData := fun n => .str n
/-- shapes: depth at most n, may be compared -/
def Sh (n : Nat) (d : PyData) : Prop := d.canLay0 = true ∧ d.depth ≤ n
theorem Sh.shaped {n : Nat} {d : PyData} (h : Sh n d) (hn : n ≤ 64) : SeqAt.shaped d = true := by
  show (d.canLay0 && decide (d.depth ≤ 64)) = true
  rw [Bool.and_eq_true]
  exact ⟨h.1, decide_eq_true (Nat.le_trans h.2 hn)⟩
theorem sh_int {n : Nat} (i : Int) : Sh n (.int i) := ⟨by simp [PyData.canLay0], by simp [PyData.depth]⟩
theorem sh_bool {n : Nat} (i : Bool) : Sh n (.bool i) := ⟨by simp [PyData.canLay0], by simp [PyData.depth]⟩
theorem sh_all {n : Nat} : ∀ {ds : List PyData}, (∀ d ∈ ds, Sh n d) → PyData.canLayAll0 ds = true ∧ PyData.depthAll ds ≤ n
  | [], _ => ⟨by simp [PyData.canLayAll0], by simp [PyData.depthAll]⟩
  | d :: ds, h => by
    obtain ⟨h1, h2⟩ := h d List.mem_cons_self
    obtain ⟨h3, h4⟩ := sh_all (ds := ds) fun x hx => h x (List.mem_cons_of_mem _ hx)
    refine ⟨by simp [PyData.canLayAll0, h1, h3], ?_⟩
    simp only [PyData.depthAll]
    omega
theorem sh_list {n : Nat} {ds : List PyData} (h : ∀ d ∈ ds, Sh n d) : Sh (n + 1) (.list ds) := by
  obtain ⟨h1, h2⟩ := sh_all h
  exact ⟨by simpa [PyData.canLay0] using h1, by simp only [PyData.depth]; omega⟩
theorem sh_tup {n : Nat} {ds : List PyData} (h : ∀ d ∈ ds, Sh n d) : Sh (n + 1) (.tuple ds) := by
  obtain ⟨h1, h2⟩ := sh_all h
  exact ⟨by simpa [PyData.canLay0] using h1, by simp only [PyData.depth]; omega⟩
theorem sh_map {α : Type} {n : Nat} {f : α → PyData} (h : ∀ x, Sh n (f x)) (xs : List α) : Sh (n + 1) (.list (xs.map f)) := sh_list fun d hd => by
  obtain ⟨x, _, rfl⟩ := List.mem_map.mp hd
  exact h x
theorem sh_N {n : Nat} (x : Nat) : Sh n (eN x) := sh_int _
theorem sh_Ns (xs : List Nat) : Sh 1 (eNs xs) := sh_map sh_N xs
theorem sh_LL (xs : List (List Nat)) : Sh 2 (eLL xs) := sh_map sh_Ns xs
theorem sh_P (p : Nat × Nat) : Sh 1 (eP p) := sh_tup fun d hd => by
  rcases List.mem_cons.mp hd with rfl | hd
  · exact sh_int _
  · rcases List.mem_cons.mp hd with rfl | hd
    · exact sh_int _
    · cases hd
theorem sh_Ps (xs : List (Nat × Nat)) : Sh 2 (ePs xs) := sh_map sh_P xs
theorem sh_Pss (xs : List (List (Nat × Nat))) : Sh 3 (ePss xs) := sh_map sh_Ps xs
/-- an encoding whose == is equality -/
class Shp {α : Type} (f : α → PyData) : Prop where
  sh : ∀ x, Sh 10 (f x)
  eq : ∀ x y, PyData.eqv (f x) (f y) = true ↔ x = y
theorem Shp.shaped {α : Type} (f : α → PyData) [h : Shp f] (x : α) : SeqAt.shaped (f x) = true := (h.sh x).shaped (by decide)
theorem Sh.le {n m : Nat} {d : PyData} (h : Sh n d) (l : n ≤ m) : Sh m d := ⟨h.1, Nat.le_trans h.2 l⟩
theorem eqvAll_map {α : Type} {f : α → PyData} (h : ∀ x y, PyData.eqv (f x) (f y) = true ↔ x = y) : ∀ xs ys : List α, PyData.eqvAll (xs.map f) (ys.map f) = true ↔ xs = ys
  | [], [] => by simp [PyData.eqvAll]
  | [], _ :: _ => by simp [PyData.eqvAll]
  | _ :: _, [] => by simp [PyData.eqvAll]
  | x :: xs, y :: ys => by simp [PyData.eqvAll, h x y, eqvAll_map h xs ys]
theorem eqv_map {α : Type} {f : α → PyData} (h : ∀ x y, PyData.eqv (f x) (f y) = true ↔ x = y) (xs ys : List α) : PyData.eqv (.list (xs.map f)) (.list (ys.map f)) = true ↔ xs = ys := by
  simp only [PyData.eqv]
  exact eqvAll_map h xs ys
theorem eqv_N (x y : Nat) : PyData.eqv (eN x) (eN y) = true ↔ x = y := by simp [PyData.eqv]; omega
theorem eqv_I (x y : Int) : PyData.eqv (eI x) (eI y) = true ↔ x = y := by simp [PyData.eqv]
theorem eqv_P (x y : Nat × Nat) : PyData.eqv (eP x) (eP y) = true ↔ x = y := by
  obtain ⟨a, b⟩ := x
  obtain ⟨c, d⟩ := y
  simp [PyData.eqv, PyData.eqvAll]
  omega
instance : Shp eN := ⟨fun x => sh_N x, eqv_N⟩
instance : Shp eI := ⟨fun x => sh_int x, eqv_I⟩
instance : Shp eNs := ⟨fun x => (sh_Ns x).le (by decide), eqv_map eqv_N⟩
instance : Shp eLL := ⟨fun x => (sh_LL x).le (by decide), eqv_map (eqv_map eqv_N)⟩
instance : Shp eP := ⟨fun x => (sh_P x).le (by decide), eqv_P⟩
instance : Shp ePs := ⟨fun x => (sh_Ps x).le (by decide), eqv_map eqv_P⟩
instance : Shp ePss := ⟨fun x => (sh_Pss x).le (by decide), eqv_map (eqv_map eqv_P)⟩
theorem eqv_dec {α : Type} [DecidableEq α] (f : α → PyData) [h : Shp f] (x y : α) : PyData.eqv (f x) (f y) = decide (x = y) := by
  by_cases e : x = y
  · rw [decide_eq_true e]; exact (h.eq x y).mpr e
  · rw [decide_eq_false e]
    cases q : PyData.eqv (f x) (f y) with
    | false => rfl
    | true => exact absurd ((h.eq x y).mp q) e
theorem any_eqv {α : Type} [DecidableEq α] (f : α → PyData) [h : Shp f] (xs : List α) (y : α) : ((xs.map f).any fun z => PyData.eqv z (f y)) = decide (y ∈ xs) := by
  induction xs with
  | nil => simp
  | cons x xs ih =>
    rw [List.map_cons, List.any_cons, ih, eqv_dec]
    by_cases e : x = y
    · simp [e]
    · have e2 : ¬ y = x := fun q => e q.symm
      simp [e, e2]

theorem room65 {k : Nat} {A : Around} (r : Room k A) : A.units + 65 < cLine := by have := r.un; omega
section
variable {X : Cx} {σ : L2.St} {e o a b c : Expr} {es : List Expr} {G : Hp} {pos : Pos} {x : Str}
theorem jo_inE {α : Type} [DecidableEq α] {f : α → PyData} [Shp f] {y : α} {xs : List α} (hu : X.A.units + 65 < cLine) (ha : JD X σ a G (f y)) (hb : JD X σ b G (.list (xs.map f))) (hs : SeqAt.shaped (.list (xs.map f)) = true) : JO X σ .In a b G (.bl (decide (y ∈ xs))) := by
  have h := jo_inD hu ha hb (Shp.shaped f y) hs
  rw [any_eqv] at h
  exact h
theorem jo_niE {α : Type} [DecidableEq α] {f : α → PyData} [Shp f] {y : α} {xs : List α} (hu : X.A.units + 65 < cLine) (ha : JD X σ a G (f y)) (hb : JD X σ b G (.list (xs.map f))) (hs : SeqAt.shaped (.list (xs.map f)) = true) : JO X σ .NotIn a b G (.bl (!decide (y ∈ xs))) := by
  have h := jo_niD hu ha hb (Shp.shaped f y) hs
  rw [any_eqv] at h
  exact h
theorem jo_inN {n : Nat} {xs : List Nat} (hu : X.A.units + 65 < cLine) (ha : JV X σ a G (.int (n : Int))) (hb : JD X σ b G (.list (xs.map eN))) : JO X σ .In a b G (.bl (decide (n ∈ xs))) := jo_inE (f := eN) hu (ha.toD (.int _)) hb (Shp.shaped eNs xs)
theorem jo_niN {n : Nat} {xs : List Nat} (hu : X.A.units + 65 < cLine) (ha : JV X σ a G (.int (n : Int))) (hb : JD X σ b G (.list (xs.map eN))) : JO X σ .NotIn a b G (.bl (!decide (n ∈ xs))) := jo_niE (f := eN) hu (ha.toD (.int _)) hb (Shp.shaped eNs xs)
/-- len of such a list -/
theorem jv_lenM {α : Type} {f : α → PyData} {xs : List α} {p : Pos} (hm : X.mg "len" = none) (ha : JD X σ a G (.list (xs.map f))) (hg : Gl X "len") (he : NoStar a) : JV X σ (.Call (.Name "len" p) [a] [] pos) G (.int (xs.length : Int)) := by
  have := jv_len (pos := pos) (p := p) hm ha hg he
  rwa [List.length_map] at this
/-- the item at a place -/
theorem jd_ixM {α : Type} {f : α → PyData} {xs : List α} {n : Nat} {d : PyData} (z : α) (ha : JD X σ a G (.list (xs.map f))) (hb : JV X σ b G (.int (n : Int))) (hs : PlainIx b) (hd : f (xs.getD n z) = d) (h : n < xs.length) : JD X σ (.Subscript a b pos) G d := by
  subst hd
  refine jd_ix ha hb (atI_nat ?_) hs
  rw [List.getElem?_map, List.getElem?_eq_getElem h, List.getD_eq_getElem?_getD, List.getElem?_eq_getElem h]
  rfl
theorem jd_ixN {xs : List Nat} {n : Nat} (ha : JD X σ a G (eNs xs)) (hb : JV X σ b G (.int (n : Int))) (hs : PlainIx b) (h : n < xs.length) : JD X σ (.Subscript a b pos) G (.int ((xs.getD n 0 : Nat) : Int)) := jd_ixM (f := eN) 0 ha hb hs rfl h
theorem jd_ixNs {xs : List (List Nat)} {n : Nat} (ha : JD X σ a G (eLL xs)) (hb : JV X σ b G (.int (n : Int))) (hs : PlainIx b) (h : n < xs.length) : JD X σ (.Subscript a b pos) G (.list ((xs.getD n []).map eN)) := jd_ixM (f := eNs) [] ha hb hs rfl h
theorem jd_ixP {xs : List (Nat × Nat)} {n : Nat} (ha : JD X σ a G (ePs xs)) (hb : JV X σ b G (.int (n : Int))) (hs : PlainIx b) (h : n < xs.length) : JD X σ (.Subscript a b pos) G (eP (xs.getD n (0, 0))) := jd_ixM (f := eP) (0, 0) ha hb hs rfl h
theorem jd_ixPs {xs : List (List (Nat × Nat))} {n : Nat} (ha : JD X σ a G (ePss xs)) (hb : JV X σ b G (.int (n : Int))) (hs : PlainIx b) (h : n < xs.length) : JD X σ (.Subscript a b pos) G (.list ((xs.getD n []).map eP)) := jd_ixM (f := ePs) [] ha hb hs rfl h
theorem jd_ixI {xs : List Int} {n : Nat} (ha : JD X σ a G (.list (xs.map eI))) (hb : JV X σ b G (.int (n : Int))) (hs : PlainIx b) (h : n < xs.length) : JD X σ (.Subscript a b pos) G (.int (xs.getD n 0)) := jd_ixM (f := eI) 0 ha hb hs rfl h
/-- pair[0], pair[1] -/
theorem jd_ixP1 {p : Nat × Nat} {j : Nat} {ps : Pos} (ha : JD X σ a G (eP p)) : JD X σ (.Subscript a (.Constant (.int 0) j ps) pos) G (.int (p.1 : Int)) := jd_ixT ha jv_int rfl fun _ _ => rfl
theorem jd_ixP2 {p : Nat × Nat} {j : Nat} {ps : Pos} (ha : JD X σ a G (eP p)) : JD X σ (.Subscript a (.Constant (.int 1) j ps) pos) G (.int (p.2 : Int)) := jd_ixT ha jv_int rfl fun _ _ => rfl
/-- xs.index(n) -/
theorem jv_index {n : Nat} {xs : List Nat} {ap cp : Pos} (hu : X.A.units + 65 < cLine) (ha : JD X σ a G (.list (xs.map eN))) (hb : JV X σ b G (.int (n : Int))) (hn : n ∈ xs) (ns : NoStar b) (hbase : attributeBase a "index" X.env (eval a X.env) = eval a X.env) (hline : (ap.endLine == cp.line) = true)
    (hfew : ((backTo cp (starEach [b] X.env)).all (fun x => !x.1) && (backToKw cp (keywordEach [] X.env)).all (fun x => x.1.isSome) && decide ([b].length + ([] : List Keyword).length + (if ([] : List Keyword).isEmpty then 0 else 1) < 30)) = true) :
    JV X σ (.Call (.Attribute a "index" ap) [b] [] cp) G (.int (xs.idxOf n : Nat)) := ⟨fun H eh Q q =>
  ⟨_, pe_bm PySem.F.plainAttrs_list PySem.F.slot_list_index PySem.F.type_list_index (mt_indexD hu) pe_w (pa_cons pe_w pa_nil (ns _ _)) (hs := ns _ _) (hbase := hbase) (hline := hline) (hfew := hfew), ha H eh _ fun G1 H1 x s1 p1 => by
    have p1' := p1
    cases p1 with
    | lst hl hd =>
      refine ⟨.inl ⟨rfl, _, SqL.of (s1.gh _ _ hl)⟩, (hb.mono s1.g) H1 s1.gh _ fun H2 e2 => ?_⟩
      have hi : xs.idxOf n < xs.length := List.idxOf_lt_length_iff.mpr hn
      refine ⟨_, _, .int (n : Int), xs.map eN, xs.idxOf n, eN n, rfl, rfl, (p1'.mono (s1.gh.trans e2)).dp, .int _, Shp.shaped eNs xs, Shp.shaped eN n, ?_, ?_, ?_, q H2 (s1.h.trans e2)⟩
      · rw [List.getElem?_map, List.getElem?_eq_getElem hi, List.getElem_idxOf hi] <;> rfl
      · exact (eqv_N n n).mpr rfl
      · intro m z hm hz
        rw [List.getElem?_map] at hz
        have hml : m < xs.length := Nat.lt_trans hm hi
        rw [List.getElem?_eq_getElem hml] at hz
        cases Option.some.inj hz
        have ne : xs[m] ≠ n := fun e => by
          have z := List.not_of_lt_findIdx (p := (· == n)) (xs := xs) (i := m) hm
          simp [e] at z
        rw [eqv_dec]
        exact decide_eq_false ne⟩⟩
end
end TP

set_option Elab.async false
set_option linter.all false
set_option maxRecDepth 100000
set_option maxHeartbeats 2000000
namespace TP
open PySem PySem.Spec PyProof.Rows L2
open Evl (Ex)
section
variable {X : Cx} {σ : L2.St} {e a b c tg iter : Expr} {es : List Expr} {G G1 : Hp} {v u : V} {d d1 d2 : PyData} {ds : List PyData} {pos : Pos} {i j k : Int} {x : Str} {st : Stmt} {rest body : List Stmt} {D : Ends} {G0 H0 H : Hp} {os : List (Addr × HO)}
theorem jn_list (h : JA X σ es G (fun G vs => DxAll G vs ds)) (hl : ds.length ≤ sizeLine) : JN X σ (.List es pos) G ds := ⟨fun H eh Q q =>
  ⟨_, pe_lst pa_w, h H eh _ fun G1 H1 vs s1 p1 => ⟨by rw [p1.length]; exact hl, fun p hp => jn_new eh s1 hp p1 q⟩⟩⟩
theorem jn_listOf {p : Pos} (hm : X.mg "list" = none) (ha : JD X σ a G (.list ds)) (hg : Gl X "list") (hb : bootBuiltins "list" = some (.type "list")) (he : NoStar a) : JN X σ (.Call (.Name "list" p) [a] [] pos) G ds := ⟨fun H eh Q q =>
  ⟨_, pe_callTy call_list_of hg hm hb (pa_cons pe_w pa_nil (he _ _)) (he := he _ _), ha H eh _ fun G1 H1 x s1 p1 => by
    cases p1 with
    | lst hl hd => exact ⟨_, _, rfl, .inl (SqL.of (s1.gh _ _ hl)), fun l hn => jn_new eh s1 hn hd q⟩⟩⟩
theorem rgV_dx {n : Nat} : DxAll G (rgV 0 (n : Int)) ((List.range n).map eN) := by
  have e : rgV 0 (n : Int) = ((List.range n).map fun i : Nat => (i : Int)).map V.int := by
    unfold rgV
    simp
  rw [e]
  have := DxAll.of_ints (H := G) ((List.range n).map fun i : Nat => (i : Int))
  rw [List.map_map] at this
  simpa [List.map_map, Function.comp_def] using this
/-- list(range(n)) -/
theorem jn_listRg {n : Nat} {p p2 pos2 : Pos} (hc : X.calm = true) (hm : X.mg "list" = none) (hm2 : X.mg "range" = none) (ha : JV X σ a G (.int (n : Int))) (hn : n ≤ 1000) (hg : Gl X "list") (hg2 : Gl X "range") (he : NoStar a) :
    JN X σ (.Call (.Name "list" p) [.Call (.Name "range" p2) [a] [] pos2] [] pos) G ((List.range n).map eN) := ⟨fun H eh Q q =>
  ⟨_, pe_listRg hc hg hm (prg_1 hg2 hm2 pe_w (he _ _)), ha H eh _ fun H1 e1 => ⟨_, rfl, RgOk.of_le (by omega) (by omega) (by omega) (by omega), fun p hp => jn_new eh (Stp.flat eh e1) hp rgV_dx q⟩⟩⟩
/-- xs + ys -/
theorem jn_cat {ds2 : List PyData} (ha : JD X σ a G (.list ds)) (hb : JD X σ b G (.list ds2)) (hl : ds.length + ds2.length ≤ 100000) : JN X σ (.BinOp a .Add b pos) G (ds ++ ds2) := ⟨fun H eh Q q =>
  ⟨_, pe_op op_cat pe_w pe_w, ha H eh _ fun G1 H1 x s1 p1 => (hb.mono s1.g) H1 s1.gh _ fun G2 H2 y s2 p2 => by
    cases p1 with
    | lst h1 d1 =>
      cases p2 with
      | lst h2 d2 =>
        exact ⟨_, _, _, _, rfl, rfl, (s2.g.trans s2.gh) _ _ h1, s2.gh _ _ h2, Evl.sz_of (by rw [d1.length, d2.length]; exact hl), fun p hp => jn_new eh (s1.trans s2) hp ((d1.mono s2.g).append d2) q⟩⟩⟩
/-- xs * n -/
theorem jn_rep {n : Nat} (ha : JD X σ a G (.list ds)) (hb : JV X σ b G (.int (n : Int))) (hl : ds.length * n ≤ 100000) (hn : n ≤ 100000) : JN X σ (.BinOp a .Mult b pos) G (List.replicate n ds).flatten := ⟨fun H eh Q q =>
  ⟨_, pe_op op_rep pe_w pe_w, ha H eh _ fun G1 H1 x s1 p1 => (hb.mono s1.g) H1 s1.gh _ fun H2 e2 => by
    cases p1 with
    | @lst ad xs _ h1 d1 =>
      refine ⟨_, n, _, rfl, rfl, (s1.gh.trans e2) _ _ h1, by omega, by omega, Evl.sz_of (by rw [d1.length]; exact hl), fun p hp => ?_⟩
      have hrep : ∀ m : Nat, DxAll G1 (List.replicate m xs).flatten (List.replicate m ds).flatten := fun m => by
        induction m with
        | zero => exact .nil
        | succ m ih => rw [List.replicate_succ, List.replicate_succ, List.flatten_cons, List.flatten_cons]; exact d1.append ih
      exact jn_new eh (s1.trans (.flat s1.gh e2)) hp (hrep n) q⟩⟩
/-- xs[lo:hi] -/
def JOp (X : Cx) (σ : L2.St) (e : Option Expr) (G : Hp) (o : Option Int) : Prop := match e with
  | none => o = none
  | some e => ∃ i, o = some i ∧ JV X σ e G (.int i)
def cut {α : Type} (xs : List α) (lo hi : Option Int) : List α := (xs.drop (HT.sIx xs.length 0 lo)).take (HT.sIx xs.length xs.length hi - HT.sIx xs.length 0 lo)
theorem cut_map {α β : Type} (f : α → β) (xs : List α) (lo hi : Option Int) : cut (xs.map f) lo hi = (cut xs lo hi).map f := by
  unfold cut
  rw [List.length_map, List.map_take, List.map_drop]
theorem cutV_dx {vs : List V} {lo hi : Option Int} (h : DxAll G vs ds) : DxAll G (cutV vs lo hi) (cut ds lo hi) := by
  unfold cutV cut
  rw [h.length]
  exact (h.drop _).take _
theorem jn_slice {lo hi : Option Expr} {l h : Option Int} {p2 : Pos} (ha : JD X σ a G (.list ds)) (hl : JOp X σ lo G l) (hh : JOp X σ hi G h) : JN X σ (.Subscript a (.Slice lo hi none p2) pos) G (cut ds l h) := ⟨fun H eh Q q => by
  have po : ∀ {o : Option Expr} {i : Option Int}, JOp X σ o G i → ∃ t, PO X o t ∧ ∀ G1 H1, Ex G G1 → Ex G1 H1 → ∀ Q : Option Int → Hp → Prop, (∀ H2, Ex H1 H2 → Q i H2) → t σ H1 Q := fun {o i} z => by
    cases o with
    | none =>
      cases z
      exact ⟨_, po_none, fun G1 H1 _ _ Q q => q H1 (Ex.refl _)⟩
    | some e =>
      obtain ⟨k, rfl, z⟩ := z
      exact ⟨_, po_some pe_w, fun G1 H1 e0 e1 Q q => z H1 (e0.trans e1) _ fun H2 e2 => ⟨k, rfl, q H2 e2⟩⟩
  obtain ⟨t1, h1, r1⟩ := po hl
  obtain ⟨t2, h2, r2⟩ := po hh
  refine ⟨_, pe_slice sl_list pe_w h1 h2, ha H eh _ fun G1 H1 x s1 p1 => r1 G1 H1 s1.g s1.gh _ fun H2 e2 => r2 G1 H2 s1.g (s1.gh.trans e2) _ fun H3 e3 => ?_⟩
  cases p1 with
  | lst hx hd => exact ⟨_, _, rfl, SqL.of ((s1.gh.trans (e2.trans e3)) _ _ hx), fun p hp => jn_new eh (s1.trans (.flat s1.gh (e2.trans e3))) hp (cutV_dx hd) q⟩⟩

/-! ### statements in the widest form -/
theorem b_setW {n : Nat} {p q : Pos} (hN : X.N.Nodup) (hi : X.N[n]? = some x) (hx : Loc X.env.scope x) (hs : swapsWith e (some (.Name x p)) q.line X.env = pure false) (hf : X.fn x = true ∨ X.env.scope.names.lookup x = some .local)
    (k : wE X e σ H fun v H' => wSs X rest D (σ.set n (some v)) H') : wSs X (.Assign [.Name x p] e q :: rest) D σ H := b_cons ⟨_, ps_set hN hi hx pe_w hs hf, k⟩
theorem b_asgW {q : Pos} (hs : swapsWithSole [tg] e q.line X.env = pure false) (hw : swappedStores [tg] e X.env = pure none) (h1 : (assignEach [tg] X.env).map (·.2) = [assign tg X.env]) (k : wE X e σ H fun v H' => wG X tg v σ H' fun σ' H'' => wSs X rest D σ' H'') : wSs X (.Assign [tg] e q :: rest) D σ H :=
  b_cons ⟨_, ps_asg pe_w pg_w hs hw h1, k⟩
theorem b_exprW {q : Pos} (hs : swapsWith e none q.line X.env = pure false) (k : wE X e σ H fun _ H' => wSs X rest D σ H') : wSs X (.Expr e q :: rest) D σ H := b_cons ⟨_, ps_expr pe_w hs, k⟩
theorem b_setNw {n : Nat} {p q : Pos} (h : Hs G0 H0 G H os) (he : JN X σ e G ds) (hN : X.N.Nodup) (hi : X.N[n]? = some x) (hx : Loc X.env.scope x) (hs : swapsWith e (some (.Name x p)) q.line X.env = pure false) (hf : X.fn x = true ∨ X.env.scope.names.lookup x = some .local)
    (k : ∀ G' H' l vs, Hs G0 H0 G' H' ((l, .lst vs) :: os) → Ex G G' → DxAll G' vs ds → wSs X rest D (σ.set n (some (.ref l))) H') : wSs X (.Assign [.Name x p] e q :: rest) D σ H :=
  b_setW hN hi hx hs hf (he H h.ex _ fun G' H' l vs s hp gp hq hd => k G' H' l vs (h.newL s hp gp hq) s.g hd)
/-- x.append(e) where e may change one's own lists -/
theorem we_append {n : Nat} {p ap cp : Pos} {l : Addr} {Q : VK} (hs : σ[n]? = some (some (.ref l))) (hN : X.N[n]? = some x) (hv : Vis X.env.scope x) (hl0 : ∃ xs, H l = some (.lst xs))
    (he : wE X e σ H fun v H' => ∃ xs, H' l = some (.lst xs) ∧ xs.length < 100000 ∧ Q .non (upd H' l (.lst (xs ++ [v]))))
    (hd : (x == ("__debug__" : Str)) = false) (hcd : (x == ("__classdict__" : Str)) = false) (ns : NoStar e) (hbase : attributeBase (.Name x p) "append" X.env (eval (.Name x p) X.env) = eval (.Name x p) X.env) (hline : (ap.endLine == cp.line) = true)
    (hfew : ((backTo cp (starEach [e] X.env)).all (fun x => !x.1) && (backToKw cp (keywordEach [] X.env)).all (fun x => x.1.isSome) && decide ([e].length + ([] : List Keyword).length + (if ([] : List Keyword).isEmpty then 0 else 1) < 30)) = true) :
    wE X (.Call (.Attribute (.Name x p) "append" ap) [e] [] cp) σ H Q := by
  obtain ⟨xs0, h0⟩ := hl0
  refine ⟨_, pe_bm PySem.F.plainAttrs_list PySem.F.slot_list_append PySem.F.type_list_append mt_append (pe_var hN hv hd hcd) (pa_cons pe_w pa_nil (ns _ _)) (hs := ns _ _) (hbase := hbase) (hline := hline) (hfew := hfew), _, hs, .inl ⟨rfl, _, SqL.of h0⟩, ?_⟩
  refine he.mono fun v H' ⟨xs, h1, h2, q⟩ => ⟨l, xs, v, rfl, rfl, h1, Evl.sz_lt h2, q⟩
end
end TP

set_option Elab.async false
set_option linter.all false
set_option maxRecDepth 100000
set_option maxHeartbeats 2000000
namespace TP
open PySem PySem.Spec PyProof.Rows L2
open Evl (Ex)
/-! ### xs.extend(a tuple) -/
theorem ext_tup (l : Addr) (items : Array Value) (n : Nat) (b : Addr) (items2 : Array Value) (n2 : Nat) (dd : Option Addr) (sl : Array (Option Value)) (hs0 : ¬(!items.isEmpty && Builtin.List.listTooLong (items.size + items2.size)) = true) (hs1 : items.size ≤ sizeLine) (hs2 : items.size + items2.size ≤ sizeLine + 1) :
    Meets (Builtin.«list.extend» ⟨[.ref l, .ref b], []⟩) (fun _ R s => s.heap.get? l = some { cls := .type "list", dict := none, data := .seq items n, slots := #[] } ∧ s.heap.get? b = some { cls := .type "tuple", dict := dd, data := .seq items2 n2, slots := sl } ∧ R (.ok (.ret Value.none)) { s with heap := s.heap.update l (Obj.mapSeq fun x => x ++ items2), toks := s.toks }) :=
  .of_wp fun prog w A R s h => by
    obtain ⟨hp, g, d, tk, os⟩ := s; obtain ⟨hl, hb, h⟩ := h; have f1 := AutoSeq1.idx_int; have f2 := AutoSeq1.sub_tuple_tuple; have f3 := AutoSeq1.sub_list_list; have f4 := AutoSeq1.sub_tuple_list; have f5 := AutoSeq1.sub_list_tuple;
    have hz' : (items ++ items2).size ≤ sizeLine + 1 := by rw [Array.size_append]; exact hs2
    wp_walk using (wpAny_updateSeq hl rfl (hz := hs1) (_hz' := hz')), wpAny_loadPart' hl, wpAny_loadPart' hb; exact ⟨_, rfl, h⟩
def rExtT : V → List V → Hp → VK → Prop := fun x vs H Q => ∃ l b xs zs, x = .ref l ∧ vs = [.ref b] ∧ H l = some (.lst xs) ∧ H b = some (.tup zs) ∧ xs.length + zs.length ≤ sizeLine ∧ Q .non (upd H l (.lst (xs ++ zs)))
theorem mt_extT {X : Cx} : MtM X "list.extend" rExtT := by
  intro pins s σ H x vs v us Q I rx rv h
  obtain ⟨l, b, xs, zs, rfl, rfl, hH, hB, hz, q⟩ := h
  cases rx
  obtain ⟨u, rfl, ru⟩ := rv.one
  cases ru
  obtain ⟨z, its, n, r, hl, e⟩ := I.lstM hH
  obtain ⟨its2, r2, ⟨⟨cls, dd, data, sl⟩, e2, hc, n2, hd⟩, hz2⟩ := I.tuple (SqT.of hB)
  simp only at hc hd
  subst hc hd
  have hl2 := r2.length
  have hsz : its.toArray.size + its2.toArray.size ≤ sizeLine := by rw [List.size_toArray, List.size_toArray]; omega
  have hlong : ¬ (!its.toArray.isEmpty && Builtin.List.listTooLong (its.toArray.size + its2.toArray.size)) = true := by
    rw [notLongL hsz, Bool.and_false]
    exact Bool.false_ne_true
  refine call_meets F.slot_list_extend ⟨_, e, rfl⟩ F.entry_list_extend (F.args_list_extend_2 _ _)
    (ext_tup l its.toArray n b its2.toArray n2 dd sl hlong (by rw [List.size_toArray]; omega) (by omega)) ⟨e, e2, ?_⟩
  refine ⟨.non, _, I.lset (its' := its ++ its2) hH e (by simp) (r.append r2) ?_, rfl, q⟩
  rw [List.length_append]
  omega
section
variable {X : Cx} {σ : L2.St} {e o a b c tg iter : Expr} {es : List Expr} {G G1 : Hp} {v u : V} {d d1 d2 : PyData} {ds : List PyData} {pos : Pos} {i j k : Int} {x : Str} {st : Stmt} {rest body : List Stmt} {D : Ends} {G0 H0 H : Hp} {os : List (Addr × HO)}
/-- o.m(e), m a method of lists, o evaluated ahead; r its rule -/
theorem we_lm {m : Str} {id : String} {r : V → List V → Hp → VK → Prop} {ap cp : Pos} {l : Addr} {Q : VK} (slot : Slot "list" m id) (hty : typeOf (.builtin id) = pure (.type "method_descriptor")) (hm : MtR X id r)
    (ho : wE X o σ H fun v H' => v = .ref l ∧ (∃ xs, H' l = some (.lst xs)) ∧ wE X e σ H' fun u H2 => r (.ref l) [u] H2 Q)
    (ns : NoStar e) (hbase : attributeBase o m X.env (eval o X.env) = eval o X.env) (hline : (ap.endLine == cp.line) = true)
    (hfew : ((backTo cp (starEach [e] X.env)).all (fun x => !x.1) && (backToKw cp (keywordEach [] X.env)).all (fun x => x.1.isSome) && decide ([e].length + ([] : List Keyword).length + (if ([] : List Keyword).isEmpty then 0 else 1) < 30)) = true) :
    wE X (.Call (.Attribute o m ap) [e] [] cp) σ H Q := by
  refine ⟨_, pe_bm PySem.F.plainAttrs_list slot hty hm pe_w (pa_cons pe_w pa_nil (ns _ _)) (hs := ns _ _) (hbase := hbase) (hline := hline) (hfew := hfew), ?_⟩
  refine ho.mono fun v H' ⟨ev, ⟨xs, h1⟩, q⟩ => ?_
  subst ev
  exact ⟨.inl ⟨rfl, _, SqL.of h1⟩, q⟩
/-- o.m() -/
theorem we_lm0 {m : Str} {id : String} {r : V → List V → Hp → VK → Prop} {ap cp : Pos} {l : Addr} {Q : VK} (slot : Slot "list" m id) (hty : typeOf (.builtin id) = pure (.type "method_descriptor")) (hm : MtR X id r)
    (ho : wE X o σ H fun v H' => v = .ref l ∧ (∃ xs, H' l = some (.lst xs)) ∧ r (.ref l) [] H' Q)
    (hbase : attributeBase o m X.env (eval o X.env) = eval o X.env) (hline : (ap.endLine == cp.line) = true) :
    wE X (.Call (.Attribute o m ap) [] [] cp) σ H Q := by
  refine ⟨_, pe_bm0 PySem.F.plainAttrs_list slot hty hm pe_w (hbase := hbase) (hline := hline), ?_⟩
  refine ho.mono fun v H' ⟨ev, ⟨xs, h1⟩, q⟩ => ?_
  subst ev
  exact ⟨.inl ⟨rfl, _, SqL.of h1⟩, q⟩
/-- a variable that holds one's own list -/
theorem we_var {n : Nat} {p : Pos} {v : V} {Q : VK} (hs : σ[n]? = some (some v)) (hN : X.N[n]? = some x) (hv : Vis X.env.scope x) (hd : (x == ("__debug__" : Str)) = false) (hcd : (x == ("__classdict__" : Str)) = false) (q : Q v H) : wE X (.Name x p) σ H Q := ⟨_, pe_var hN hv hd hcd, _, hs, q⟩
/-- x.extend(a list) -/
theorem b_extend {n : Nat} {p ap cp q : Pos} {l : Addr} {xs : List V} (h : Hs G0 H0 G H ((l, .lst xs) :: os)) (hs : σ[n]? = some (some (.ref l))) (hN : X.N[n]? = some x) (hv : Vis X.env.scope x) (he : JD X σ e G (.list ds)) (hl : xs.length + ds.length ≤ 100000)
    (hd : (x == ("__debug__" : Str)) = false) (hcd : (x == ("__classdict__" : Str)) = false) (ns : NoStar e) (hbase : attributeBase (.Name x p) "extend" X.env (eval (.Name x p) X.env) = eval (.Name x p) X.env) (hline : (ap.endLine == cp.line) = true)
    (hfew : ((backTo cp (starEach [e] X.env)).all (fun x => !x.1) && (backToKw cp (keywordEach [] X.env)).all (fun x => x.1.isSome) && decide ([e].length + ([] : List Keyword).length + (if ([] : List Keyword).isEmpty then 0 else 1) < 30)) = true)
    (hsw : swapsWith (.Call (.Attribute (.Name x p) "extend" ap) [e] [] cp) none q.line X.env = pure false)
    (k : ∀ G' H' vs, Hs G0 H0 G' H' ((l, .lst (xs ++ vs)) :: os) → Ex G G' → DxAll G' vs ds → wSs X rest D σ H') : wSs X (.Expr (.Call (.Attribute (.Name x p) "extend" ap) [e] [] cp) q :: rest) D σ H := by
  refine b_exprW hsw (we_lm PySem.F.slot_list_extend PySem.F.type_list_extend mt_extend (we_var hs hN hv hd hcd ⟨rfl, ⟨xs, h.at0⟩, ?_⟩) ns hbase hline hfew)
  refine he H h.ex _ fun G1 H1 v s p => ?_
  have h1 := h.stp s
  cases p with
  | @lst b vs _ hb hd => exact ⟨l, b, xs, vs, rfl, rfl, h1.at0, s.gh _ _ hb, Evl.sz_of (by rw [hd.length]; exact hl), k G1 _ vs h1.put0 s.g hd⟩
/-- x.extend(a tuple) -/
theorem b_extendT {n : Nat} {p ap cp q : Pos} {l : Addr} {xs : List V} (h : Hs G0 H0 G H ((l, .lst xs) :: os)) (hs : σ[n]? = some (some (.ref l))) (hN : X.N[n]? = some x) (hv : Vis X.env.scope x) (he : JD X σ e G (.tuple ds)) (hl : xs.length + ds.length ≤ 100000)
    (hd : (x == ("__debug__" : Str)) = false) (hcd : (x == ("__classdict__" : Str)) = false) (ns : NoStar e) (hbase : attributeBase (.Name x p) "extend" X.env (eval (.Name x p) X.env) = eval (.Name x p) X.env) (hline : (ap.endLine == cp.line) = true)
    (hfew : ((backTo cp (starEach [e] X.env)).all (fun x => !x.1) && (backToKw cp (keywordEach [] X.env)).all (fun x => x.1.isSome) && decide ([e].length + ([] : List Keyword).length + (if ([] : List Keyword).isEmpty then 0 else 1) < 30)) = true)
    (hsw : swapsWith (.Call (.Attribute (.Name x p) "extend" ap) [e] [] cp) none q.line X.env = pure false)
    (k : ∀ G' H' vs, Hs G0 H0 G' H' ((l, .lst (xs ++ vs)) :: os) → Ex G G' → DxAll G' vs ds → wSs X rest D σ H') : wSs X (.Expr (.Call (.Attribute (.Name x p) "extend" ap) [e] [] cp) q :: rest) D σ H := by
  refine b_exprW hsw (we_lm PySem.F.slot_list_extend PySem.F.type_list_extend mt_extT (we_var hs hN hv hd hcd ⟨rfl, ⟨xs, h.at0⟩, ?_⟩) ns hbase hline hfew)
  refine he H h.ex _ fun G1 H1 v s p => ?_
  have h1 := h.stp s
  cases p with
  | @tup b vs _ hb hd => exact ⟨l, b, xs, vs, rfl, rfl, h1.at0, s.gh _ _ hb, Evl.sz_of (by rw [hd.length]; exact hl), k G1 _ vs h1.put0 s.g hd⟩
/-- x[i] = e, x one's own list -/
theorem b_setItem {n m : Nat} {p q r : Pos} {l : Addr} {xs : List V} (h : Hs G0 H0 G H ((l, .lst xs) :: os)) (he : JD X σ e G d) (hs : σ[n]? = some (some (.ref l))) (hN : X.N[n]? = some x) (hv : Vis X.env.scope x) (hi : JV X σ a G (.int (m : Int))) (hm : m < xs.length)
    (hd : (x == ("__debug__" : Str)) = false) (hcd : (x == ("__classdict__" : Str)) = false)
    (hsw : swapsWithSole [.Subscript (.Name x p) a q] e r.line X.env = pure false) (hw : swappedStores [.Subscript (.Name x p) a q] e X.env = pure none) (h1 : (assignEach [.Subscript (.Name x p) a q] X.env).map (·.2) = [assign (.Subscript (.Name x p) a q) X.env])
    (hpl : PG X (.Subscript (.Name x p) a q) (gSub (wE X (.Name x p)) (wE X a) rSetL))
    (k : ∀ G' H' v, Hs G0 H0 G' H' ((l, .lst (xs.set m v)) :: os) → Ex G G' → Dx G' v d → wSs X rest D σ H') : wSs X (.Assign [.Subscript (.Name x p) a q] e r :: rest) D σ H := by
  refine b_asgW hsw hw h1 (he H h.ex _ fun G1 H1 v s pv => ⟨_, hpl, ?_⟩)
  have g1 := h.stp s
  refine we_var hs hN hv hd hcd ?_
  refine (hi.mono s.g) H1 g1.ex _ fun H2 e2 => ?_
  have g2 := g1.flat e2
  refine ⟨l, xs, m, m, rfl, rfl, g2.at0, ?_, k G1 _ v g2.put0 s.g pv⟩
  unfold ixN
  rw [if_pos (by omega), if_pos (by omega), Int.toNat_natCast]
end
/-! ### len(set(xs)) of ints -/
def dedupI (ns : List Int) : List Int := PyProof.Rows.firstMet (fun i => ns.getD i 0) ns.length
def tLenSetG (K : PySem.W.Frag) (ta : TE) : TE := fun σ H Q => ta σ H fun x H1 => ∃ (l : Addr) (ns : List Int), x = .ref l ∧ SqL K H1 l (ns.map V.int) ∧ ns.length ≤ 4000 ∧ Q (.int ((dedupI ns).length : Nat)) H1
open RZ in
theorem pe_lenSetG {X : Cx} {a : Expr} {ta : TE} {p p2 q pos : Pos} (hg : Gl X "len") (hm : X.mg "len" = none) (hg2 : Gl X "set") (hm2 : X.mg "set" = none) (ha : PE X a ta) (hc : X.calm = true)
    (na : starEach [a] X.env = (false, eval a X.env) :: starEach [] X.env) : PE X (.Call (.Name "len" p) [.Call (.Name "set" p2) [a] [] q] [] pos) (tLenSetG X.K ta) := by
  refine ⟨fun pins s σ H Q I h => ?_⟩
  refine Call_ (ld_blt I hg hm boot_len ?_)
  refine PyProof.Rows.callWith_builtin1 (PyProof.Rows.args_cons ?_ rfl) rfl rfl
  refine Call_ (ld_blt I hg2 hm2 boot_set ?_)
  refine PyProof.Rows.callWith_type1 (PyProof.Rows.args_cons (thn (ha.run pins s σ H _ I h) fun v s1 ⟨x, H1, I1, r1, q1⟩ => PyProof.Rows.args_nil ?_) na) na rfl
  obtain ⟨l, ns, rfl, hq, hl, q1⟩ := q1
  cases r1
  obtain ⟨its, r, pl, hz⟩ := I1.list hq
  have hlen : its.toArray.size = ns.length := by rw [List.size_toArray, ← r.length, List.length_map]
  refine call_set_list (I1.ok.hd hc) pl.isList (by simpa using intsAre_vals r) (by rw [hlen]; unfold scanBound; omega) fun h' tk hS hk => ?_
  refine PyProof.Rows.args_nil ?_
  rw [hlen] at hS
  obtain ⟨o, es, ep, t, ho, hex, hd, _, _, _, hf, hn⟩ := hS
  have hle : (dedupI ns).length ≤ ns.length := PyProof.Rows.firstMet_length_le _ _
  have I2 : Inv X pins σ H1 { s1 with heap := h', toks := tk } := I1.kept fun b o e => hk b o (Heap.lt_size e) e
  have hn' : es.size = (dedupI ns).length := hn
  exact call_len_set ho hex hd hf (by rw [hn']; omega) ⟨.int ((dedupI ns).length : Nat), H1, I2.tok _, ⟨_, by rw [hn']⟩, q1⟩
section
variable {X : Cx} {σ : L2.St} {a : Expr} {G : Hp} {pos : Pos}
theorem jv_lenSet {ns : List Int} {p p2 q : Pos} (hc : X.calm = true) (hm : X.mg "len" = none) (hm2 : X.mg "set" = none) (ha : JD X σ a G (.list (ns.map eI))) (hl : ns.length ≤ 4000) (hg : Gl X "len") (hg2 : Gl X "set") (he : NoStar a) :
    JV X σ (.Call (.Name "len" p) [.Call (.Name "set" p2) [a] [] q] [] pos) G (.int ((dedupI ns).length : Nat)) := ⟨fun H eh Q k =>
  ⟨_, pe_lenSetG hg hm hg2 hm2 pe_w hc (he _ _), ha H eh _ fun G1 H1 x s1 p1 => by
    cases p1 with
    | lst h1 d1 =>
      have e := DxAll.ints d1
      subst e
      exact ⟨_, ns, rfl, SqL.of (s1.gh _ _ h1), hl, k H1 s1.h⟩⟩⟩
theorem firstMet_mem {f : Nat → Int} : ∀ n x, x ∈ PyProof.Rows.firstMet f n ↔ ∃ i, i < n ∧ f i = x
  | 0, x => by simp [PyProof.Rows.firstMet_zero]
  | n + 1, x => by
    rw [PyProof.Rows.firstMet_succ]
    unfold PyProof.Rows.step_dedup
    have ih := firstMet_mem (f := f) n
    split
    · rename_i hb
      rw [ih]
      constructor
      · rintro ⟨i, h1, h2⟩; exact ⟨i, by omega, h2⟩
      · rintro ⟨i, h1, h2⟩
        by_cases hi : i < n
        · exact ⟨i, hi, h2⟩
        · have e : i = n := by omega
          subst e
          obtain ⟨y, hy, ey⟩ := List.any_eq_true.mp hb
          have ey2 : y = f i := eq_of_beq ey
          subst ey2
          obtain ⟨j, h3, h4⟩ := (ih (f i)).mp hy
          exact ⟨j, h3, h4.trans h2⟩
    · rw [List.mem_append, ih]
      constructor
      · rintro (⟨i, h1, h2⟩ | h)
        · exact ⟨i, by omega, h2⟩
        · rw [List.mem_singleton] at h; exact ⟨n, by omega, h.symm⟩
      · rintro ⟨i, h1, h2⟩
        by_cases hi : i < n
        · exact .inl ⟨i, hi, h2⟩
        · have e : i = n := by omega
          subst e
          exact .inr (by simp [h2])
theorem firstMet_lt {f : Nat → Int} : ∀ n, (∃ i j, i < j ∧ j < n ∧ f i = f j) → (PyProof.Rows.firstMet f n).length < n
  | 0, ⟨i, j, _, h, _⟩ => by omega
  | n + 1, ⟨i, j, hij, hj, e⟩ => by
    have le := PyProof.Rows.firstMet_length_le f n
    rw [PyProof.Rows.firstMet_succ]
    unfold PyProof.Rows.step_dedup
    split
    · omega
    · rename_i hb
      by_cases hjn : j < n
      · have := firstMet_lt (f := f) n ⟨i, j, hij, hjn, e⟩
        rw [List.length_append, List.length_singleton]
        omega
      · have e2 : j = n := by omega
        subst e2
        exfalso
        apply hb
        exact List.any_eq_true.mpr ⟨f i, (firstMet_mem j (f i)).mpr ⟨i, hij, rfl⟩, by simp [e]⟩
theorem dedupI_nodup {ns : List Int} (h : ns.Nodup) : (dedupI ns).length = ns.length := by
  unfold dedupI
  rw [RZ.firstMet_nodup h ns.length (Nat.le_refl _), List.take_length]
theorem dedupI_le (ns : List Int) : (dedupI ns).length ≤ ns.length := PyProof.Rows.firstMet_length_le _ _
theorem dedupI_iff {ns : List Int} : (dedupI ns).length = ns.length ↔ ns.Nodup := by
  refine ⟨fun h => ?_, dedupI_nodup⟩
  by_cases hn : ns.Nodup
  · exact hn
  · exfalso
    unfold List.Nodup at hn
    rw [List.pairwise_iff_getElem] at hn
    have : ∃ i j, ∃ (hi : i < ns.length) (hj : j < ns.length), i < j ∧ ns[i] = ns[j] := by
      refine Classical.byContradiction fun no => hn fun i j hi hj hij e => no ⟨i, j, hi, hj, hij, e⟩
    obtain ⟨i, j, hi, hj, hij, e⟩ := this
    have := firstMet_lt (f := fun i => ns.getD i 0) ns.length ⟨i, j, hij, hj, by simp [List.getD_eq_getElem?_getD, hi, hj, e]⟩
    unfold dedupI at h
    omega
end
end TP

set_option Elab.async false
set_option linter.all false
set_option maxRecDepth 100000
set_option maxHeartbeats 2000000
namespace TP
open PySem PySem.Spec PyProof.Rows L2
open Evl (Ex)
/-! ### what is new all through: it leans on nothing that stood before -/
structure JPF (X : Cx) (σ : L2.St) (e : Expr) (G : Hp) (P : Hp → V → Prop) : Prop where
  run : ∀ H, Ex G H → ∀ Q : VK, (∀ G' H' v F, Stp G H G' H' → Ex F G' → (∀ a, F a ≠ none → H a = none) → P F v → Q v H') → wE X e σ H Q
instance {X : Cx} {σ : L2.St} {e : Expr} {G : Hp} {P : Hp → V → Prop} : CoeFun (JPF X σ e G P) (fun _ => ∀ H, Ex G H → ∀ Q : VK, (∀ G' H' v F, Stp G H G' H' → Ex F G' → (∀ a, F a ≠ none → H a = none) → P F v → Q v H') → wE X e σ H Q) := ⟨fun h => h.run⟩
section
variable {X : Cx} {σ : L2.St} {e a b c tg iter elt : Expr} {es : List Expr} {G G1 : Hp} {v u : V} {d d1 d2 : PyData} {ds : List PyData} {pos : Pos} {i j k : Int} {x : Str} {st : Stmt} {rest body : List Stmt} {D : Ends} {G0 H0 H : Hp} {os : List (Addr × HO)} {P : Hp → V → Prop} {scope : Scope}
theorem JPF.toP (mo : Mo P) (h : JPF X σ e G P) : JP X σ e G P := ⟨fun H eh Q q => h H eh Q fun G' H' v F s eF _ p => q G' H' v s (mo _ _ _ eF p)⟩
theorem JPF.toD (h : JPF X σ e G (kD d)) : JD X σ e G d := (h.toP mo_D).toD
theorem JPF.mono (m : Ex G G1) (h : JPF X σ e G P) : JPF X σ e G1 P := ⟨fun H eh Q q => h H (m.trans eh) Q fun G' H' v F s eF fr p =>
  let ⟨s1, e1⟩ := Stp.wide m eh s
  q _ H' v F s1 (eF.trans e1) fr p⟩
/-- list(xs) of numbers -/
theorem jf_listN {ns : List Nat} {p : Pos} (hm : X.mg "list" = none) (ha : JD X σ a G (eNs ns)) (hg : Gl X "list") (hb : bootBuiltins "list" = some (.type "list")) (he : NoStar a) : JPF X σ (.Call (.Name "list" p) [a] [] pos) G (kD (eNs ns)) := ⟨fun H eh Q q =>
  jn_listOf hm ha hg hb he H eh Q fun G' H' l vs s hl gl hq hd => by
    have hd2 : DxAll (fun b => if b = l then some (HO.lst vs) else none) vs (ns.map eN) := by
      have e1 : vs = (ns.map fun n : Nat => (n : Int)).map V.int := DxAll.ints (by rw [List.map_map]; exact hd)
      have e2 := DxAll.of_ints (H := fun b => if b = l then some (HO.lst vs) else none) (ns.map fun n : Nat => (n : Int))
      rw [← e1, List.map_map] at e2
      exact e2
    refine q (upd G' l (.lst vs)) H' _ (fun b => if b = l then some (HO.lst vs) else none) ?_ ?_ ?_ (.lst (by simp) hd2)
    · refine ⟨s.g.trans (Ex.new gl), fun b o e => ?_, s.h, fun b hb e => ?_⟩
      · by_cases z : b = l
        · subst z; rw [upd_same] at e; cases e; exact hq
        · rw [upd_ne z] at e; exact s.gh b o e
      · by_cases z : b = l
        · subst z; exact absurd hl hb
        · rw [upd_ne z] at e; exact s.fr b hb e
    · intro b o e
      by_cases z : b = l
      · subst z; simp at e; subst e; exact upd_same
      · simp [z] at e
    · intro b hb
      by_cases z : b = l
      · subst z; exact hl
      · simp [z] at hb⟩
theorem join_ex {F F2 G : Hp} (h1 : Ex F G) (h2 : Ex F2 G) : Ex F (join F F2) ∧ Ex F2 (join F F2) ∧ Ex (join F F2) G := by
  refine ⟨fun a o e => by unfold join; rw [e], fun a o e => ?_, fun a o e => ?_⟩
  · unfold join
    cases q : F a with
    | none => exact e
    | some z =>
      have w := h2 a o e
      rw [h1 a z q] at w
      exact w
  · unfold join at e
    cases q : F a with
    | none => rw [q] at e; exact h2 a o e
    | some z => rw [q] at e; cases e; exact h1 a _ q
theorem join_fr {F F2 : Hp} {b : Addr} (h : join F F2 b ≠ none) : F b ≠ none ∨ F2 b ≠ none := by
  unfold join at h
  cases q : F b with
  | none => rw [q] at h; exact .inr h
  | some z => exact .inl (by simp)
/-- [elt for y in iter], each element new all through -/
theorem lc_readF {α : Type} {f0 : α → PyData} {xs : List α} {f : α → PyData} {n : Nat} {y : Str} {py : Pos} (hi : JI X σ (.Name y py) iter G (xs.map f0)) (hl : xs.length < 100000) (hc : X.calm = true) (hN : X.N.Nodup) (hn : X.N[n]? = some y) (hy : ∀ s h C cl fp, Loc (Blk X scope s h C cl fp).env.scope y ∧ ((Blk X scope s h C cl fp).fn y = true ∨ (Blk X scope s h C cl fp).env.scope.names.lookup y = some .local))
    (ok : blkC X.N X.env.scope scope [(y, n)] = true) (hs : ∀ x, foldedSetIterable iter X.env x = pure x)
    (he : ∀ s h C cl fp, ∀ x ∈ xs, ∀ G' v, Ex G G' → Dx G' v (f0 x) → JPF (Blk X scope s h C cl fp) (σ.set n (some v)) elt G' (kD (f x))) :
    ∀ H, Ex G H → ∀ Q : VK, (∀ G' H' v F, Stp G H G' H' → Ex F G' → (∀ a, F a ≠ none → H a = none) → kD (.list (xs.map f)) F v → Q v H') → tLc (fun σ H R => ∃ wi, PI X (.Name y py) iter wi ∧ wi σ H R) (bG X scope (.Name y py)) tYes (bE X scope elt) [n] σ H Q := fun H eh Q q => by
  have hw : ∀ v, wipe ((σ.set n none).set n (some v)) [n] = wipe σ [n] := fun v => by simp [wipe, List.set_set]
  refine hi H eh _ fun G1 H1 J s1 w D hD => ?_
  have h1 : Hs G1 H1 G1 H1 [] := .nil s1.gh
  unfold WalkD at w
  rw [List.length_map] at w
  refine lc_it w (fun i H => ∃ G' F ws, Hs G1 H1 G' H [(D, .lst ws)] ∧ Ex F G' ∧ (∀ a, F a ≠ none → H1 a = none) ∧ DxAll F ws ((xs.take i).map f)) ⟨G1, fun _ => none, [], h1.new hD, (fun _ _ e => nomatch e), (fun _ e => absurd rfl e), DxAll.nil⟩ (fun i H _ ⟨G', F, ws, hs, _⟩ => hs.st.g.trans hs.ex) ?_ ?_
  · rintro i x H2 H2' hlt ⟨G', F, ws, hs, eF, fr, hd⟩ ⟨rfl, d, hd1, pd⟩
    have hx : xs[i]? = some xs[i] := List.getElem?_eq_getElem hlt
    have ed : d = f0 xs[i] := by
      rw [List.getElem?_map, hx] at hd1
      exact (Option.some.inj hd1).symm
    subst ed
    have tk : xs.take (i + 1) = xs.take i ++ [xs[i]] := by rw [List.take_succ, hx]; rfl
    have eg : Ex G G' := s1.g.trans hs.st.g
    have len : ws.length < sizeLine := by
      rw [hd.length, List.length_map]
      have a2 : (xs.take i).length ≤ xs.length := by rw [List.length_take]; omega
      exact Evl.sz_lt (by omega)
    refine fun s h C cl fp => wg_name (X := Blk X scope s h C cl fp) hN hn (hy s h C cl fp).1 (hy s h C cl fp).2 ⟨hw x, ?_⟩
    dsimp only [tYes]
    rw [if_pos rfl]
    intro s' h' C' cl' fp'
    have := he s' h' C' cl' fp' xs[i] (List.getElem_mem hlt) G' x eg (pd.mono hs.st.g)
    show wE _ elt ((σ.set n none).set n (some x)) _ _
    rw [List.set_set]
    refine this H2' hs.ex _ fun G4 H4 v F4 s4 eF4 fr4 p4 => ?_
    have hs4 := hs.stp s4
    obtain ⟨j1, j2, j3⟩ := join_ex (eF.trans s4.g) eF4
    refine ⟨ws, hs4.at0, len, G4, join F F4, ws ++ [v], hs4.put0, j3, fun a ha => ?_, ?_⟩
    · rcases join_fr ha with z | z
      · exact fr a z
      · exact Evl.fresh_back hs.st.h (fr4 a z)
    · rw [tk, List.map_append]
      exact (hd.mono j1).snoc (p4.mono j2)
  · rintro H2 ⟨G', F, ws, hs, eF, fr, hd⟩
    rw [List.take_length] at hd
    obtain ⟨hf, e1⟩ := hs.fix
    have o0 := hs.own _ List.mem_cons_self
    have FD : F D = none := by
      cases z : F D with
      | none => rfl
      | some o =>
        have := eF D o z
        rw [o0.1] at this
        cases this
    refine q (upd G' D (.lst ws)) H2 _ (upd F D (.lst ws)) (s1.trans hf.st) (fun b o e => ?_) (fun b hb => ?_) (.lst upd_same (hd.mono (Ex.new FD)))
    · by_cases z : b = D
      · subst z; rw [upd_same] at e ⊢; exact e
      · rw [upd_ne z] at e ⊢; exact eF b o e
    · by_cases z : b = D
      · subst z; exact Evl.fresh_back s1.h hD
      · rw [upd_ne z] at hb; exact Evl.fresh_back s1.h (fr b hb)
theorem jf_lc {α : Type} {f0 : α → PyData} {xs : List α} {f : α → PyData} {n : Nat} {y : Str} {py : Pos} (hi : JI X σ (.Name y py) iter G (xs.map f0)) (hl : xs.length < 100000) (hc : X.calm = true) (hN : X.N.Nodup) (hn : X.N[n]? = some y) (hy : ∀ s h C cl fp, Loc (Blk X scope s h C cl fp).env.scope y ∧ ((Blk X scope s h C cl fp).fn y = true ∨ (Blk X scope s h C cl fp).env.scope.names.lookup y = some .local))
    (ok : blkC X.N X.env.scope scope [(y, n)] = true) (hs : ∀ x, foldedSetIterable iter X.env x = pure x)
    (he : ∀ s h C cl fp, ∀ x ∈ xs, ∀ G' v, Ex G G' → Dx G' v (f0 x) → JPF (Blk X scope s h C cl fp) (σ.set n (some v)) elt G' (kD (f x))) :
    JPF X σ (.ListComp elt [⟨.Name y py, iter, [], 0⟩] scope pos) G (kD (.list (xs.map f))) := ⟨fun H eh Q q =>
  ⟨_, pe_lc (wi := fun σ H R => ∃ wi, PI X (.Name y py) iter wi ∧ wi σ H R) hc hN ⟨fun pins s σ H R I ⟨_, h, q⟩ => h.run pins s σ H R I q⟩ (blkOk_by ok) pg_b (fun s h C cl fp => pts_nil) pe_b hs, lc_readF hi hl hc hN hn hy ok hs he H eh Q q⟩⟩
theorem b_setLcF {m : Nat} {z : Str} {pz q : Pos} (h : Hs G0 H0 G H os) {α : Type} {f0 : α → PyData} {xs : List α} {f : α → PyData} {n : Nat} {y : Str} {py : Pos} (hi : JI X σ (.Name y py) iter G (xs.map f0)) (hl : xs.length < 100000) (hc : X.calm = true) (hN : X.N.Nodup) (hn : X.N[n]? = some y) (hy : ∀ s h C cl fp, Loc (Blk X scope s h C cl fp).env.scope y ∧ ((Blk X scope s h C cl fp).fn y = true ∨ (Blk X scope s h C cl fp).env.scope.names.lookup y = some .local))
    (ok : blkC X.N X.env.scope scope [(y, n)] = true) (hs : ∀ x, foldedSetIterable iter X.env x = pure x)
    (he : ∀ s h C cl fp, ∀ x ∈ xs, ∀ G' v, Ex G G' → Dx G' v (f0 x) → JPF (Blk X scope s h C cl fp) (σ.set n (some v)) elt G' (kD (f x))) (hm : X.N[m]? = some z) (hz : X.env.scope.names.lookup z = some .local)
    (hsw : swapsWith (.ListComp elt [⟨.Name y py, iter, [], 0⟩] scope pos) (some (.Name z pz)) q.line X.env = pure true)
    (k : ∀ G' H' v, Hs G0 H0 G' H' os → Ex G G' → Ex H H' → (∃ F, Ex F G' ∧ (∀ a, F a ≠ none → H a = none) ∧ Dx F v (.list (xs.map f))) → wSs X rest D (σ.set m (some v)) H') :
    wSs X (.Assign [.Name z pz] (.ListComp elt [⟨.Name y py, iter, [], 0⟩] scope pos) q :: rest) D σ H :=
  b_cons ⟨_, ps_setLc (wi := fun σ H R => ∃ wi, PI X (.Name y py) iter wi ∧ wi σ H R) hc hN hm hz hsw ⟨fun pins s σ H R I ⟨_, h, q⟩ => h.run pins s σ H R I q⟩ (blkOk_by ok) pg_b (fun s h C cl fp => pts_nil) pe_b hs,
    lc_readF hi hl hc hN hn hy ok hs he H h.ex _ fun G' H' v F s eF fr pv => k G' H' v (h.stp s) s.g s.h ⟨F, eF, fr, pv⟩⟩

/-! ### a new instance -/
/-- what an __init__ promises: x, new, gets the attributes fs -/
def spMk {ι : Type} (C : Addr) (pre : ι → Prop) (Ps : ι → List (Hp → V → Prop)) (R : ι → Hp → List (Str × V) → Prop) : Sp := fun vs H Q _ =>
  ∃ i G H0 x dx us, vs = .ref x :: us ∧ Hs G H0 G H [(x, .ins C dx []), (dx, .own x)] ∧ pre i ∧ Al G (Ps i) us ∧
    ∀ G' H' fs F, Hs G H0 G' H' [(x, .ins C dx fs), (dx, .own x)] → Ex F G' → (∀ a, F a ≠ none → H0 a = none) → R i F fs → Q .non H'
theorem made_hs {G H : Hp} {x dx C : Addr} (eh : Ex G H) (hx : H x = none) (hd : H dx = none) (ne : dx ≠ x) : Hs G H G (upd (upd H dx (.own x)) x (.ins C dx [])) [(x, .ins C dx []), (dx, .own x)] := by
  have h1 : Hs G H G (upd H dx (.own x)) [(dx, .own x)] := (Hs.nil eh).new hd
  exact h1.new (by rw [upd_ne ne.symm]; exact hx)
theorem jp_make {ι : Type} {pre : ι → Prop} {Ps : ι → List (Hp → V → Prop)} {R : ι → Hp → List (Str × V) → Prop} {C : Addr} {k : Nat} {p : Pos} (F : Mkr X.prog X.w X.K X.mg X.base C k (spMk C pre Ps R)) (hr : Room (k + 1) X.A) (hg : Gl X x) (hm : X.mg x = some (.ref C)) (i : ι) (hp : pre i)
    (ha : JA X σ (e :: es) G (fun G vs => Al G (Ps i) vs)) (hs : NoStar e) (hdb : (x == ("__debug__" : Str)) = false) (hpl : (backTo pos (starEach es X.env)).any (·.1) = false)
    (hR : ∀ F F' fs, Ex F F' → R i F fs → R i F' fs) :
    JPF X σ (.Call (.Name x p) (e :: es) [] pos) G (fun F v => ∃ a dx fs, v = .ref a ∧ F a = some (.ins C dx fs) ∧ R i F fs) := ⟨fun H eh Q q => by
  obtain ⟨f, fd, ps, hf, mk, hb⟩ := F
  refine ⟨_, pe_make mk hf hr hg hm hb .nil pass0 pa_w hdb (hs _ _) hpl, ha H eh _ fun G1 H1 vs s1 al xx dx hx hdx ne => ?_⟩
  rw [List.append_nil]
  refine ⟨i, G1, H1, xx, dx, vs, rfl, made_hs s1.gh hx hdx ne, hp, al, fun G' H' fs F h2 eF fr r => ⟨rfl, ?_⟩⟩
  obtain ⟨hf2, e2⟩ := h2.fix
  have o0 := h2.own _ List.mem_cons_self
  have FD : F xx = none := by
    cases z : F xx with
    | none => rfl
    | some o =>
      have := eF xx o z
      rw [o0.1] at this
      cases this
  refine q (upd G' xx (.ins C dx fs)) H' _ (upd F xx (.ins C dx fs)) (s1.trans hf2.st) (fun b o e => ?_) (fun b hb => ?_) ⟨xx, dx, fs, rfl, upd_same, hR _ _ _ (Ex.new FD) r⟩
  · by_cases z : b = xx
    · subst z; rw [upd_same] at e ⊢; exact e
    · rw [upd_ne z] at e ⊢; exact eF b o e
  · by_cases z : b = xx
    · subst z; exact Evl.fresh_back s1.h hx
    · rw [upd_ne z] at hb; exact Evl.fresh_back s1.h (fr b hb)⟩
/-- self.f = e, in an __init__ -/
theorem b_setFld {C dx oa : Addr} {fs : List (Str × V)} {o : Expr} {f : Str} {p q : Pos} (h : Hs G0 H0 G H ((oa, .ins C dx fs) :: os)) (cl : Cls X.K C) (hn : NoAttr X.K C f) (ho : ∀ G, JV X σ o G (.ref oa)) (hf : fs.length < 1000)
    (he : JP X σ e G P) (hs : swapsWith e (some (.Attribute o f p)) q.line X.env = pure false)
    (k : ∀ G' H' v, Hs G0 H0 G' H' ((oa, .ins C dx (putF f v fs)) :: os) → Ex G G' → P G' v → wSs X rest D σ H') : wSs X (.Assign [.Attribute o f p] e q :: rest) D σ H :=
  b_cons ⟨_, ps_fld pe_w pe_w hs, he H h.ex _ fun G1 H1 v s pv => (ho G1) H1 s.gh _ fun H2 e2 => by
    have h2 := (h.stp s).flat e2
    exact ⟨oa, C, dx, fs, rfl, h2.at0, cl, hn, hf, k G1 _ v h2.put0 s.g pv⟩⟩
theorem b_setFldF {C dx oa : Addr} {fs : List (Str × V)} {o : Expr} {f : Str} {p q : Pos} (h : Hs G0 H0 G H ((oa, .ins C dx fs) :: os)) (cl : Cls X.K C) (hn : NoAttr X.K C f) (ho : ∀ G, JV X σ o G (.ref oa)) (hf : fs.length < 1000)
    (he : JPF X σ e G P) (hs : swapsWith e (some (.Attribute o f p)) q.line X.env = pure false)
    (k : ∀ G' H' v, Hs G0 H0 G' H' ((oa, .ins C dx (putF f v fs)) :: os) → Ex G G' → (∃ F, Ex F G' ∧ (∀ a, F a ≠ none → H a = none) ∧ P F v) → wSs X rest D σ H') : wSs X (.Assign [.Attribute o f p] e q :: rest) D σ H :=
  b_cons ⟨_, ps_fld pe_w pe_w hs, he H h.ex _ fun G1 H1 v F s eF fr pv => (ho G1) H1 s.gh _ fun H2 e2 => by
    have h2 := (h.stp s).flat e2
    exact ⟨oa, C, dx, fs, rfl, h2.at0, cl, hn, hf, k G1 _ v h2.put0 s.g ⟨F, eF, fr, pv⟩⟩⟩
/-- THE RULE for an __init__ -/
theorem fun_okI {ι : Type} {P : Program} {w : World} {K : PySem.W.Frag} {mg : Str → Option Value} {base : Heap} {C : Addr} {pre : ι → Prop} {Ps : ι → List (Hp → V → Prop)} {R : ι → Hp → List (Str × V) → Prop} {x qual : Str} {st : Stmt} {f : Addr} {fd : FuncData} {N ps : List Str} {k : Nat} (F : Fun K x qual st f fd) (S : FnScope N ps (defScope st)) (hl : ∀ i, (Ps i).length + 1 = ps.length)
    (hb : ∀ (cdv : Value) (A : Around) (outer : List Env) (s : Shared) (H : Hp) (us : List V) (Q : VK) (E : XK) (i : ι) (G H0 : Hp) (x dx : Addr), Room k (A.deeper (envOfC qual (defScope st) s.heap.objs.size f cdv)) → pre i → Al G (Ps i) us → Hs G H0 G H [(x, .ins C dx []), (dx, .own x)] →
      (∀ G' H' fs F, Hs G H0 G' H' [(x, .ins C dx fs), (dx, .own x)] → Ex F G' → (∀ a, F a ≠ none → H0 a = none) → R i F fs → Q .non H') →
      wSs (cxOf CX0 P w K mg base N qual (defScope st) f cdv A outer s H E).nox (defBody st) { nx := fun _ H' => Q .non H', rt := Q } (start N (.ref x :: us)) H) : FnOk P w K mg base CX0 (k + 1) f fd ps (spMk C pre Ps R) := by
  refine F.ok S (fun vs H Q E ⟨i, G, H0, x, dx, us, e, _, _, al, _⟩ => by rw [e, List.length_cons, al.length]; exact hl i) fun cdv A outer s H vs Q E hr ⟨i, G, H0, x, dx, us, e, h, hp, al, k⟩ => ?_
  subst e
  exact hb cdv A outer s H us Q E i G H0 x dx hr hp al h k

/-! ### isinstance of data -/
theorem boot_isi : bootBuiltins "isinstance" = some (.builtin "isinstance") := by decide +kernel
theorem boot_tint : bootBuiltins "int" = some (.type "int") := by decide +kernel
theorem boot_tbool : bootBuiltins "bool" = some (.type "bool") := by decide +kernel
theorem boot_tlist : bootBuiltins "list" = some (.type "list") := by decide +kernel
theorem boot_ttuple : bootBuiltins "tuple" = some (.type "tuple") := by decide +kernel
theorem kit_ii : kitB "int" "int" = some true := by decide +kernel
theorem kit_ib : kitB "int" "bool" = some false := by decide +kernel
theorem kit_bi : kitB "bool" "int" = some true := by decide +kernel
theorem kit_bb : kitB "bool" "bool" = some true := by decide +kernel
theorem kit_li : kitB "list" "int" = some false := by decide +kernel
theorem kit_ll : kitB "list" "list" = some true := by decide +kernel
theorem kit_tt : kitB "tuple" "tuple" = some true := by decide +kernel
theorem kit_tl : kitB "tuple" "list" = some false := by decide +kernel
theorem kit_lt : kitB "list" "tuple" = some false := by decide +kernel
theorem kit_tb : kitB "list" "bool" = some false := by decide +kernel
def dty : PyData → String
  | .none => "NoneType"
  | .bool _ => "bool"
  | .int _ => "int"
  | .str _ => "str"
  | .list _ => "list"
  | .tuple _ => "tuple"
  | .dict _ => "dict"
theorem Dx.ty {K : PySem.W.Frag} (h : Dx H v d) : TyX K H v (.type (dty d)) := by
  cases h with
  | non => exact .base .non
  | bl b => exact .base (.bl b)
  | int i => exact .base (.int i)
  | str x => exact .base (.str x)
  | lst h _ => exact .base (.lst h)
  | tup h _ => exact .base (.tup h)
theorem jv_isi {T : Str} {Ty : String} {r : Bool} {p p2 : Pos} (hbT : bootBuiltins T = some (.type Ty)) (hm : X.mg "isinstance" = none) (hT : X.mg T = none) (ha : JD X σ a G d) (hk : kitB (dty d) Ty = some r) (hg : Gl X "isinstance") (hg2 : Gl X T) (hb : bootBuiltins "isinstance" = some (.builtin "isinstance")) (he : NoStar a)
    (hn : T ≠ "__name__") (hdd : (T == ("__debug__" : Str)) = false) :
    JV X σ (.Call (.Name "isinstance" p) [a, .Name T p2] [] pos) G (.bl r) := ⟨fun H eh Q q =>
  ⟨_, pe_callB call_isi hg hm hb (pa_cons pe_w (pa_cons (pe_bltn hg2 hT hbT (v := .ty Ty) rfl hn hdd) pa_nil rfl) (he _ _)) (he := he _ _), ha H eh _ fun G1 H1 x s1 p1 =>
    ⟨x, .ty Ty, _, _, r, rfl, .ty _, (p1.mono s1.gh).ty, kit_ty hk, q H1 s1.h⟩⟩⟩
end
end TP
namespace TP
open PySem PySem.Spec PyProof.Rows L2
open Evl (Ex)
/-! ### promises of what is new: all through (F), a new list (N) -/
def spOfF {ι : Type} (pre : ι → Prop) (Ps : ι → List (Hp → V → Prop)) (R : ι → Hp → V → Prop) : Sp := fun vs H Q _ =>
  ∃ i G, Ex G H ∧ pre i ∧ Al G (Ps i) vs ∧ ∀ G' H' v F, Stp G H G' H' → Ex F G' → (∀ a, F a ≠ none → H a = none) → R i F v → Q v H'
def spOfN {ι : Type} (pre : ι → Prop) (Ps : ι → List (Hp → V → Prop)) (ds : ι → List PyData) : Sp := fun vs H Q _ =>
  ∃ i G, Ex G H ∧ pre i ∧ Al G (Ps i) vs ∧ ∀ G' H' p ws, Stp G H G' H' → H p = none → G' p = none → H' p = some (.lst ws) → DxAll G' ws (ds i) → Q (.ref p) H'
theorem Hs.back {G0 H0 G H G' H' : Hp} {os os' : List (Addr × HO)} (h : Hs G0 H0 G H os) (h' : Hs G0 H0 G' H' os') (e : Ex G G') : Hs G0 H0 G H' os' :=
  ⟨⟨h.st.g, e.trans h'.ex, h'.st.h, h.st.fr⟩, fun x hx => let ⟨a, b, c⟩ := h'.own x hx; ⟨Evl.fresh_back e a, b, c⟩, h'.nd⟩
section
variable {P : Program} {w : World} {K : PySem.W.Frag} {mg : Str → Option Value} {base : Heap}
theorem fun_okF {ι : Type} {pre : ι → Prop} {Ps : ι → List (Hp → V → Prop)} {R : ι → Hp → V → Prop} {x qual : Str} {st : Stmt} {f : Addr} {fd : FuncData} {N ps : List Str} {k : Nat} (F : Fun K x qual st f fd) (S : FnScope N ps (defScope st)) (hl : ∀ i, (Ps i).length = ps.length)
    (hb : ∀ (cdv : Value) (A : Around) (outer : List Env) (s : Shared) (H : Hp) (vs : List V) (Q : VK) (E : XK) (i : ι) (G : Hp), Room k (A.deeper (envOfC qual (defScope st) s.heap.objs.size f cdv)) → pre i → Al G (Ps i) vs → Hs G H G H [] →
      (∀ G' H' v F, Stp G H G' H' → Ex F G' → (∀ a, F a ≠ none → H a = none) → R i F v → Q v H') →
      wSs (cxOf CX0 P w K mg base N qual (defScope st) f cdv A outer s H E).nox (defBody st) { nx := fun _ H' => Q .non H', rt := Q } (start N vs) H) : FnOk P w K mg base CX0 (k + 1) f fd ps (spOfF pre Ps R) := by
  refine F.ok S (fun vs H Q E ⟨i, G, _, _, al, _⟩ => al.length.trans (hl i)) fun cdv A outer s H vs Q E hr ⟨i, G, eh, hp, al, k⟩ => ?_
  exact hb cdv A outer s H vs Q E i G hr hp al (.nil eh) k
theorem fun_okN {ι : Type} {pre : ι → Prop} {Ps : ι → List (Hp → V → Prop)} {ds : ι → List PyData} {x qual : Str} {st : Stmt} {f : Addr} {fd : FuncData} {N ps : List Str} {k : Nat} (F : Fun K x qual st f fd) (S : FnScope N ps (defScope st)) (hl : ∀ i, (Ps i).length = ps.length)
    (hb : ∀ (cdv : Value) (A : Around) (outer : List Env) (s : Shared) (H : Hp) (vs : List V) (Q : VK) (E : XK) (i : ι) (G : Hp), Room k (A.deeper (envOfC qual (defScope st) s.heap.objs.size f cdv)) → pre i → Al G (Ps i) vs → Hs G H G H [] →
      (∀ G' H' p ws os, Hs G H G' H' ((p, .lst ws) :: os) → DxAll G' ws (ds i) → Q (.ref p) H') →
      wSs (cxOf CX0 P w K mg base N qual (defScope st) f cdv A outer s H E).nox (defBody st) { nx := fun _ H' => Q .non H', rt := Q } (start N vs) H) : FnOk P w K mg base CX0 (k + 1) f fd ps (spOfN pre Ps ds) := by
  refine F.ok S (fun vs H Q E ⟨i, G, _, _, al, _⟩ => al.length.trans (hl i)) fun cdv A outer s H vs Q E hr ⟨i, G, eh, hp, al, k⟩ => ?_
  refine hb cdv A outer s H vs Q E i G hr hp al (.nil eh) fun G' H' p ws os h hd => ?_
  have o0 := h.own _ List.mem_cons_self
  exact k G' H' p ws h.st o0.2.2 o0.1 o0.2.1 hd
end
section
variable {X : Cx} {σ : L2.St} {e o a b c : Expr} {es : List Expr} {G G0 H0 H : Hp} {pos : Pos} {x : Str} {k : Nat} {ι : Type} {pre : ι → Prop} {Ps : ι → List (Hp → V → Prop)} {R : ι → Hp → V → Prop} {ds : ι → List PyData} {rest : List Stmt} {D : Ends} {os : List (Addr × HO)} {P : Hp → V → Prop}
theorem jn_call {p : Pos} (F : Df X.prog X.w X.K X.mg X.base x k (spOfN pre Ps ds)) (hr : Room k X.A) (hg : Gl X x) (i : ι) (hp : pre i) (ha : JA X σ (e :: es) G (fun G vs => Al G (Ps i) vs)) (hs : NoStar e) (hdb : (x == ("__debug__" : Str)) = false)
    (hpl : (backTo pos (starEach es X.env)).any (·.1) = false) : JN X σ (.Call (.Name x p) (e :: es) [] pos) G (ds i) := ⟨fun H eh Q q => by
  obtain ⟨f, fd, ps, hf, hm, hk, hb⟩ := F
  refine ⟨_, pe_call hf hr hg hm hk hb .nil pass0 pa_w hdb (hs _ _) hpl, ha H eh _ fun G1 H1 vs s1 al => ?_⟩
  rw [List.append_nil]
  exact ⟨i, G1, s1.gh, hp, al, fun G2 H2 l ws s2 hl gl hq hd => q G2 H2 l ws (s1.trans s2) (Evl.fresh_back s1.h hl) gl hq hd⟩⟩
theorem jf_meth0 {C : Addr} {m : Str} {p : Pos} {oa : Addr} {A : List (Str × V)} {pl : Sem Bool} (F : Mt X.prog X.w X.K X.mg X.base C m k (spOfF pre Ps R)) (cl : Cls X.K C) (ho : JV X σ o G (.ref oa)) (hi : InsAt G oa C A) (hA : A.lookup m = none) (hr : Room k X.A) (i : ι) (hp : pre i)
    {P0 : Hp → V → Prop} (hP : Ps i = [P0]) (h0 : P0 G (.ref oa))
    (ht : eval (.Call (.Attribute o m p) [] [] pos) X.env = (do
      let ov ← eval o X.env
      standAt p.atName
      let (f, first) ← holding [ov] (getMethod ov m pl)
      callWith pos f first (backTo pos (starEach [] X.env)) (backToKw pos (keywordEach [] X.env)))) : JPF X σ (.Call (.Attribute o m p) [] [] pos) G (R i) := ⟨fun H eh Q q => by
  obtain ⟨f, fd, ps, hf, hm, hb⟩ := F
  obtain ⟨dx, fs, hG, hfs⟩ := hi.ex
  refine ⟨_, pe_meth0 pe_w cl hm hf hr hb .nil pass0 ht, ho H eh _ fun H1 e1 => ⟨oa, dx, fs, rfl, e1 _ _ (eh _ _ hG), (hfs m).trans hA, ?_⟩⟩
  refine ⟨i, G, eh.trans e1, hp, by rw [hP]; exact ⟨h0, trivial⟩, fun G3 H3 v F s3 eF fr r => q G3 H3 v F ?_ eF (fun a ha => Evl.fresh_back e1 (fr a ha)) r⟩
  exact (Stp.flat eh e1).trans s3⟩
theorem b_retF {q : Pos} (h : Hs G0 H0 G H os) (he : JPF X σ e G P) (k : ∀ G' H' v F, Stp G H G' H' → Ex F G' → (∀ a, F a ≠ none → H a = none) → P F v → D.rt v H') : wSs X (.Return (some e) q :: rest) D σ H :=
  b_cons ⟨_, ps_ret pe_w, he H h.ex _ k⟩
theorem b_retN {q : Pos} {dss : List PyData} (h : Hs G0 H0 G H os) (he : JN X σ e G dss) (k : ∀ G' H' p ws, Hs G0 H0 G' H' ((p, .lst ws) :: os) → DxAll G' ws dss → D.rt (.ref p) H') : wSs X (.Return (some e) q :: rest) D σ H :=
  b_cons ⟨_, ps_ret pe_w, he H h.ex _ fun G' H' l vs s hp gp hq hd => k G' H' l vs (h.newL s hp gp hq) hd⟩
/-- return x, x one's own list -/
theorem b_retOwn {n : Nat} {p q : Pos} {l : Addr} (hs : σ[n]? = some (some (.ref l))) (hN : X.N[n]? = some x) (hv : Vis X.env.scope x) (hd : (x == ("__debug__" : Str)) = false) (hcd : (x == ("__classdict__" : Str)) = false) (k : D.rt (.ref l) H) : wSs X (.Return (some (.Name x p)) q :: rest) D σ H :=
  b_cons ⟨_, ps_ret (pe_var hN hv hd hcd), _, hs, k⟩
theorem b_setF {n : Nat} {p q : Pos} (h : Hs G0 H0 G H os) (he : JPF X σ e G P) (hN : X.N.Nodup) (hi : X.N[n]? = some x) (hx : Loc X.env.scope x) (hs : swapsWith e (some (.Name x p)) q.line X.env = pure false) (hf : X.fn x = true ∨ X.env.scope.names.lookup x = some .local)
    (k : ∀ G' H' v, Hs G0 H0 G' H' os → Ex G G' → Ex H H' → (∃ F, Ex F G' ∧ (∀ a, F a ≠ none → H a = none) ∧ P F v) → wSs X rest D (σ.set n (some v)) H') : wSs X (.Assign [.Name x p] e q :: rest) D σ H :=
  b_setW hN hi hx hs hf (he H h.ex _ fun G1 H1 v F s eF fr pv => k G1 H1 v (h.stp s) s.g s.h ⟨F, eF, fr, pv⟩)
end
end TP

set_option Elab.async false
set_option linter.all false
set_option maxRecDepth 100000
set_option maxHeartbeats 2000000
namespace TP
open PySem PySem.Spec PyProof.Rows L2
open Evl (Ex)
/-! ### a block's end may be said more weakly -/
section
variable {X : Cx} {σ : L2.St} {e o a b c tg iter : Expr} {es : List Expr} {G G1 Ge : Hp} {v u : V} {d d1 d2 : PyData} {ds : List PyData} {pos : Pos} {i j k : Int} {x : Str} {st : Stmt} {rest body : List Stmt} {D : Ends} {G0 H0 H : Hp} {os : List (Addr × HO)} {P : Hp → V → Prop}
theorem wSs.mono {sts : List Stmt} {D' : Ends} (h : wSs X sts D σ H) (m : ∀ s h, D.nx s h → D'.nx s h) (r : ∀ v h, D.rt v h → D'.rt v h) (b : ∀ s h, D.bk s h → D'.bk s h) (c : ∀ s h, D.ct s h → D'.ct s h) : wSs X sts D' σ H := by
  obtain ⟨t, ht, q⟩ := h
  refine ⟨fun D' σ H => ∃ D, t D σ H ∧ (∀ s h, D.nx s h → D'.nx s h) ∧ (∀ v h, D.rt v h → D'.rt v h) ∧ (∀ s h, D.bk s h → D'.bk s h) ∧ (∀ s h, D.ct s h → D'.ct s h), ⟨fun pins s σ H D' I ⟨D, q, m, r, b, c⟩ => ?_⟩, D, q, m, r, b, c⟩
  refine thn (ht.run pins s σ H D I q) fun f s' z => ?_
  cases f with
  | next => obtain ⟨σ', H', I', z⟩ := z; exact ⟨σ', H', I', m _ _ z⟩
  | brk => obtain ⟨σ', H', I', z⟩ := z; exact ⟨σ', H', I', b _ _ z⟩
  | cont => obtain ⟨σ', H', I', z⟩ := z; exact ⟨σ', H', I', c _ _ z⟩
  | ret u => obtain ⟨v, σ', H', I', rv, z⟩ := z; exact ⟨v, σ', H', I', rv, r _ _ z⟩
/-- if, both ways meeting in W -/
theorem b_ifK {p : Bool} {els : List Stmt} {q : Pos} (W : L2.St → Hp → Hp → Prop) (h : Hs G0 H0 G H os) (eg : Ex Ge H) (hc : JT X σ c Ge p)
    (h1 : p = true → ∀ H', Hs G0 H0 G H' os → Ex H H' → wSs X body { D with nx := fun s h => ∃ g, W s g h } σ H') (h2 : p = false → ∀ H', Hs G0 H0 G H' os → Ex H H' → wSs X els { D with nx := fun s h => ∃ g, W s g h } σ H')
    (k : ∀ s g h, W s g h → wSs X rest D s h) : wSs X (.If c body els q :: rest) D σ H :=
  b_cons ⟨_, ps_if pt_w pss_w pss_w, hc H eg _ fun H1 e1 => by
    cases p with
    | true => rw [if_pos rfl]; exact (h1 rfl H1 (h.flat e1) e1).mono (fun s h ⟨g, z⟩ => k s g h z) (fun _ _ z => z) (fun _ _ z => z) (fun _ _ z => z)
    | false => rw [if_neg Bool.false_ne_true]; exact (h2 rfl H1 (h.flat e1) e1).mono (fun s h ⟨g, z⟩ => k s g h z) (fun _ _ z => z) (fun _ _ z => z) (fun _ _ z => z)⟩
/-- if, the test read over another fixed part -/
theorem b_ifG {p : Bool} {els : List Stmt} {q : Pos} (h : Hs G0 H0 G H os) (eg : Ex Ge H) (hc : JT X σ c Ge p) (h1 : p = true → ∀ H', Hs G0 H0 G H' os → wSs X body { D with nx := wSs X rest D } σ H')
    (h2 : p = false → ∀ H', Hs G0 H0 G H' os → wSs X els { D with nx := wSs X rest D } σ H') : wSs X (.If c body els q :: rest) D σ H :=
  b_cons ⟨_, ps_if pt_w pss_w pss_w, hc H eg _ fun H1 e1 => by
    cases p with
    | true => rw [if_pos rfl]; exact h1 rfl H1 (h.flat e1)
    | false => rw [if_neg Bool.false_ne_true]; exact h2 rfl H1 (h.flat e1)⟩
theorem b_setVG {n : Nat} {p q : Pos} (h : Hs G0 H0 G H os) (eg : Ex Ge H) (he : JV X σ e Ge v) (hN : X.N.Nodup) (hi : X.N[n]? = some x) (hx : Loc X.env.scope x) (hs : swapsWith e (some (.Name x p)) q.line X.env = pure false) (hf : X.fn x = true ∨ X.env.scope.names.lookup x = some .local)
    (k : ∀ H', Hs G0 H0 G H' os → wSs X rest D (σ.set n (some v)) H') : wSs X (.Assign [.Name x p] e q :: rest) D σ H :=
  b_cons ⟨_, ps_set hN hi hx pe_w hs hf, he H eg _ fun H1 e1 => k H1 (h.flat e1)⟩
/-- the own list at the head, seen as fixed -/
theorem Hs.seen {p : Addr} {o : HO} (h : Hs G0 H0 G H ((p, o) :: os)) : Ex (upd G p o) H ∧ Ex G (upd G p o) := ⟨h.fix.1.ex, h.fix.2⟩
/-! ### more built-ins -/
theorem jv_min {p : Pos} (hc : X.calm = true) (hm : X.mg "min" = none) (ha : JV X σ a G (.int i)) (hb : JV X σ b G (.int j)) (hg : Gl X "min") (h0 : bootBuiltins "min" = some (.builtin "min")) (na : NoStar a) (nb : NoStar b) : JV X σ (.Call (.Name "min" p) [a, b] [] pos) G (.int (if j < i then j else i)) := ⟨fun H eh Q q =>
  ⟨_, pe_callB (call_min2 hc) hg hm h0 (pa_cons pe_w (pa_cons pe_w pa_nil (nb _ _)) (na _ _)) (he := na _ _) (hpl := by rw [nb] <;> rfl), ha H eh _ fun H1 e1 => hb H1 (eh.trans e1) _ fun H2 e2 => ⟨i, j, rfl, q H2 (e1.trans e2)⟩⟩⟩
theorem jv_max {p : Pos} (hc : X.calm = true) (hm : X.mg "max" = none) (ha : JV X σ a G (.int i)) (hb : JV X σ b G (.int j)) (hg : Gl X "max") (h0 : bootBuiltins "max" = some (.builtin "max")) (na : NoStar a) (nb : NoStar b) : JV X σ (.Call (.Name "max" p) [a, b] [] pos) G (.int (if j > i then j else i)) := ⟨fun H eh Q q =>
  ⟨_, pe_callB (call_max2 hc) hg hm h0 (pa_cons pe_w (pa_cons pe_w pa_nil (nb _ _)) (na _ _)) (he := na _ _) (hpl := by rw [nb] <;> rfl), ha H eh _ fun H1 e1 => hb H1 (eh.trans e1) _ fun H2 e2 => ⟨i, j, rfl, q H2 (e1.trans e2)⟩⟩⟩
/-- an item of a tuple of numbers, at a place that lies in it -/
theorem jp_ixTI {ns : List Int} (ha : JD X σ a G (.tuple (ns.map .int))) (hb : JV X σ b G (.int i)) (h0 : 0 ≤ i) (h1 : i < ns.length) (hs : PlainIx b) : JP X σ (.Subscript a b pos) G (fun _ v => ∃ n ∈ ns, v = .int n) := ⟨fun H eh Q q => by
  obtain ⟨n, rfl⟩ := Int.eq_ofNat_of_zero_le h0
  have hn : n < ns.length := by omega
  have := (jd_ixT (pos := pos) ha hb (d := .int ns[n]) (atI_nat (by rw [List.getElem?_map, List.getElem?_eq_getElem hn] <;> rfl)) hs)
  exact this H eh Q fun G' H' v s p => q G' H' v s ⟨_, List.getElem_mem hn, p.int_inv⟩⟩
/-! ### the script -/
abbrev Scr (K : PySem.W.Frag) (G : Hp) (a : Addr) (ns : List Int) : Prop := SqL K G a (ns.map V.int)
abbrev kS (K : PySem.W.Frag) (ns : List Int) : Hp → V → Prop := fun G v => ∃ a, v = .ref a ∧ Scr K G a ns
theorem mo_S {K : PySem.W.Frag} {ns : List Int} : Mo (kS K ns) := fun _ _ _ e ⟨a, h1, h2⟩ => ⟨a, h1, Evl.ex_l e h2⟩
theorem jv_lenS {ns : List Int} {sa : Addr} {p : Pos} (hm : X.mg "len" = none) (ha : JV X σ a G (.ref sa)) (hs : Scr X.K G sa ns) (hg : Gl X "len") (he : NoStar a) : JV X σ (.Call (.Name "len" p) [a] [] pos) G (.int ns.length) := ⟨fun H eh Q q =>
  ⟨_, pe_callB call_len_seq hg hm PySem.boot_len (pa_cons pe_w pa_nil (he _ _)) (he := he _ _), ha H eh _ fun H1 e1 => ⟨_, _, rfl, .inl (Evl.ex_l (eh.trans e1) hs), by rw [List.length_map]; exact q H1 e1⟩⟩⟩
theorem jv_ixS {ns : List Int} {sa : Addr} {n : Nat} (ha : JV X σ a G (.ref sa)) (hs : Scr X.K G sa ns) (hb : JV X σ b G (.int (n : Int))) (h : n < ns.length) (hp : PlainIx b) : JV X σ (.Subscript a b pos) G (.int (ns.getD n 0)) := ⟨fun H eh Q q =>
  ⟨_, pe_ix ix_list pe_w pe_w hp, ha H eh _ fun H1 e1 => hb H1 (eh.trans e1) _ fun H2 e2 => ⟨sa, _, n, _, rfl, rfl, Evl.ex_l ((eh.trans e1).trans e2) hs, atI_nat (by rw [List.getElem?_map, List.getElem?_eq_getElem h] <;> rfl), by
    have := q H2 (e1.trans e2)
    rw [List.getD_eq_getElem?_getD, List.getElem?_eq_getElem h] at this
    exact this⟩⟩⟩
/-! ### x.append(y.pop(e)), two lists of one's own -/
theorem b_appendPop {n m : Nat} {p ap cp q p2 ap2 cp2 : Pos} {t l : Addr} {y : Str} {xs ys : List V} (h : Hs G0 H0 G H ((t, .lst xs) :: (l, .lst ys) :: os)) (hs : σ[n]? = some (some (.ref t))) (hN : X.N[n]? = some x) (hv : Vis X.env.scope x)
    (hs2 : σ[m]? = some (some (.ref l))) (hN2 : X.N[m]? = some y) (hv2 : Vis X.env.scope y) (eg : Ex Ge H) (he : JP X σ e Ge (fun _ v => ∃ d : Nat, d < ys.length ∧ v = .int (d : Int))) (hl : xs.length < 100000) (hly : ys.length ≤ 100000)
    (hd : (x == ("__debug__" : Str)) = false) (hcd : (x == ("__classdict__" : Str)) = false) (hd2 : (y == ("__debug__" : Str)) = false) (hcd2 : (y == ("__classdict__" : Str)) = false) (ns : NoStar e)
    (hbase : attributeBase (.Name x p) "append" X.env (eval (.Name x p) X.env) = eval (.Name x p) X.env) (hline : (ap.endLine == cp.line) = true)
    (hfew : ((backTo cp (starEach [.Call (.Attribute (.Name y p2) "pop" ap2) [e] [] cp2] X.env)).all (fun x => !x.1) && (backToKw cp (keywordEach [] X.env)).all (fun x => x.1.isSome) && decide ([Expr.Call (.Attribute (.Name y p2) "pop" ap2) [e] [] cp2].length + ([] : List Keyword).length + (if ([] : List Keyword).isEmpty then 0 else 1) < 30)) = true)
    (hbase2 : attributeBase (.Name y p2) "pop" X.env (eval (.Name y p2) X.env) = eval (.Name y p2) X.env) (hline2 : (ap2.endLine == cp2.line) = true)
    (hfew2 : ((backTo cp2 (starEach [e] X.env)).all (fun x => !x.1) && (backToKw cp2 (keywordEach [] X.env)).all (fun x => x.1.isSome) && decide ([e].length + ([] : List Keyword).length + (if ([] : List Keyword).isEmpty then 0 else 1) < 30)) = true)
    (hsw : swapsWith (.Call (.Attribute (.Name x p) "append" ap) [.Call (.Attribute (.Name y p2) "pop" ap2) [e] [] cp2] [] cp) none q.line X.env = pure false)
    (k : ∀ H' d z, d < ys.length → ys[d]? = some z → Hs G0 H0 G H' ((t, .lst (xs ++ [z])) :: (l, .lst (ys.eraseIdx d)) :: os) → wSs X rest D σ H') :
    wSs X (.Expr (.Call (.Attribute (.Name x p) "append" ap) [.Call (.Attribute (.Name y p2) "pop" ap2) [e] [] cp2] [] cp) q :: rest) D σ H := by
  refine b_exprW hsw (we_append hs hN hv ⟨xs, h.at0⟩ ?_ hd hcd (fun _ _ => rfl) hbase hline hfew)
  refine we_lm PySem.F.slot_list_pop PySem.F.type_list_pop mt_popAt (we_var hs2 hN2 hv2 hd2 hcd2 ⟨rfl, ⟨ys, h.swap.at0⟩, ?_⟩) ns hbase2 hline2 hfew2
  refine he H eg _ fun G1 H1 v s ⟨d, hdl, ev⟩ => ?_
  subst ev
  have h1 := h.flat s.h
  have hz : ys[d]? = some ys[d] := List.getElem?_eq_getElem hdl
  refine ⟨l, ys, d, d, ys[d], rfl, rfl, h1.swap.at0, by omega, by omega, ?_, hz, ?_⟩
  · unfold seqIndex?
    have e0 : (if (d : Int) < 0 then (d : Int) + ys.length else d) = d := if_neg (by omega)
    simp only [e0]
    rw [if_pos (by simp; omega)]
    simp
  · have h2 := h1.swap.put0 (o' := .lst (ys.eraseIdx d))
    exact ⟨xs, h2.swap.at0, hl, k _ d ys[d] hdl hz h2.swap.put0⟩
end
end TP

set_option Elab.async false
set_option linter.all false
set_option maxRecDepth 100000
set_option maxHeartbeats 2000000
namespace TP
open PySem PySem.Spec PyProof.Rows L2
open Evl (Ex)
section
variable {P : Program} {w : World} {K : PySem.W.Frag} {mg : Str → Option Value} {base h : Heap} {C : Addr} {x q : Str} {st : Stmt}
/-- a def of the module, as it lies | of a class -/
def Gf (K : PySem.W.Frag) (x : Str) (st : Stmt) : Prop := ∃ f fd, PySem.W.nsIn K mainGlobals x = some (some (.ref f)) ∧ Fun K x x st f fd
def Gm (K : PySem.W.Frag) (C : Addr) (x q : Str) (st : Stmt) : Prop := ∃ f fd, Meth K C x f ∧ Fun K x q st f fd
theorem gf_mk {f : Addr} {oc : Value} {od an : Option Addr} {sl : Array (Option Value)} {kV doc pm cdv ct : Value}
    (a : PySem.W.nsIn K mainGlobals x = some (some (.ref f)))
    (l : K.lookup f = some ⟨oc, od, .func (PySem.W.fnOf x x (defArgs st) (defBody st) (defScope st) .none kV doc pm an cdv ct), sl⟩)
    (c : PySem.W.codeIn K cdv x = true) (k : PySem.W.keepIn K (.ref f) = true) : Gf K x st := ⟨f, _, a, fun_mk l c k⟩
theorem gm_mk {f : Addr} {oc : Value} {od an : Option Addr} {sl : Array (Option Value)} {kV doc pm cdv ct : Value}
    (a : PySem.W.findIn K (.ref C) x = some (some (.ref f))) (i : PySem.W.isFn K (.ref f) = true)
    (l : K.lookup f = some ⟨oc, od, .func (PySem.W.fnOf x q (defArgs st) (defBody st) (defScope st) .none kV doc pm an cdv ct), sl⟩)
    (c : PySem.W.codeIn K cdv q = true) (k : PySem.W.keepIn K (.ref f) = true) : Gm K C x q st := ⟨f, _, ⟨a, i, k⟩, fun_mk l c k⟩
theorem Gf.df {k : Nat} {sp : Sp} (ps : List Str) (g : Gf K x st) (X : K.In h) (G : h.Ns mainGlobals mg) (ok : ∀ f fd, Fun K x x st f fd → FnOk P w K mg base CX0 k f fd ps sp)
    (hb : ∀ (kV doc pm : Value) (an : Option Addr) (cdv ct : Value) (us : List Value), us.length = ps.length → bindArgs (PySem.W.fnOf x x (defArgs st) (defBody st) (defScope st) .none kV doc pm an cdv ct) ⟨us, []⟩ = pure (ps.zip us)) : Df P w K mg base x k sp :=
  let ⟨f, fd, a, F⟩ := g
  ⟨f, fd, ps, ok f fd F, PySem.W.mg_of X G a, F.kp, F.binds hb⟩
theorem Gm.mt {k : Nat} {sp : Sp} (ps : List Str) (g : Gm K C x q st) (ok : ∀ f fd, Fun K x q st f fd → FnOk P w K mg base CX0 k f fd ps sp)
    (hb : ∀ (kV doc pm : Value) (an : Option Addr) (cdv ct : Value) (us : List Value), us.length = ps.length → bindArgs (PySem.W.fnOf x q (defArgs st) (defBody st) (defScope st) .none kV doc pm an cdv ct) ⟨us, []⟩ = pure (ps.zip us)) : Mt P w K mg base C x k sp :=
  let ⟨f, fd, a, F⟩ := g
  ⟨f, fd, ps, ok f fd F, a, F.binds hb⟩
theorem Gm.mkr {k : Nat} {sp : Sp} (ps : List Str) (g : Gm K C "__init__" q st) (mk : PySem.W.makesIn K C = true) (kc : PySem.W.keepIn K (.ref C) = true) (ok : ∀ f fd, Fun K "__init__" q st f fd → FnOk P w K mg base CX0 k f fd ps sp)
    (hb : ∀ (kV doc pm : Value) (an : Option Addr) (cdv ct : Value) (us : List Value), us.length = ps.length → bindArgs (PySem.W.fnOf "__init__" q (defArgs st) (defBody st) (defScope st) .none kV doc pm an cdv ct) ⟨us, []⟩ = pure (ps.zip us)) : Mkr P w K mg base C k sp :=
  let ⟨f, fd, a, F⟩ := g
  ⟨f, fd, ps, ok f fd F, ⟨mk, a.at_, a.fn, kc⟩, F.binds hb⟩
end
end TP

set_option Elab.async false
set_option linter.all false
set_option maxRecDepth 100000
set_option maxHeartbeats 2000000
namespace TP
open PySem PySem.Spec PyProof.Rows L2
open Evl (Ex)
theorem DxAll.rev {G : Hp} : ∀ {vs : List V} {ds : List PyData}, DxAll G vs ds → DxAll G vs.reverse ds.reverse
  | [], _, h => by cases h; exact .nil
  | v :: vs, _, h => by
    cases h with
    | cons h r =>
      rw [List.reverse_cons, List.reverse_cons]
      exact (DxAll.rev r).append (.cons h .nil)
section
variable {X : Cx} {σ : L2.St} {e o a b c : Expr} {es : List Expr} {G : Hp} {pos : Pos} {x y : Str} {i : Int} {v u : V} {d : PyData}
theorem boot_tstr : bootBuiltins "str" = some (.type "str") := by decide +kernel
theorem jv_strI {p : Pos} (hm : X.mg "str" = none) (ha : JV X σ a G (.int i)) (hi : i.natAbs.log2 < 1920) (hg : Gl X "str") (he : NoStar a) : JV X σ (.Call (.Name "str" p) [a] [] pos) G (.str (toString i)) := ⟨fun H eh Q q =>
  ⟨_, pe_callTy call_str_int hg hm boot_tstr (pa_cons pe_w pa_nil (he _ _)) (he := he _ _), ha H eh _ fun H1 e1 => ⟨i, rfl, hi, q H1 e1⟩⟩⟩
theorem jv_intS {p : Pos} (hm : X.mg "int" = none) (ha : JV X σ a G (.str x)) (hi : PySem.intText? x = some i) (hl : x.length ≤ 640) (hg : Gl X "int") (he : NoStar a) : JV X σ (.Call (.Name "int" p) [a] [] pos) G (.int i) := ⟨fun H eh Q q =>
  ⟨_, pe_callTy call_int_str hg hm boot_tint (pa_cons pe_w pa_nil (he _ _)) (he := he _ _), ha H eh _ fun H1 e1 => ⟨x, i, rfl, hi, hl, q H1 e1⟩⟩⟩
theorem jv_lenStr {p : Pos} (hm : X.mg "len" = none) (ha : JV X σ a G (.str x)) (hl : x.length ≤ sizeLine) (hg : Gl X "len") (he : NoStar a) : JV X σ (.Call (.Name "len" p) [a] [] pos) G (.int (x.length : Int)) := ⟨fun H eh Q q =>
  ⟨_, pe_callB call_len hg hm PySem.boot_len (pa_cons pe_w pa_nil (he _ _)) (he := he _ _), ha H eh _ fun H1 e1 => ⟨.str x, x.length, rfl, ⟨hl, rfl⟩, q H1 e1⟩⟩⟩
theorem jo_inS (ha : JV X σ a G (.str x)) (hb : JV X σ b G (.str y)) : JO X σ .In a b G (.bl (!(Builtin.Str.occurrences y x 0 y.length 1).isEmpty)) := jo_of op_in_str ha hb fun H Q q => ⟨x, y, rfl, rfl, q⟩
theorem jo_eqS (ha : JV X σ a G (.str x)) (hb : JV X σ b G (.str y)) : JO X σ .Eq a b G (.bl (decide (x = y))) := jo_of op_eq ha hb fun H Q q => ⟨rfl, by simpa using q⟩
theorem jo_neS (ha : JV X σ a G (.str x)) (hb : JV X σ b G (.str y)) : JO X σ .NotEq a b G (.bl (!decide (x = y))) := jo_of op_ne ha hb fun H Q q => ⟨rfl, by simpa using q⟩
theorem DxAll.ofStrs {G : Hp} : ∀ (ys : List Str), DxAll G (ys.map V.str) (ys.map eS)
  | [] => .nil
  | y :: ys => .cons (.str y) (DxAll.ofStrs ys)
theorem jv_join {ys : List Str} {ap : Pos} (ho : JV X σ o G (.str x)) (ha : JD X σ a G (.list (ys.map eS))) (hl : (ys.map (·.length)).sum + ys.length * x.length ≤ 16777216) (he : NoStar a) (hb : attributeBase o "join" X.env (eval o X.env) = eval o X.env) (hline : (ap.endLine == pos.line) = true) :
    JV X σ (.Call (.Attribute o "join" ap) [a] [] pos) G (.str (Txt.join x ys)) := ⟨fun H eh Q q =>
  ⟨_, pe_join pe_w pe_w (he _ _) hb hline, ho H eh _ fun H1 e1 => ⟨⟨_, rfl⟩, ha H1 (eh.trans e1) _ fun G2 H2 w s p => by
    cases p with
    | @lst b vs _ hb hd =>
      have e := hd.strs
      subst e
      exact ⟨x, b, ys, rfl, rfl, .inl (SqL.of (s.gh _ _ hb)), hl, q H2 (e1.trans s.h)⟩⟩⟩⟩
theorem jn_split {ap : Pos} (ho : JV X σ o G (.str x)) (ha : JV X σ a G (.str y)) (hy : (y.length == 0) = false) (hl : x.length + 2 ≤ sizeLine) (he : NoStar a) (hb : attributeBase o "split" X.env (eval o X.env) = eval o X.env) (hline : (ap.endLine == pos.line) = true) :
    JN X σ (.Call (.Attribute o "split" ap) [a] [] pos) G ((Txt.split x y).map eS) := ⟨fun H eh Q q =>
  ⟨_, pe_split pe_w pe_w (he _ _) hb hline, ho H eh _ fun H1 e1 => ⟨⟨_, rfl⟩, ha H1 (eh.trans e1) _ fun H2 e2 => ⟨x, y, rfl, rfl, hy, hl, fun p hp =>
    jn_new eh (.flat eh (e1.trans e2)) hp (DxAll.ofStrs _) q⟩⟩⟩⟩
/-- x[::-1] -/
theorem jn_rev {ds : List PyData} {k : Nat} {p1 p2 p3 : Pos} (ha : JD X σ a G (.list ds)) : JN X σ (.Subscript a (.Slice none none (some (.UnaryOp .USub (.Constant (.int 1) k p1) p2)) p3) pos) G ds.reverse := ⟨fun H eh Q q =>
  ⟨_, pe_revL pe_w, ha H eh _ fun G1 H1 w s p => by
    cases p with
    | @lst b vs _ hb hd => exact ⟨b, vs, rfl, SqL.of (s.gh _ _ hb), fun p hp => jn_new eh s hp (hd.rev) q⟩⟩⟩
end
section
variable {X : Cx} {σ : L2.St} {st : Stmt} {rest body orelse : List Stmt} {D : Ends} {H : Hp} {h₀ : ExceptHandler} {hs : List ExceptHandler} {pos : Pos}
/-- try: what raises nothing / else -/
theorem b_try (h : wSs X.nox body { D with nx := wSs X orelse { D with nx := wSs X rest D } } σ H) : wSs X (.Try body (h₀ :: hs) orelse [] pos :: rest) D σ H :=
  b_cons ⟨_, ps_try_thru pss_w pss_w, h⟩
end
end TP

set_option Elab.async false
set_option linter.all false
set_option maxRecDepth 100000
set_option maxHeartbeats 2000000
namespace TP
open PySem PySem.Spec PyProof.Rows L2
open Evl (Ex)
open PySem.W (EachIs)
/-! ### sorted(a list of data that are alike) -/
theorem each_dx {β : Type} {enc : β → PyData} {G : Hp} : ∀ {bs : List β} {xs : List V} {vs : List Value}, Vals xs vs → DxAll G xs (bs.map enc) → EachIs (fun v b => ∃ x, RelV x v ∧ Dx G x (enc b)) vs bs
  | [], _, _, r, h => by
    rw [List.map_nil] at h
    cases h
    cases r
    exact .nil
  | b :: bs, _, _, r, h => by
    rw [List.map_cons] at h
    cases h with
    | cons h1 h2 =>
      cases r with
      | cons r1 r2 => exact .cons ⟨_, r1, h1⟩ (each_dx r2 h2)
theorem dx_each {β : Type} {enc : β → PyData} {G : Hp} {bs : List β} {vs : List Value} (h : EachIs (fun v b => ∃ x, RelV x v ∧ Dx G x (enc b)) vs bs) : ∃ xs, Vals xs vs ∧ DxAll G xs (bs.map enc) := by
  induction h with
  | nil => exact ⟨[], .nil, .nil⟩
  | cons h1 h2 ih =>
    obtain ⟨x, r, d⟩ := h1
    obtain ⟨xs, rs, ds⟩ := ih
    exact ⟨x :: xs, .cons r rs, .cons d ds⟩
def rSortedD {β : Type} (enc : β → PyData) (bs : List β) : List V → Hp → VK → Prop := fun vs H Q => ∃ (a : Addr) (xs : List V) (G : Hp), vs = [.ref a] ∧ Ex G H ∧ H a = some (.lst xs) ∧ DxAll G xs (bs.map enc) ∧
  ∀ (p : Addr) (zs : List V), H p = none → DxAll G zs ((bs.mergeSort (PySem.W.dataLe false enc)).map enc) → Q (.ref p) (upd H p (.lst zs))
theorem cr_sortedD {X : Cx} {β : Type} {enc : β → PyData} {bs : List β} (hal : PySem.W.AllAlike (bs.map enc)) (hk : PySem.W.Sortable (bs.map enc)) (hu : X.A.units + 64 < cLine) (hd : ∀ b, b ∈ bs → (enc b).depth ≤ 60) : CallR X (.builtin "sorted") (rSortedD enc bs) := by
  intro pins s σ H vs us Q I r h
  obtain ⟨a, xs, G, rfl, eg, ha, dx, q⟩ := h
  obtain ⟨its, rv, pl, hz⟩ := I.list (SqL.of ha)
  rw [Vals.ref1 r]
  have hl : bs.length = xs.length := by rw [dx.length, List.length_map]
  have e := each_dx rv dx
  have er : EachIs (fun v b => ∃ as, PySem.Reads s.heap v (enc b) as) its bs := e.mono fun v b ⟨x, r, d⟩ => Dp.reads I _ _ _ (d.mono eg).dp r
  refine PySem.W.sorted_data pl.isList e er hal hk (by omega) (fun b hb => by have := hd b hb; omega) fun out hol eo => ?_
  obtain ⟨ep, he'⟩ := PyProof.Rows.sortedAll_at s.heap its out.toArray
  obtain ⟨zs, rz, dz⟩ := dx_each eo
  have hlen : zs.length ≤ sizeLine := by rw [rz.length, hol]; omega
  exact ⟨.ref _, upd H (s.heap.objs.size + 1) (.lst zs), I.laid (t' := s.toks) (fun _ _ => PyProof.Rows.sortedAll_old) (Nat.le_succ _) ⟨hlen, out, ep, rz, he'⟩, rfl, q _ zs (I.hok.fresh (Nat.le_succ _)) dz⟩
section
variable {X : Cx} {σ : L2.St} {e o a b c : Expr} {es : List Expr} {G : Hp} {pos : Pos} {x : Str} {D : Ends} {rest : List Stmt} {G0 H0 H : Hp} {os : List (Addr × HO)}
theorem boot_sorted : bootBuiltins "sorted" = some (.builtin "sorted") := by decide +kernel
/-- sorted(xs) -/
theorem jn_sorted {β : Type} {enc : β → PyData} {bs : List β} {p : Pos} (hm : X.mg "sorted" = none) (ha : JD X σ a G (.list (bs.map enc))) (hal : PySem.W.AllAlike (bs.map enc)) (hk : PySem.W.Sortable (bs.map enc)) (hu : X.A.units + 64 < cLine) (hd : ∀ b, b ∈ bs → (enc b).depth ≤ 60) (hg : Gl X "sorted") (he : NoStar a) :
    JN X σ (.Call (.Name "sorted" p) [a] [] pos) G ((bs.mergeSort (PySem.W.dataLe false enc)).map enc) := ⟨fun H eh Q q =>
  ⟨_, pe_callB (cr_sortedD hal hk hu hd) hg hm boot_sorted (pa_cons pe_w pa_nil (he _ _)) (he := he _ _), ha H eh _ fun G1 H1 x s1 p1 => by
    cases p1 with
    | lst h1 d1 => exact ⟨_, _, G1, rfl, s1.gh, s1.gh _ _ h1, d1, fun p zs hp dz => jn_new eh s1 hp dz q⟩⟩⟩
theorem alike_N (x y : Nat) : PySem.W.alike (eN x) (eN y) = true := by simp [PySem.W.alike]
theorem alike_P (x y : Nat × Nat) : PySem.W.alike (eP x) (eP y) = true := by simp [PySem.W.alike, PySem.W.alikeAll]
theorem alike_map {α : Type} {f : α → PyData} (h : ∀ x y, PySem.W.alike (f x) (f y) = true) : ∀ xs ys : List α, PySem.W.alikeAll (xs.map f) (ys.map f) = true
  | [], _ => by simp [PySem.W.alikeAll]
  | _ :: _, [] => by simp [PySem.W.alikeAll]
  | x :: xs, y :: ys => by
    rw [List.map_cons, List.map_cons, PySem.W.alikeAll, h x y, alike_map h xs ys]
    rfl
theorem alike_Ps (x y : List (Nat × Nat)) : PySem.W.alike (ePs x) (ePs y) = true := by
  rw [PySem.W.alike]
  exact alike_map alike_P x y
theorem jn_sortedN {ns : List Nat} {p : Pos} (hm : X.mg "sorted" = none) (ha : JD X σ a G (eNs ns)) (hu : X.A.units + 64 < cLine) (hg : Gl X "sorted") (he : NoStar a) :
    JN X σ (.Call (.Name "sorted" p) [a] [] pos) G ((ns.mergeSort (PySem.W.dataLe false eN)).map eN) :=
  jn_sorted hm ha (.of alike_N) (.others fun b => ⟨by simp, fun xs z => by cases z⟩) hu (fun b _ => Nat.le_trans (sh_N (n := 0) b).2 (by decide)) hg he
theorem jn_sortedPs {ns : List (List (Nat × Nat))} {p : Pos} (hm : X.mg "sorted" = none) (ha : JD X σ a G (ePss ns)) (hu : X.A.units + 64 < cLine) (hg : Gl X "sorted") (he : NoStar a) :
    JN X σ (.Call (.Name "sorted" p) [a] [] pos) G ((ns.mergeSort (PySem.W.dataLe false ePs)).map ePs) :=
  jn_sorted hm ha (.of alike_Ps) (.others fun b => ⟨by simp, fun xs z => by cases z⟩) hu (fun b _ => Nat.le_trans (sh_Ps b).2 (by decide)) hg he
/-! ### in a pair -/
theorem dxN {v : V} {n : Nat} (h : Dx G v (eN n)) : v = .int (n : Int) := h.int_inv
theorem jo_inP {n : Nat} {p : Nat × Nat} (ha : JV X σ a G (.int (n : Int))) (hb : JD X σ b G (eP p)) : JO X σ .In a b G (.bl (decide (n = p.1) || decide (n = p.2))) := ⟨_, op_in_seq, fun H eh Q q =>
  ha H eh _ fun H1 e1 => hb H1 (eh.trans e1) _ fun G2 H2 y s2 p2 => by
    cases p2 with
    | tup h1 d1 =>
      cases d1 with
      | cons a1 d1 =>
        cases d1 with
        | cons a2 d1 =>
          cases d1
          cases a1.int_inv
          cases a2.int_inv
          refine ⟨_, _, rfl, .inr (SqT.of (s2.gh _ _ h1)), rfl, rfl, ?_⟩
          have e : inV (V.int (n : Int)) [V.int (p.1 : Int), V.int (p.2 : Int)] = (decide (n = p.1) || decide (n = p.2)) := by
            simp only [inV, List.any_cons, List.any_nil, Bool.or_false, eqV]
            congr 1
            · by_cases z : n = p.1
              · subst z; simp
              · rw [decide_eq_false z]; exact beq_eq_false_iff_ne.mpr (fun q => z (by omega))
            · by_cases z : n = p.2
              · subst z; simp
              · rw [decide_eq_false z]; exact beq_eq_false_iff_ne.mpr (fun q => z (by omega))
          simp only [Bool.false_eq_true, if_false]
          rw [e]
          exact q H2 (e1.trans s2.h)⟩
/-! ### dicts of numbers -/
/-- at v: a dict that holds, at each number, what f says -/
def DictAt (H : Hp) (v : V) (f : Nat → Option Nat) : Prop := ∃ a kvs, v = .ref a ∧ H a = some (.dK kvs) ∧ ∀ x : Nat, valV kvs (Sum.inl (x : Int)) = (f x).map fun y => V.int (y : Int)
theorem DictAt.mono {H H' : Hp} {v : V} {f : Nat → Option Nat} (e : Ex H H') (h : DictAt H v f) : DictAt H' v f := let ⟨a, kvs, h1, h2, h3⟩ := h; ⟨a, kvs, h1, e _ _ h2, h3⟩
theorem valV_put {kvs : List (Key × V)} {k k' : Key} {v : V} : valV (putK kvs k v) k' = if k = k' then some v else valV kvs k' := by
  unfold putK
  split
  · rename_i hb
    induction kvs with
    | nil => simp at hb
    | cons p r ih =>
      rw [List.map_cons]
      by_cases e : p.1 = k
      · rw [if_pos e]
        by_cases e2 : k = k'
        · rw [if_pos e2, valV_pos (by rw [← e2]; exact e)]
        · rw [if_neg e2]
          have e3 : ¬ p.1 = k' := fun z => e2 (e.symm.trans z)
          rw [valV_neg (p := (p.1, v)) e3, valV_neg e3]
          by_cases hr : (r.any fun kv => decide (kv.1 = k)) = true
          · rw [ih hr, if_neg e2]
          · have : r.map (fun kv => if kv.1 = k then (kv.1, v) else kv) = r := by
              refine (List.map_congr_left fun x hx => ?_).trans (List.map_id r)
              rw [if_neg (fun z => hr (List.any_eq_true.mpr ⟨x, hx, decide_eq_true z⟩))]
              rfl
            rw [this]
      · rw [if_neg e]
        have hr : (r.any fun kv => decide (kv.1 = k)) = true := by
          rw [List.any_cons, decide_eq_false e, Bool.false_or] at hb
          exact hb
        by_cases e3 : p.1 = k'
        · rw [valV_pos e3, valV_pos e3, if_neg (fun z => e (e3.trans z.symm))]
        · rw [valV_neg e3, valV_neg e3, ih hr]
  · rename_i hb
    unfold valV
    rw [List.find?_append]
    by_cases e : k = k'
    · subst e
      rw [if_pos rfl]
      have : kvs.find? (fun kv => decide (kv.1 = k)) = none := by
        rw [List.find?_eq_none]
        intro x hx z
        exact hb (List.any_eq_true.mpr ⟨x, hx, z⟩)
      rw [this]
      simp
    · rw [if_neg e]
      simp [e]
/-- x = {} -/
theorem b_setDict {n : Nat} {p q r : Pos} (h : Hs G0 H0 G H os) (hN : X.N.Nodup) (hi : X.N[n]? = some x) (hx : Loc X.env.scope x) (hs : swapsWith (.Dict [] [] r) (some (.Name x p)) q.line X.env = pure false) (hf : X.fn x = true ∨ X.env.scope.names.lookup x = some .local)
    (k : ∀ H' a, Hs G0 H0 G H' ((a, .dK []) :: os) → wSs X rest D (σ.set n (some (.ref a))) H') : wSs X (.Assign [.Name x p] (.Dict [] [] r) q :: rest) D σ H :=
  b_cons ⟨_, ps_set hN hi hx pe_dnewK hs hf, fun a ha => k _ a (h.new ha)⟩
/-- x[i] = e, x one's own dict -/
theorem b_putDict {n m y : Nat} {p q r : Pos} {l : Addr} {kvs : List (Key × V)} (hu : X.A.units + 1 < cLine) (h : Hs G0 H0 G H ((l, .dK kvs) :: os)) (he : JV X σ e G (.int (y : Int))) (hs : σ[n]? = some (some (.ref l))) (hN : X.N[n]? = some x) (hv : Vis X.env.scope x) (hi : JV X σ a G (.int (m : Int))) (hm : kvs.length < 100000)
    (hd : (x == ("__debug__" : Str)) = false) (hcd : (x == ("__classdict__" : Str)) = false)
    (hsw : swapsWithSole [.Subscript (.Name x p) a q] e r.line X.env = pure false) (hw : swappedStores [.Subscript (.Name x p) a q] e X.env = pure none) (h1 : (assignEach [.Subscript (.Name x p) a q] X.env).map (·.2) = [assign (.Subscript (.Name x p) a q) X.env])
    (hpl : PG X (.Subscript (.Name x p) a q) (gSub (wE X (.Name x p)) (wE X a) rSetD))
    (k : ∀ H', Hs G0 H0 G H' ((l, .dK (putK kvs (Sum.inl (m : Int)) (.int (y : Int)))) :: os) → wSs X rest D σ H') : wSs X (.Assign [.Subscript (.Name x p) a q] e r :: rest) D σ H :=
  b_asgW hsw hw h1 (he H h.ex _ fun H1 e1 => ⟨_, hpl, by
    have g1 := h.flat e1
    refine we_var hs hN hv hd hcd ?_
    refine hi H1 g1.ex _ fun H2 e2 => ?_
    have g2 := g1.flat e2
    exact (show ∃ a H', V.ref l = .ref a ∧ DPut H2 a (V.int (m : Int)) (V.int (y : Int)) H' ∧ wSs X rest D σ H' from ⟨l, _, rfl, DPut.k (k := Sum.inl (m : Int)) g2.at0 (Evl.sz_lt hm), k _ g2.put0⟩)⟩)
/-- d[i] -/
theorem jv_ixDict {f : Nat → Option Nat} {m y : Nat} {v : V} (hu : X.A.units + 1 < cLine) (ha : JV X σ a G v) (hd : DictAt G v f) (hb : JV X σ b G (.int (m : Int))) (hf : f m = some y) (hs : NoSl b) : JV X σ (.Subscript a b pos) G (.int (y : Int)) := ⟨fun H eh Q q => by
  obtain ⟨l, kvs, rfl, h1, h2⟩ := hd
  refine ⟨_, pe_dget hu pe_w pe_w hs, ha H eh _ fun H1 e1 => hb H1 (eh.trans e1) _ fun H2 e2 => ⟨l, _, rfl, ?_, q H2 (e1.trans e2)⟩⟩
  have := DGet.k (k := Sum.inl (m : Int)) (((eh.trans e1).trans e2) _ _ h1)
  rw [h2, hf] at this
  exact this⟩
end
end TP

set_option Elab.async false
set_option linter.all false
set_option maxRecDepth 100000
set_option maxHeartbeats 2000000
namespace TP
open PySem PySem.Spec PyProof.Rows L2
open Evl (Ex)
/-! ### what is new, with parts that are fixed: F what is new, G' what is fixed -/
structure JPH (X : Cx) (σ : L2.St) (e : Expr) (G : Hp) (P : Hp → Hp → V → Prop) : Prop where
  run : ∀ H, Ex G H → ∀ Q : VK, (∀ G' H' v F, Stp G H G' H' → Ex F G' → (∀ a, F a ≠ none → H a = none) → P F G' v → Q v H') → wE X e σ H Q
def spOfH {ι : Type} (pre : ι → Prop) (Ps : ι → List (Hp → V → Prop)) (R : ι → Hp → Hp → V → Prop) : Sp := fun vs H Q _ =>
  ∃ i G, Ex G H ∧ pre i ∧ Al G (Ps i) vs ∧ ∀ G' H' v F, Stp G H G' H' → Ex F G' → (∀ a, F a ≠ none → H a = none) → R i F G' v → Q v H'
section
variable {P : Program} {w : World} {K : PySem.W.Frag} {mg : Str → Option Value} {base : Heap}
theorem fun_okH {ι : Type} {pre : ι → Prop} {Ps : ι → List (Hp → V → Prop)} {R : ι → Hp → Hp → V → Prop} {x qual : Str} {st : Stmt} {f : Addr} {fd : FuncData} {N ps : List Str} {k : Nat} (F : Fun K x qual st f fd) (S : FnScope N ps (defScope st)) (hl : ∀ i, (Ps i).length = ps.length)
    (hb : ∀ (cdv : Value) (A : Around) (outer : List Env) (s : Shared) (H : Hp) (vs : List V) (Q : VK) (E : XK) (i : ι) (G : Hp), Room k (A.deeper (envOfC qual (defScope st) s.heap.objs.size f cdv)) → pre i → Al G (Ps i) vs → Hs G H G H [] →
      (∀ G' H' v F, Stp G H G' H' → Ex F G' → (∀ a, F a ≠ none → H a = none) → R i F G' v → Q v H') →
      wSs (cxOf CX0 P w K mg base N qual (defScope st) f cdv A outer s H E).nox (defBody st) { nx := fun _ H' => Q .non H', rt := Q } (start N vs) H) : FnOk P w K mg base CX0 (k + 1) f fd ps (spOfH pre Ps R) := by
  refine F.ok S (fun vs H Q E ⟨i, G, _, _, al, _⟩ => al.length.trans (hl i)) fun cdv A outer s H vs Q E hr ⟨i, G, eh, hp, al, k⟩ => ?_
  exact hb cdv A outer s H vs Q E i G hr hp al (.nil eh) k
end
section
variable {X : Cx} {σ : L2.St} {e o a b c : Expr} {es : List Expr} {G G0 H0 H : Hp} {pos : Pos} {x : Str} {k : Nat} {ι : Type} {pre : ι → Prop} {Ps : ι → List (Hp → V → Prop)} {rest : List Stmt} {D : Ends} {os : List (Addr × HO)} {P0 : Hp → V → Prop} {PP : Hp → Hp → V → Prop}
theorem jh_call {R : ι → Hp → Hp → V → Prop} {p : Pos} (F : Df X.prog X.w X.K X.mg X.base x k (spOfH pre Ps R)) (hr : Room k X.A) (hg : Gl X x) (i : ι) (hp : pre i) (ha : JA X σ (e :: es) G (fun G vs => Al G (Ps i) vs)) (hs : NoStar e) (hdb : (x == ("__debug__" : Str)) = false)
    (hpl : (backTo pos (starEach es X.env)).any (·.1) = false) : JPH X σ (.Call (.Name x p) (e :: es) [] pos) G (R i) := ⟨fun H eh Q q => by
  obtain ⟨f, fd, ps, hf, hm, hk, hb⟩ := F
  refine ⟨_, pe_call hf hr hg hm hk hb .nil pass0 pa_w hdb (hs _ _) hpl, ha H eh _ fun G1 H1 vs s1 al => ?_⟩
  rw [List.append_nil]
  exact ⟨i, G1, s1.gh, hp, al, fun G2 H2 v F s2 eF fr r => q G2 H2 v F (s1.trans s2) eF (fun a ha => Evl.fresh_back s1.h (fr a ha)) r⟩⟩
/-- a new instance, of one argument: what it holds is told by what the argument is found to be -/
theorem jh_make1 {R : ι → Hp → List (Str × V) → Prop} {C : Addr} {p : Pos} (F : Mkr X.prog X.w X.K X.mg X.base C k (spMk C pre Ps R)) (hr : Room (k + 1) X.A) (hg : Gl X x) (hm : X.mg x = some (.ref C)) (ha : JP X σ e G P0) (hs : NoStar e) (hdb : (x == ("__debug__" : Str)) = false) (hpl : (backTo pos (starEach [] X.env)).any (·.1) = false)
    (hi : ∀ G1 u, Ex G G1 → P0 G1 u → ∃ i, pre i ∧ Al G1 (Ps i) [u] ∧ ∀ F F' G' a dx fs, Ex G1 G' → Ex F F' → R i F fs → F' a = some (.ins C dx fs) → PP F' G' (.ref a)) :
    JPH X σ (.Call (.Name x p) [e] [] pos) G PP := ⟨fun H eh Q q => by
  obtain ⟨f, fd, ps, hf, mk, hb⟩ := F
  refine ⟨_, pe_make mk hf hr hg hm hb .nil pass0 (pa_cons pe_w pa_nil (hs _ _)) hdb (hs _ _) hpl, ha H eh _ fun G1 H1 u s1 pu xx dx hx hdx ne => ?_⟩
  rw [List.append_nil]
  obtain ⟨i, hp, al, hR⟩ := hi G1 u s1.g pu
  refine ⟨i, G1, H1, xx, dx, [u], rfl, made_hs s1.gh hx hdx ne, hp, al, fun G' H' fs F h2 eF fr r => ⟨rfl, ?_⟩⟩
  obtain ⟨hf2, e2⟩ := h2.fix
  have o0 := h2.own _ List.mem_cons_self
  have FD : F xx = none := by
    cases z : F xx with
    | none => rfl
    | some o =>
      have := eF xx o z
      rw [o0.1] at this
      cases this
  refine q (upd G' xx (.ins C dx fs)) H' _ (upd F xx (.ins C dx fs)) (s1.trans hf2.st) (fun b o e => ?_) (fun b hb => ?_) (hR F _ _ xx dx fs (h2.st.g.trans e2) (Ex.new FD) r upd_same)
  · by_cases z : b = xx
    · subst z; rw [upd_same] at e ⊢; exact e
    · rw [upd_ne z] at e ⊢; exact eF b o e
  · by_cases z : b = xx
    · subst z; exact Evl.fresh_back s1.h hx
    · rw [upd_ne z] at hb; exact Evl.fresh_back s1.h (fr b hb)⟩
theorem b_retH {q : Pos} (h : Hs G0 H0 G H os) (he : JPH X σ e G PP) (k : ∀ G' H' v F, Stp G H G' H' → Ex F G' → (∀ a, F a ≠ none → H a = none) → PP F G' v → D.rt v H') : wSs X (.Return (some e) q :: rest) D σ H :=
  b_cons ⟨_, ps_ret pe_w, he.run H h.ex _ k⟩
/-- x = e -/
theorem b_setH {Ge : Hp} {n : Nat} {p q : Pos} (h : Hs G0 H0 G H os) (eg : Ex Ge H) (he : JPH X σ e Ge PP) (hN : X.N.Nodup) (hi : X.N[n]? = some x) (hx : Loc X.env.scope x) (hs : swapsWith e (some (.Name x p)) q.line X.env = pure false) (hf : X.fn x = true ∨ X.env.scope.names.lookup x = some .local)
    (k : ∀ G' H' v F, Stp Ge H G' H' → Ex F G' → (∀ a, F a ≠ none → H a = none) → PP F G' v → wSs X rest D (σ.set n (some v)) H') : wSs X (.Assign [.Name x p] e q :: rest) D σ H :=
  b_setW hN hi hx hs hf (he.run H eg _ fun G1 H1 v F s eF fr pv => k G1 H1 v F s eF fr pv)
/-- list(xs), xs a list of values -/
theorem jf_listV {vs : List V} {p : Pos} (hm : X.mg "list" = none) (ha : JP X σ a G (fun G v => ∃ l, v = .ref l ∧ G l = some (.lst vs))) (hg : Gl X "list") (hb : bootBuiltins "list" = some (.type "list")) (he : NoStar a) : JPF X σ (.Call (.Name "list" p) [a] [] pos) G (fun F v => ∃ l, v = .ref l ∧ F l = some (.lst vs)) := ⟨fun H eh Q q =>
  ⟨_, pe_callTy call_list_of hg hm hb (pa_cons pe_w pa_nil (he _ _)) (he := he _ _), ha.run H eh _ fun G1 H1 x s1 ⟨l, ex, hl⟩ => by
    subst ex
    refine ⟨l, vs, rfl, .inl (SqL.of (s1.gh _ _ hl)), fun q1 hn => ?_⟩
    refine q (upd G1 q1 (.lst vs)) _ _ (fun b => if b = q1 then some (HO.lst vs) else none) (s1.trans (Stp.new s1.gh hn)) (fun b o e => ?_) (fun b hb => ?_) ⟨q1, rfl, by simp⟩
    · by_cases z : b = q1
      · subst z; simp at e; subst e; exact upd_same
      · simp [z] at e
    · by_cases z : b = q1
      · subst z; exact Evl.fresh_back s1.h hn
      · simp [z] at hb⟩⟩
end
end TP

set_option Elab.async false
set_option linter.all false
set_option maxRecDepth 100000
set_option maxHeartbeats 2000000
namespace TP
open PySem PySem.Spec PyProof.Rows L2
open Evl (Ex)
def top (i : Nat) : Stmt := PySem.Challenge.pw_tentpairs_k07_refused.main.body.getD i (.Pass ⟨0, 0, 0, 0⟩)
abbrev s__wall : Stmt := top 0
abbrev n__wall : List Str := ["k"]
theorem sc__wall : FnScope n__wall ["k"] (defScope s__wall) := ⟨rfl, rfl, rfl, by decide +kernel, rfl, by decide +kernel, by decide +kernel⟩
-- slots of _wall: 0 k
abbrev s_NoneSteady___init__ : Stmt := inClass (top 6) 0
abbrev n_NoneSteady___init__ : List Str := ["self", "rings"]
theorem sc_NoneSteady___init__ : FnScope n_NoneSteady___init__ ["self", "rings"] (defScope s_NoneSteady___init__) := ⟨rfl, rfl, rfl, by decide +kernel, rfl, by decide +kernel, by decide +kernel⟩
-- slots of NoneSteady___init__: 0 self 1 rings
abbrev s_BadText___init__ : Stmt := inClass (top 7) 0
abbrev n_BadText___init__ : List Str := ["self", "row"]
theorem sc_BadText___init__ : FnScope n_BadText___init__ ["self", "row"] (defScope s_BadText___init__) := ⟨rfl, rfl, rfl, by decide +kernel, rfl, by decide +kernel, by decide +kernel⟩
-- slots of BadText___init__: 0 self 1 row
abbrev s_within : Stmt := top 10
abbrev n_within : List Str := ["number", "low", "high"]
theorem sc_within : FnScope n_within ["number", "low", "high"] (defScope s_within) := ⟨rfl, rfl, rfl, by decide +kernel, rfl, by decide +kernel, by decide +kernel⟩
-- slots of within: 0 number 1 low 2 high
abbrev s_Camp___init__ : Stmt := inClass (top 11) 0
abbrev n_Camp___init__ : List Str := ["self", "lists", "camper", "told", "one"]
theorem sc_Camp___init__ : FnScope n_Camp___init__ ["self", "lists"] (defScope s_Camp___init__) := ⟨rfl, rfl, rfl, by decide +kernel, rfl, by decide +kernel, by decide +kernel⟩
-- slots of Camp___init__: 0 self 1 lists 2 camper 3 told 4 one
abbrev s_Camp_lists : Stmt := inClass (top 11) 1
abbrev n_Camp_lists : List Str := ["self", "one"]
theorem sc_Camp_lists : FnScope n_Camp_lists ["self"] (defScope s_Camp_lists) := ⟨rfl, rfl, rfl, by decide +kernel, rfl, by decide +kernel, by decide +kernel⟩
-- slots of Camp_lists: 0 self 1 one
abbrev s_Camp_camper : Stmt := inClass (top 11) 2
abbrev n_Camp_camper : List Str := ["self", "at"]
theorem sc_Camp_camper : FnScope n_Camp_camper ["self", "at"] (defScope s_Camp_camper) := ⟨rfl, rfl, rfl, by decide +kernel, rfl, by decide +kernel, by decide +kernel⟩
-- slots of Camp_camper: 0 self 1 at
abbrev s_Camp_would : Stmt := inClass (top 11) 3
abbrev n_Camp_would : List Str := ["self", "one", "other"]
theorem sc_Camp_would : FnScope n_Camp_would ["self", "one", "other"] (defScope s_Camp_would) := ⟨rfl, rfl, rfl, by decide +kernel, rfl, by decide +kernel, by decide +kernel⟩
-- slots of Camp_would: 0 self 1 one 2 other
abbrev s_Camp_rather : Stmt := inClass (top 11) 4
abbrev n_Camp_rather : List Str := ["self", "camper", "one", "other"]
theorem sc_Camp_rather : FnScope n_Camp_rather ["self", "camper", "one", "other"] (defScope s_Camp_rather) := ⟨rfl, rfl, rfl, by decide +kernel, rfl, by decide +kernel, by decide +kernel⟩
-- slots of Camp_rather: 0 self 1 camper 2 one 3 other
abbrev s_open_pairs : Stmt := top 12
abbrev n_open_pairs : List Str := ["camp", "found", "one", "other"]
theorem sc_open_pairs : FnScope n_open_pairs ["camp"] (defScope s_open_pairs) := ⟨rfl, rfl, rfl, by decide +kernel, rfl, by decide +kernel, by decide +kernel⟩
-- slots of open_pairs: 0 camp 1 found 2 one 3 other
abbrev s_mates_of : Stmt := top 13
abbrev n_mates_of : List Str := ["camp", "pairs", "found", "one", "other"]
theorem sc_mates_of : FnScope n_mates_of ["camp", "pairs"] (defScope s_mates_of) := ⟨rfl, rfl, rfl, by decide +kernel, rfl, by decide +kernel, by decide +kernel⟩
-- slots of mates_of: 0 camp 1 pairs 2 found 3 one 4 other
abbrev s_check_pairs : Stmt := top 14
abbrev n_check_pairs : List Str := ["camp", "pairs", "met", "pair", "one"]
theorem sc_check_pairs : FnScope n_check_pairs ["camp", "pairs"] (defScope s_check_pairs) := ⟨rfl, rfl, rfl, by decide +kernel, rfl, by decide +kernel, by decide +kernel⟩
-- slots of check_pairs: 0 camp 1 pairs 2 met 3 pair 4 one
abbrev s_breaking : Stmt := top 15
abbrev n_breaking : List Str := ["camp", "pairs", "mates", "found", "one", "other"]
theorem sc_breaking : FnScope n_breaking ["camp", "pairs"] (defScope s_breaking) := ⟨rfl, rfl, rfl, by decide +kernel, rfl, by decide +kernel, by decide +kernel⟩
-- slots of breaking: 0 camp 1 pairs 2 mates 3 found 4 one 5 other
abbrev s_Answer_holds : Stmt := inClass (top 17) 0
abbrev n_Answer_holds : List Str := ["self", "camp"]
theorem sc_Answer_holds : FnScope n_Answer_holds ["self", "camp"] (defScope s_Answer_holds) := ⟨rfl, rfl, rfl, by decide +kernel, rfl, by decide +kernel, by decide +kernel⟩
-- slots of Answer_holds: 0 self 1 camp
abbrev s_Steady___init__ : Stmt := inClass (top 18) 0
abbrev n_Steady___init__ : List Str := ["self", "pairs"]
theorem sc_Steady___init__ : FnScope n_Steady___init__ ["self", "pairs"] (defScope s_Steady___init__) := ⟨rfl, rfl, rfl, by decide +kernel, rfl, by decide +kernel, by decide +kernel⟩
-- slots of Steady___init__: 0 self 1 pairs
abbrev s_Steady_holds : Stmt := inClass (top 18) 1
abbrev n_Steady_holds : List Str := ["self", "camp"]
theorem sc_Steady_holds : FnScope n_Steady_holds ["self", "camp"] (defScope s_Steady_holds) := ⟨rfl, rfl, rfl, by decide +kernel, rfl, by decide +kernel, by decide +kernel⟩
-- slots of Steady_holds: 0 self 1 camp
abbrev s_Rings___init__ : Stmt := inClass (top 19) 0
abbrev n_Rings___init__ : List Str := ["self", "rings", "ring"]
theorem sc_Rings___init__ : FnScope n_Rings___init__ ["self", "rings"] (defScope s_Rings___init__) := ⟨rfl, rfl, rfl, by decide +kernel, rfl, by decide +kernel, by decide +kernel⟩
-- slots of Rings___init__: 0 self 1 rings 2 ring
abbrev s_Rings_holds : Stmt := inClass (top 19) 1
abbrev n_Rings_holds : List Str := ["self", "camp"]
theorem sc_Rings_holds : FnScope n_Rings_holds ["self", "camp"] (defScope s_Rings_holds) := ⟨rfl, rfl, rfl, by decide +kernel, rfl, by decide +kernel, by decide +kernel⟩
-- slots of Rings_holds: 0 self 1 camp
abbrev s_behind_of : Stmt := top 20
abbrev n_behind_of : List Str := ["rings", "found", "ring", "k"]
theorem sc_behind_of : FnScope n_behind_of ["rings"] (defScope s_behind_of) := ⟨rfl, rfl, rfl, by decide +kernel, rfl, by decide +kernel, by decide +kernel⟩
-- slots of behind_of: 0 rings 1 found 2 ring 3 k
abbrev s_good_rings : Stmt := top 21
abbrev n_good_rings : List Str := ["camp", "rings", "ring", "k", "here", "last", "after", "behind", "one", "other"]
theorem sc_good_rings : FnScope n_good_rings ["camp", "rings"] (defScope s_good_rings) := ⟨rfl, rfl, rfl, by decide +kernel, rfl, by decide +kernel, by decide +kernel⟩
-- slots of good_rings: 0 camp 1 rings 2 ring 3 k 4 here 5 last 6 after 7 behind 8 one 9 other
abbrev s_pairings : Stmt := top 22
abbrev n_pairings : List Str := ["camp", "found", "pair", "more", "some", "other"]
theorem sc_pairings : FnScope n_pairings ["camp"] (defScope s_pairings) := ⟨rfl, rfl, rfl, by decide +kernel, rfl, by decide +kernel, by decide +kernel⟩
-- slots of pairings: 0 camp 1 found 2 pair 3 more 4 some 5 other
abbrev s_is_steady : Stmt := top 23
abbrev n_is_steady : List Str := ["camp", "pairs", "mates", "one", "other"]
theorem sc_is_steady : FnScope n_is_steady ["camp", "pairs", "mates"] (defScope s_is_steady) := ⟨rfl, rfl, rfl, by decide +kernel, rfl, by decide +kernel, by decide +kernel⟩
-- slots of is_steady: 0 camp 1 pairs 2 mates 3 one 4 other
abbrev s_all_steady : Stmt := top 24
abbrev n_all_steady : List Str := ["camp", "pairs", "some"]
theorem sc_all_steady : FnScope n_all_steady ["camp"] (defScope s_all_steady) := ⟨rfl, rfl, rfl, by decide +kernel, rfl, by decide +kernel, by decide +kernel⟩
-- slots of all_steady: 0 camp 1 pairs 2 some
abbrev s_fits : Stmt := top 25
abbrev n_fits : List Str := ["camp", "some", "camper", "other", "last"]
theorem sc_fits : FnScope n_fits ["camp", "some", "camper", "other"] (defScope s_fits) := ⟨rfl, rfl, rfl, by decide +kernel, rfl, by decide +kernel, by decide +kernel⟩
-- slots of fits: 0 camp 1 some 2 camper 3 other 4 last
abbrev s_all_nexts : Stmt := top 26
abbrev n_all_nexts : List Str := ["camp", "found", "camper", "more", "some", "other"]
theorem sc_all_nexts : FnScope n_all_nexts ["camp"] (defScope s_all_nexts) := ⟨rfl, rfl, rfl, by decide +kernel, rfl, by decide +kernel, by decide +kernel⟩
-- slots of all_nexts: 0 camp 1 found 2 camper 3 more 4 some 5 other
abbrev s_rings_of : Stmt := top 27
abbrev n_rings_of : List Str := ["nexts", "found", "met", "camper", "ring"]
theorem sc_rings_of : FnScope n_rings_of ["nexts"] (defScope s_rings_of) := ⟨rfl, rfl, rfl, by decide +kernel, rfl, by decide +kernel, by decide +kernel⟩
-- slots of rings_of: 0 nexts 1 found 2 met 3 camper 4 ring
abbrev s_telling : Stmt := top 28
abbrev n_telling : List Str := ["camp", "some", "nexts", "rings"]
theorem sc_telling : FnScope n_telling ["camp"] (defScope s_telling) := ⟨rfl, rfl, rfl, by decide +kernel, rfl, by decide +kernel, by decide +kernel⟩
-- slots of telling: 0 camp 1 some 2 nexts 3 rings
abbrev s_check_steady : Stmt := top 29
abbrev n_check_steady : List Str := ["camp", "some"]
theorem sc_check_steady : FnScope n_check_steady ["camp"] (defScope s_check_steady) := ⟨rfl, rfl, rfl, by decide +kernel, rfl, by decide +kernel, by decide +kernel⟩
-- slots of check_steady: 0 camp 1 some
abbrev s_mates : Stmt := top 30
abbrev n_mates : List Str := ["camp", "camper", "steady", "found", "other", "some"]
theorem sc_mates : FnScope n_mates ["camp", "camper"] (defScope s_mates) := ⟨rfl, rfl, rfl, by decide +kernel, rfl, by decide +kernel, by decide +kernel⟩
-- slots of mates: 0 camp 1 camper 2 steady 3 found 4 other 5 some
abbrev s_L_cell_at : Stmt := top 32
abbrev n_L_cell_at : List Str := ["_law_script", "_law_k"]
theorem sc_L_cell_at : FnScope n_L_cell_at ["_law_script", "_law_k"] (defScope s_L_cell_at) := ⟨rfl, rfl, rfl, by decide +kernel, rfl, by decide +kernel, by decide +kernel⟩
-- slots of L_cell_at: 0 _law_script 1 _law_k
abbrev s_L_draw : Stmt := top 33
abbrev n_L_draw : List Str := ["_law_cell", "_law_k", "_law_many", "_law_primes", "_law_blend"]
theorem sc_L_draw : FnScope n_L_draw ["_law_cell", "_law_k", "_law_many"] (defScope s_L_draw) := ⟨rfl, rfl, rfl, by decide +kernel, rfl, by decide +kernel, by decide +kernel⟩
-- slots of L_draw: 0 _law_cell 1 _law_k 2 _law_many 3 _law_primes 4 _law_blend
abbrev s_L_sort : Stmt := top 34
abbrev n_L_sort : List Str := ["_law_error", "_law_kinds"]
theorem sc_L_sort : FnScope n_L_sort ["_law_error"] (defScope s_L_sort) := ⟨rfl, rfl, rfl, by decide +kernel, rfl, by decide +kernel, by decide +kernel⟩
-- slots of L_sort: 0 _law_error 1 _law_kinds
abbrev s_L_asked : Stmt := top 35
abbrev n_L_asked : List Str := ["_law_door", "_law_thing", "_law_error"]
theorem sc_L_asked : FnScope n_L_asked ["_law_door", "_law_thing"] (defScope s_L_asked) := ⟨rfl, rfl, rfl, by decide +kernel, rfl, by decide +kernel, by decide +kernel⟩
-- slots of L_asked: 0 _law_door 1 _law_thing 2 _law_error
abbrev s_law : Stmt := top 36
abbrev n_law : List Str := ["_law_script", "_law_more", "_law_lists", "_law_thing", "_law_pairs", "_law_whole", "_law_one", "_law_camper"]
theorem sc_law : FnScope n_law ["_law_script"] (defScope s_law) := ⟨rfl, rfl, rfl, by decide +kernel, rfl, by decide +kernel, by decide +kernel⟩
-- slots of law: 0 _law_script 1 _law_more 2 _law_lists 3 _law_thing 4 _law_pairs 5 _law_whole 6 _law_one 7 _law_camper
end TP

set_option Elab.async false
set_option linter.all false
set_option maxRecDepth 100000
set_option maxHeartbeats 2000000
namespace TP
open PySem PySem.Spec PyProof.Rows L2
open Evl (Ex)
/-! ### defs that raise -/
def DfX (P : Program) (w : World) (K : PySem.W.Frag) (mg : Str → Option Value) (base : Heap) (x : Str) (k : Nat) (sp : Sp) : Prop :=
  ∃ f fd ps, FnOk P w K mg base (L2.CX P w) k f fd ps sp ∧ mg x = some (.ref f) ∧ PySem.W.keepIn K (.ref f) = true ∧ Binds K fd ps []
def MtX (P : Program) (w : World) (K : PySem.W.Frag) (mg : Str → Option Value) (base : Heap) (C : Addr) (m : Str) (k : Nat) (sp : Sp) : Prop :=
  ∃ f fd ps, FnOk P w K mg base (L2.CX P w) k f fd ps sp ∧ Meth K C m f ∧ Binds K fd ps []
def MkrX (P : Program) (w : World) (K : PySem.W.Frag) (mg : Str → Option Value) (base : Heap) (C : Addr) (k : Nat) (sp : Sp) : Prop :=
  ∃ f fd ps, FnOk P w K mg base (L2.CX P w) k f fd ps sp ∧ Mk K C f ∧ Binds K fd ps []
/-- an exception's own dict: none, or one that stands -/
def Dct (n : Bool) (H : Hp) (d : Option Addr) : Prop := if n = true then ∃ dd fs, d = some dd ∧ H dd = some (.xd fs) else d = none
/-- it raises: the class at c, with a dict or without -/
def spR {ι : Type} (pre : ι → Prop) (Ps : ι → List (Hp → V → Prop)) (c : Addr) (n : Bool) : Sp := fun vs H _ E =>
  ∃ i G, Ex G H ∧ pre i ∧ Al G (Ps i) vs ∧ ∀ H' d, Ex H H' → Dct n H' d → E (.ref c) d H'
/-- an __init__ that raises -/
def spRI {ι : Type} (C : Addr) (pre : ι → Prop) (Ps : ι → List (Hp → V → Prop)) (c : Addr) (n : Bool) : Sp := fun vs H _ E =>
  ∃ i G H0 x dx us, vs = .ref x :: us ∧ Hs G H0 G H [(x, .ins C dx []), (dx, .own x)] ∧ pre i ∧ Al G (Ps i) us ∧ ∀ H' d, Ex H0 H' → Dct n H' d → E (.ref c) d H'
section
variable {P : Program} {w : World} {K : PySem.W.Frag} {mg : Str → Option Value} {base : Heap}
theorem fun_okR {ι : Type} {pre : ι → Prop} {Ps : ι → List (Hp → V → Prop)} {c : Addr} {n : Bool} {x qual : Str} {st : Stmt} {f : Addr} {fd : FuncData} {N ps : List Str} {k : Nat} (F : Fun K x qual st f fd) (S : FnScope N ps (defScope st)) (hl : ∀ i, (Ps i).length = ps.length)
    (hb : ∀ (cdv : Value) (A : Around) (outer : List Env) (s : Shared) (H : Hp) (vs : List V) (Q : VK) (E : XK) (i : ι) (G : Hp), Room k (A.deeper (envOfC qual (defScope st) s.heap.objs.size f cdv)) → pre i → Al G (Ps i) vs → Hs G H G H [] →
      (∀ H' d, Ex H H' → Dct n H' d → E (.ref c) d H') →
      wSs (cxOf (L2.CX P w) P w K mg base N qual (defScope st) f cdv A outer s H E) (defBody st) { nx := fun _ H' => Q .non H', rt := Q } (start N vs) H) : FnOk P w K mg base (L2.CX P w) (k + 1) f fd ps (spR pre Ps c n) := by
  refine F.okX S (fun vs H Q E ⟨i, G, _, _, al, _⟩ => al.length.trans (hl i)) fun cdv A outer s H vs Q E hr ⟨i, G, eh, hp, al, k⟩ => ?_
  exact hb cdv A outer s H vs Q E i G hr hp al (.nil eh) k
theorem fun_okRI {ι : Type} {C : Addr} {pre : ι → Prop} {Ps : ι → List (Hp → V → Prop)} {c : Addr} {n : Bool} {x qual : Str} {st : Stmt} {f : Addr} {fd : FuncData} {N ps : List Str} {k : Nat} (F : Fun K x qual st f fd) (S : FnScope N ps (defScope st)) (hl : ∀ i, (Ps i).length + 1 = ps.length)
    (hb : ∀ (cdv : Value) (A : Around) (outer : List Env) (s : Shared) (H : Hp) (us : List V) (Q : VK) (E : XK) (i : ι) (G H0 : Hp) (x dx : Addr), Room k (A.deeper (envOfC qual (defScope st) s.heap.objs.size f cdv)) → pre i → Al G (Ps i) us → Hs G H0 G H [(x, .ins C dx []), (dx, .own x)] →
      (∀ H' d, Ex H0 H' → Dct n H' d → E (.ref c) d H') →
      wSs (cxOf (L2.CX P w) P w K mg base N qual (defScope st) f cdv A outer s H E) (defBody st) { nx := fun _ H' => Q .non H', rt := Q } (start N (.ref x :: us)) H) : FnOk P w K mg base (L2.CX P w) (k + 1) f fd ps (spRI C pre Ps c n) := by
  refine F.okX S (fun vs H Q E ⟨i, G, H0, x, dx, us, e, _, _, al, _⟩ => by rw [e, List.length_cons, al.length]; exact hl i) fun cdv A outer s H vs Q E hr ⟨i, G, H0, x, dx, us, e, h, hp, al, k⟩ => ?_
  subst e
  exact hb cdv A outer s H us Q E i G H0 x dx hr hp al h k
end
/-! ### what the text must say of an exception class without an __init__ of its own -/
structure Own (K : PySem.W.Frag) (mg : Str → Option Value) (x : Str) (c : Addr) : Prop where
  at_ : mg x = some (.ref c)
  ex : PySem.W.excIn K c [.type "ValueError", .type "Exception", .type "BaseException", .type "object"] "ValueError.__new__" = true
  kp : PySem.W.keepIn K (.ref c) = true
  sub : PySem.W.subIn K (.ref c) (.type "BaseException") = some true
  ty : PySem.W.typeIn K (.ref c) = some (.type "type")
section
variable {X : Cx} {σ : L2.St} {e o a b c : Expr} {es : List Expr} {G G0 H0 H : Hp} {pos : Pos} {x : Str} {k : Nat} {ι : Type} {pre : ι → Prop} {Ps : ι → List (Hp → V → Prop)} {rest : List Stmt} {D : Ends} {os : List (Addr × HO)} {W : WX} {C cl : Addr} {n : Bool}
theorem b_raise {m : Str} {j : Nat} {p p2 q : Pos} (hc : X.calm = true) (tk : L2.Takes X W) (O : Own X.K X.mg x cl) (hg : Gl X x) (hd : (x == ("__debug__" : Str)) = false) (h : W (.ref cl) none σ H) :
    wSs X (.Raise (some (.Call (.Name x p) [.Constant (.str m) j p2] [] pos)) none q :: rest) D σ H :=
  b_cons ⟨_, ps_raise hc tk (pmk_own PySem.F.excBase_ValueError O.ex O.at_ O.kp (raises_own O.sub O.ty) hg hd), h⟩
theorem passW (tk : L2.Takes X W) : Passes (L2.CX X.prog X.w) X (fun c d H => ∀ σ : L2.St, σ.length = X.N.length → W c d σ H) :=
  fun pins σ H s e s' I z => tk e s' (L2.XE.of_call I (fun _ _ _ h => h σ I.len) z)
/-- f(e, ..) raises -/
theorem we_callR {p : Pos} {Q : VK} (tk : L2.Takes X W) (F : DfX X.prog X.w X.K X.mg X.base x k (spR pre Ps cl n)) (hr : Room k X.A) (hg : Gl X x) (i : ι) (hp : pre i) (ha : JA X σ (e :: es) G (fun G vs => Al G (Ps i) vs)) (hs : NoStar e) (hdb : (x == ("__debug__" : Str)) = false)
    (hpl : (backTo pos (starEach es X.env)).any (·.1) = false) (eh : Ex G H) (q : ∀ H' d, Ex H H' → Dct n H' d → ∀ σ : L2.St, σ.length = X.N.length → W (.ref cl) d σ H') : wE X (.Call (.Name x p) (e :: es) [] pos) σ H Q := by
  obtain ⟨f, fd, ps, hf, hm, hk, hb⟩ := F
  refine ⟨_, pe_call hf hr hg hm hk hb .nil (passW tk) pa_w hdb (hs _ _) hpl, ha H eh _ fun G1 H1 vs s1 al => ?_⟩
  rw [List.append_nil]
  exact ⟨i, G1, s1.gh, hp, al, fun H' d e z => q H' d (s1.h.trans e) z⟩
/-- o.m(e, ..) raises -/
theorem we_methR {m : Str} {p : Pos} {oa : Addr} {A : List (Str × V)} {pl : Sem Bool} {Q : VK} (tk : L2.Takes X W) (F : MtX X.prog X.w X.K X.mg X.base C m k (spR pre Ps cl n)) (cc : Cls X.K C) (ho : JV X σ o G (.ref oa)) (hi : InsAt G oa C A) (hA : A.lookup m = none) (hr : Room k X.A) (i : ι) (hp : pre i)
    {P0 : Hp → V → Prop} {Ps' : List (Hp → V → Prop)} (hP : Ps i = P0 :: Ps') (h0 : P0 G (.ref oa)) (m0 : Mo P0) (hes : JA X σ (e :: es) G (fun G vs => Al G Ps' vs)) (hs : NoStar e)
    (hpl : (backTo pos (starEach es X.env)).any (·.1) = false)
    (ht : eval (.Call (.Attribute o m p) (e :: es) [] pos) X.env = (do
      let ov ← eval o X.env
      standAt p.atName
      let (f, first) ← holding [ov] (getMethod ov m pl)
      callWith pos f first (backTo pos (starEach (e :: es) X.env)) (backToKw pos (keywordEach [] X.env))))
    (eh : Ex G H) (q : ∀ H' d, Ex H H' → Dct n H' d → ∀ σ : L2.St, σ.length = X.N.length → W (.ref cl) d σ H') : wE X (.Call (.Attribute o m p) (e :: es) [] pos) σ H Q := by
  obtain ⟨f, fd, ps, hf, hm, hb⟩ := F
  obtain ⟨dx, fs, hG, hfs⟩ := hi.ex
  refine ⟨_, pe_meth pe_w cc hm hf hr hb .nil (passW tk) pa_w (hs _ _) hpl ht, ho H eh _ fun H1 e1 => ⟨oa, dx, fs, rfl, e1 _ _ (eh _ _ hG), (hfs m).trans hA, ?_⟩⟩
  refine hes H1 (eh.trans e1) _ fun G2 H2 vs s2 al => ?_
  rw [List.append_nil]
  exact ⟨i, G2, s2.gh, hp, by rw [hP]; exact ⟨m0 _ _ _ s2.g h0, al⟩, fun H' d e z => q H' d ((e1.trans s2.h).trans e) z⟩
/-- C(e, ..) raises -/
theorem we_makeR {p : Pos} {Q : VK} (tk : L2.Takes X W) (F : MkrX X.prog X.w X.K X.mg X.base C k (spRI C pre Ps cl n)) (hr : Room (k + 1) X.A) (hg : Gl X x) (hm : X.mg x = some (.ref C)) (i : ι) (hp : pre i) (ha : JA X σ (e :: es) G (fun G vs => Al G (Ps i) vs)) (hs : NoStar e) (hdb : (x == ("__debug__" : Str)) = false)
    (hpl : (backTo pos (starEach es X.env)).any (·.1) = false) (eh : Ex G H) (q : ∀ H' d, Ex H H' → Dct n H' d → ∀ σ : L2.St, σ.length = X.N.length → W (.ref cl) d σ H') : wE X (.Call (.Name x p) (e :: es) [] pos) σ H Q := by
  obtain ⟨f, fd, ps, hf, mk, hb⟩ := F
  refine ⟨_, pe_make mk hf hr hg hm hb .nil (passW tk) pa_w hdb (hs _ _) hpl, ha H eh _ fun G1 H1 vs s1 al xx dx hx hdx ne => ?_⟩
  rw [List.append_nil]
  exact ⟨i, G1, H1, xx, dx, vs, rfl, made_hs s1.gh hx hdx ne, hp, al, fun H' d e z => q H' d (s1.h.trans e) z⟩
/-! ### try -/
/-- the suite of an except clause, read as widely as may be -/
def tSuite (X : Cx) (sts : List Stmt) : Addr → Value → Option Addr → TS := fun a cls d D σ H => ∀ oe pn, Zc cls d oe → (∃ vs, oe.data = .fields vs) → wSs (X.suite a ((a, oe) :: pn)) sts D σ H
theorem b_tryAs {y nm : Str} {c : Value} {i : Nat} {body suite : List Stmt} {b₀ : Stmt} {np pos' q : Pos} {Wout : WX} (hs : X.stack = X.env :: X.outer) (hf : X.env.frame = some X.env.locals) (hN : X.N.Nodup) (hi : X.N[i]? = some nm) (hln : X.env.kindOf nm = some .local) (hc : Names X y c) (tk : L2.Takes X Wout)
    (h : ∀ pn xe, L2.Takes (X.tr pn xe) (wAs X.K c i (tSuite X (b₀ :: suite)) Wout { D with nx := wSs X rest D }) → PassesOwn (model X.prog X.w) X.A X.env xe → wSs (X.tr pn xe) body { D with nx := wSs X rest D } σ H) :
    wSs X (.Try body [.ExceptHandler (some (.Name y np)) (some nm) (b₀ :: suite) pos'] [] [] q :: rest) D σ H :=
  b_cons ⟨_, ps_try_as (tb := fun W D σ H => ∀ pn xe, L2.Takes (X.tr pn xe) W → PassesOwn (model X.prog X.w) X.A X.env xe → wSs (X.tr pn xe) body D σ H) hs hf hN hi hln hc tk
    (fun W pn xe tk hp => ⟨fun pins s σ H D I z => pss_w.run pins s σ H D I (z pn xe tk hp)⟩)
    (fun a oe cls d pn hz hv => ⟨fun pins s σ H D I z => pss_w.run pins s σ H D I (z oe pn hz hv)⟩), h⟩
end
/-! ### the handled exception, asked what it is -/
structure ExcK (K : PySem.W.Frag) (C : Addr) : Prop where
  cl : (PySem.W.clsIn K C).isSome = true
  ga : PySem.W.findIn K (.ref C) "__getattribute__" = some (some (.builtin "BaseException.__getattribute__"))
  gt : PySem.W.findIn K (.ref C) "__getattr__" = some none
  sub : PySem.W.subIn K (.ref C) (.type "BaseException") = some true
  ca : PySem.W.findIn K (.ref C) "__class__" = some (some (.builtin "object.__class__"))
  hn : PySem.W.specialIn K (.builtin "object.__class__") "__get__" = some (some (.builtin "getset_descriptor.__get__"))
  tk : PySem.W.takesIn K (.builtin "object.__class__") = some true
  hm : PySem.W.mroIn K C (.type "object") = some true
section
variable {X : Cx} {σ : L2.St} {a : Expr} {G : Hp} {pos : Pos} {D x : Addr} {oe : Obj} {d : Option Addr} {n : Bool}
def rIsX (K : PySem.W.Frag) (D a : Addr) (n : Bool) (d : Option Addr) : List V → Hp → VK → Prop := fun xs H Q => ∃ (c : V) (cv : Value) (b : Bool), xs = [.ref a, c] ∧ (∀ u, RelV c u → u = cv) ∧ PySem.W.kitOne K (.ref D) cv = some b ∧ Dct n H d ∧ Q (.bl b) H
theorem call_isX (C : ExcK X.K D) (hp : (x, oe) ∈ X.pn) (hz : Zc (.ref D) d oe) (hv : ∃ vs, oe.data = .fields vs) : CallR X (.builtin "isinstance") (rIsX X.K D x n d) := by
  intro pins s σ H xs us Q I r ⟨c, cv, b, ex, hcv, hk, hd, q⟩
  subst ex
  cases r with
  | cons rx rr =>
  cases rr with
  | cons rt rr =>
  cases rr
  cases rx
  cases hcv _ rt
  have hget := (I.pin (x, oe) (List.mem_append_left _ hp)).1
  have nc : PySem.W.notCls oe = true := by
    obtain ⟨vs, hv⟩ := hv
    unfold PySem.W.notCls
    rw [hv] <;> rfl
  have J : ∃ od, PySem.W.InstAt s.heap x oe D od := by
    cases n with
    | false =>
      have hd : d = none := hd
      exact ⟨none, hget, hz.1, nc, by rw [hz.2, hd]; trivial⟩
    | true =>
      obtain ⟨dd, fs, e1, e2⟩ : ∃ dd fs, d = some dd ∧ H dd = some (.xd fs) := hd
      obtain ⟨mA, ⟨od, _, _, e3, _⟩, _⟩ : ObjOk X.prog X.w H s.heap dd (.xd fs) := I.hok dd _ e2
      exact ⟨some od, hget, hz.1, nc, by rw [hz.2, e1]; exact e3⟩
  obtain ⟨od, J⟩ := J
  exact PySem.W.kia_one (PySem.W.kitx_exc C.cl C.ga C.gt C.sub C.ca C.hn C.tk C.hm) I.kIn J hk (fun z => nomatch z) fun tk => ⟨.bl b, H, I.kept (t' := tk) fun _ _ z => z, rfl, q⟩
theorem Dct.mono {H H' : Hp} (e : Ex H H') (h : Dct n H d) : Dct n H' d := by
  cases n with
  | false => exact h
  | true => exact let ⟨dd, fs, h1, h2⟩ := h; ⟨dd, fs, h1, e _ _ h2⟩
theorem jv_isX {T : Str} {c : Addr} {r : Bool} {p p2 : Pos} (C : ExcK X.K D) (hp : (x, oe) ∈ X.pn) (hz : Zc (.ref D) d oe) (hv : ∃ vs, oe.data = .fields vs) (hd : Dct n G d) (hm : X.mg "isinstance" = none) (hT : X.mg T = some (.ref c)) (ha : JV X σ a G (.ref x)) (hk : PySem.W.kitOne X.K (.ref D) (.ref c) = some r)
    (hg : Gl X "isinstance") (hg2 : Gl X T) (he : NoStar a) (hdd : (T == ("__debug__" : Str)) = false) : JV X σ (.Call (.Name "isinstance" p) [a, .Name T p2] [] pos) G (.bl r) := ⟨fun H eh Q q =>
  ⟨_, pe_callB (call_isX C hp hz hv) hg hm boot_isi (pa_cons pe_w (pa_cons (pe_glob hg2 hT (v := .ref c) rfl hdd) pa_nil rfl) (he _ _)) (he := he _ _), ha H eh _ fun H1 e1 =>
    ⟨.ref c, .ref c, r, rfl, fun u z => z, hk, hd.mono (eh.trans e1), q H1 e1⟩⟩⟩
theorem jv_isXT {T : Str} {Ty : String} {r : Bool} {p p2 : Pos} (hbT : bootBuiltins T = some (.type Ty)) (C : ExcK X.K D) (hp : (x, oe) ∈ X.pn) (hz : Zc (.ref D) d oe) (hv : ∃ vs, oe.data = .fields vs) (hd : Dct n G d) (hm : X.mg "isinstance" = none) (hT : X.mg T = none) (ha : JV X σ a G (.ref x)) (hk : PySem.W.kitOne X.K (.ref D) (.type Ty) = some r)
    (hg : Gl X "isinstance") (hg2 : Gl X T) (he : NoStar a) (hn : T ≠ "__name__") (hdd : (T == ("__debug__" : Str)) = false) : JV X σ (.Call (.Name "isinstance" p) [a, .Name T p2] [] pos) G (.bl r) := ⟨fun H eh Q q =>
  ⟨_, pe_callB (call_isX C hp hz hv) hg hm boot_isi (pa_cons pe_w (pa_cons (pe_bltn hg2 hT hbT (v := .ty Ty) rfl hn hdd) pa_nil rfl) (he _ _)) (he := he _ _), ha H eh _ fun H1 e1 =>
    ⟨.ty Ty, .type Ty, r, rfl, fun u z => z, hk, hd.mono (eh.trans e1), q H1 e1⟩⟩⟩
end
end TP

set_option Elab.async false
set_option linter.all false
set_option maxRecDepth 100000
set_option maxHeartbeats 2000000
namespace TP
open PySem PySem.Spec PyProof.Rows L2
open Evl (Ex)
/-! ### an exception class that sets fields: B.__init__(self, m); self.f = e -/
/-- the base, at B, as it is read: its __init__ is ValueError's -/
structure Bas (K : PySem.W.Frag) (mg : Str → Option Value) (x : Str) (B : Addr) (mc : Value) : Prop where
  at_ : mg x = some (.ref B)
  rd : PySem.W.readsIn K B mc = true
  ga : PySem.W.specialIn K (.ref B) "__getattribute__" = some (some (.builtin "type.__getattribute__"))
  ini : PySem.W.findCls K (.ref B) mc "__init__" = some (.val (.builtin "ValueError.__init__"))
section
variable {X : Cx} {e : Expr} {es : List Expr} {ta : TA} {x : Str} {B : Addr} {mc : Value} {p1 p2 pos : Pos}
theorem pe_basInit {pl : Sem Bool} (Z : Bas X.K X.mg x B mc) (hg : Gl X x) (hdb : (x == ("__debug__" : Str)) = false) (ha : PA X (e :: es) ta)
    (ht : eval (.Call (.Attribute (.Name x p1) "__init__" p2) (e :: es) [] pos) X.env = (do
      let ov ← eval (.Name x p1) X.env
      standAt p2.atName
      let (f, first) ← holding [ov] (getMethod ov "__init__" pl)
      callWith pos f first (backTo pos (starEach (e :: es) X.env)) (backToKw pos (keywordEach [] X.env))))
    (hst : starEach (e :: es) X.env = (false, eval e X.env) :: starEach es X.env) (hpl : (backTo pos (starEach es X.env)).any (·.1) = false) :
    PE X (.Call (.Attribute (.Name x p1) "__init__" p2) (e :: es) [] pos) (tVeI X.K ta) := ⟨fun pins s σ H Q I h => by
  refine PySem.W.methodCall_KW (ld_glob I hg Z.at_ (PySem.W.method_cls I.kIn Z.ga (PySem.W.cls_value I.kIn Z.rd Z.ini (by decide +kernel) ?_)) hdb) ht
  refine PyProof.Rows.callWith_method1 (thn (ha.run pos pins _ σ H _ (I.tok _) h) fun us s1 ⟨vs, H1, I1, rvs, o, C, ws, evs, hws, T, eo, q⟩ => ?_) hst hpl
  cases evs
  cases rvs with
  | cons ro rws =>
  cases ro
  exact oinit_ok T I1 eo (by rw [← Paired.length rws, sizeLine_eq]; omega) fun s2 I2 => ⟨.non, H1, I2, rfl, q⟩⟩
end
/-- its __init__ -/
def spXI (C : Addr) (f : Str) : Sp := fun vs H Q _ => ∃ a v, vs = [.ref a, v] ∧ H a = some (exo a C none) ∧ ∀ dx, H dx = none → dx ≠ a → Q .non (upd (upd H dx (exd dx [(f, v)])) a (exo a C (some dx)))
/-- what the text says of the class | what its __init__ keeps -/
structure OwnX (P : Program) (w : World) (K : PySem.W.Frag) (mg : Str → Option Value) (base : Heap) (x : Str) (C : Addr) (f : Str) : Prop where
  at_ : mg x = some (.ref C)
  o : OexC K C
  nf : PySem.W.findIn K (.ref C) f = some none
  ini : ∃ fI fd ps, PySem.W.findIn K (.ref C) "__init__" = some (some (.ref fI)) ∧ PySem.W.typeIn K (.ref fI) = some (.type "function") ∧ FnOk P w K mg base CX0 1 fI fd ps (spXI C f) ∧ Binds K fd ps []
section
variable {X : Cx} {σ : L2.St} {e : Expr} {G H : Hp} {pos : Pos} {x f : Str} {rest : List Stmt} {D : Ends} {W : WX} {C : Addr}
/-- raise C(e) -/
theorem b_raiseX {p q : Pos} {P : Hp → V → Prop} (hc : X.calm = true) (tk : L2.Takes X W) (O : OwnX X.prog X.w X.K X.mg X.base x C f) (hr : Room 2 X.A) (hg : Gl X x) (hdb : (x == ("__debug__" : Str)) = false) (eh : Ex G H) (he : JP X σ e G P) (hs : NoStar e) (hpl : (backTo pos (starEach [] X.env)).any (·.1) = false)
    (h : ∀ G' H' dd v, Ex H H' → Ex G' H' → P G' v → H' dd = some (.xd [(f, v)]) → W (.ref C) (some dd) σ H') : wSs X (.Raise (some (.Call (.Name x p) [e] [] pos)) none q :: rest) D σ H := by
  obtain ⟨fI, fd, ps, i1, i2, F, hb⟩ := O.ini
  refine b_cons ⟨_, ps_raise hc tk (pmk_oex O.o i1 i2 F hr hb .nil pass0 hg O.at_ (pa_cons pe_w pa_nil (hs _ _)) hdb (hs _ _) hpl), he H eh _ fun G1 H1 v s1 pv => ⟨Nat.le_of_ble_eq_true rfl, fun a na => ⟨a, v, rfl, upd_same, fun dx nd ne => ⟨rfl, dx, [(f, v)], upd_same, ?_, ?_, ?_⟩⟩⟩⟩
  · rw [upd_ne ne, upd_same]
  · rw [upd_ne ne] at nd; exact nd
  · have nd1 : H1 dx = none := by rw [upd_ne ne] at nd; exact nd
    have e1 : Ex H1 (upd (L2.del (upd (upd (upd H1 a (exo a C none)) dx (exd dx [(f, v)])) a (exo a C (some dx))) a) dx (.xd [(f, v)])) := fun b o hb => by
      have h1 : b ≠ a := fun z => by subst z; rw [na] at hb; cases hb
      have h2 : b ≠ dx := fun z => by subst z; rw [nd1] at hb; cases hb
      rw [upd_ne h2, L2.del_ne h1, upd_ne h1, upd_ne h2, upd_ne h1]
      exact hb
    exact h G1 _ dx v (s1.h.trans e1) (s1.gh.trans e1) pv upd_same
end
/-! ### a def that is handed the exception which is handled -/
structure FnE (P : Program) (w : World) (K : PySem.W.Frag) (mg : Str → Option Value) (base : Heap) (k : Nat) (f : Addr) (fd : FuncData) (ps : List Str) (sp : Addr × Obj → Sp) : Prop where
  len : ∀ p vs H Q E, sp p vs H Q E → vs.length = ps.length
  go : ∀ (p : Addr × Obj) (A : Around) (outer : List Env) (s : Shared) (H : Hp) (us : List Value) (vs : List V) (Q : VK), L2H.RoomH k A → L2H.PinOk outer H s p → Env0 P w K mg base A outer s H → BindsTo s fd ⟨us, []⟩ (ps.zip us) → Vals vs us → sp p vs H Q (fun _ _ _ => False) →
    codeAny (model P w) A (.call (.ref f) ⟨us, []⟩) (CR CX0 outer P w H s Q fun _ _ _ => False) s
theorem fun_okE {P : Program} {w : World} {K : PySem.W.Frag} {mg : Str → Option Value} {base : Heap} {x qual : Str} {st : Stmt} {f : Addr} {fd : FuncData} {N ps : List Str} {k : Nat} {sp : Addr × Obj → Sp} (F : Fun K x qual st f fd) (S : FnScope N ps (defScope st)) (hl : ∀ p vs H Q E, sp p vs H Q E → vs.length = ps.length)
    (hb : ∀ (cdv : Value) (p : Addr × Obj) (A : Around) (outer : List Env) (s : Shared) (H : Hp) (vs : List V) (Q : VK), L2H.RoomH k (A.deeper (envOfC qual (defScope st) s.heap.objs.size f cdv)) → sp p vs H Q (fun _ _ _ => False) →
      wSs (L2H.cxH CX0 P w K mg base N qual (defScope st) f cdv A outer s H (fun _ _ _ => False) p) (defBody st) { nx := fun _ H' => Q .non H', rt := Q } (start N vs) H) : FnE P w K mg base (k + 1) f fd ps sp := by
  obtain ⟨oc, od, kV, doc, pm, an, cdv, ct, osl, rfl, lk, hcd⟩ := F.ex
  refine ⟨hl, fun p A outer s H us vs Q hr hpin e0 bt r hsp => ?_⟩
  have kin : K.In s.heap := e0.mod.kin.keeps fun b o e => (e0.bs b o e).1
  have hvl := hl _ _ _ _ _ hsp
  have dep : A.depth < recursionLimit := by have := hr.dp; omega
  refine codeAny_call_function dep (kin _ _ lk) rfl S.co S.gen rfl (PySem.W.codeRec_of kin hcd) (bt _ _ _ _ (wpAny_newFunctionEnv_cells S.kind (fun ⟨y, v⟩ hy => ?_) fun env he s1 ic => ?_))
  · exact (S.par y (List.of_mem_zip hy).1).imp id fun q => ⟨q, PySem.W.cellsFrom_some _ _ _ (.inl q)⟩
  · subst he
    have nl : s.heap.NoLimit := e0.mod.nolimit.keeps fun b o e => (e0.bs b o e).1
    refine ⟨nl.keeps ic.toInCall.keep, codeAny_func ?_⟩
    have I := L2H.inv_startH (CX := CX0) (K := K) (mg := mg) (base := base) (E := fun _ _ _ => False) S hpin e0 hvl r ic
    obtain ⟨t, ht, hq⟩ := hb cdv p A outer s H vs Q (hr.deeper _) hsp
    refine wpAny_mono (ht.run [] s1 _ H _ I hq) (fun fl s2 z => ?_) fun _ _ z => z
    cases fl with
    | brk => exact (let ⟨_, _, _, q⟩ := z; False.elim q)
    | cont => exact (let ⟨_, _, _, q⟩ := z; False.elim q)
    | next => exact (let ⟨_, H2, J, q⟩ := z; ⟨V.non, H2, J.os, J.bare, J.base, J.hok, rfl, q⟩)
    | ret u => exact (let ⟨v, _, H2, J, rv, q⟩ := z; ⟨v, H2, J.os, J.bare, J.base, J.hok, rv, q⟩)
/-- f(e), in the suite -/
theorem we_callE {X : Cx} {σ : L2.St} {G H : Hp} {e : Expr} {k : Nat} {f : Addr} {fd : FuncData} {ps : List Str} {sp : Addr × Obj → Sp} {x : Str} {q pos : Pos} {p : Addr × Obj} {Q : VK} {v : V} (F : FnE X.prog X.w X.K X.mg X.base k f fd ps sp) (hr : L2H.RoomH k X.A) (hp : p ∈ X.pn) (hg : Gl X x) (hm : X.mg x = some (.ref f)) (hk : PySem.W.keepIn X.K (.ref f) = true) (hb : Binds X.K fd ps [])
    (ha : JV X σ e G v) (eh : Ex G H) (hdb : (x == ("__debug__" : Str)) = false) (hs : NoStar e) (hpl : (backTo pos (starEach [] X.env)).any (·.1) = false) (hq : ∀ H', Ex H H' → sp p [v] H' Q (fun _ _ _ => False)) : wE X (.Call (.Name x q) [e] [] pos) σ H Q := by
  refine ⟨fun σ H Q => wA X [e] σ H fun vs H1 => sp p vs H1 Q (fun _ _ _ => False), ⟨fun pins s σ H Q I h => ?_⟩, ⟨_, pa_cons pe_w pa_nil (hs _ _), ha H eh _ fun H1 e1 => hq H1 e1⟩⟩
  refine wpAny_Call_Name_kw (ld_glob I hg hm (PySem.W.callWith_K (h₀ := X.base) I.ok.mod.kin hk (thn (pa_w.run pos pins s σ H _ I h) fun us s1 ⟨vs, H1, I1, r, z⟩ => ⟨I1.kIn, wpAny_call ?_⟩) (hs _ _) hpl) hdb)
  have nus : us.length = ps.length := r.length.symm.trans (F.len _ _ _ _ _ z)
  have bt := hb s1 us I1.kIn (by rw [List.append_nil]; exact nus)
  rw [List.append_nil] at bt
  obtain ⟨g1, g2, g3, g4, g5⟩ := I1.pin p (List.mem_append_left _ hp)
  have pin : L2H.PinOk X.stack H1 s1 p := ⟨g1, g2, fun hm => (List.mem_cons.mp (I1.stkSub p.1 hm)).elim g3 g4, g5⟩
  refine codeAny_mono (F.go p X.A X.stack s1 H1 us vs Q hr pin I1.env0 bt r z) fun res s2 hc => ?_
  match res, hc with
  | .ok (.ret u), hc => exact I1.after hc
  | .ok .next, hc => exact False.elim hc
  | .ok .brk, hc => exact False.elim hc
  | .ok .cont, hc => exact False.elim hc
  | .error er, hc => exact False.elim hc
end TP

set_option Elab.async false
set_option linter.all false
set_option maxRecDepth 100000
set_option maxHeartbeats 2000000
namespace TP
open PySem PySem.Spec PyProof.Rows L2
open Evl (Ex)
section
variable {P : Program} {w : World} {K : PySem.W.Frag} {mg : Str → Option Value} {base h : Heap} {C : Addr} {x q : Str} {st : Stmt}
theorem Gf.dfX {k : Nat} {sp : Sp} (ps : List Str) (g : Gf K x st) (X : K.In h) (G : h.Ns mainGlobals mg) (ok : ∀ f fd, Fun K x x st f fd → FnOk P w K mg base (L2.CX P w) k f fd ps sp)
    (hb : ∀ (kV doc pm : Value) (an : Option Addr) (cdv ct : Value) (us : List Value), us.length = ps.length → bindArgs (PySem.W.fnOf x x (defArgs st) (defBody st) (defScope st) .none kV doc pm an cdv ct) ⟨us, []⟩ = pure (ps.zip us)) : DfX P w K mg base x k sp :=
  let ⟨f, fd, a, F⟩ := g
  ⟨f, fd, ps, ok f fd F, PySem.W.mg_of X G a, F.kp, F.binds hb⟩
theorem Gf.dfE {k : Nat} {sp : Addr × Obj → Sp} (ps : List Str) (g : Gf K x st) (X : K.In h) (G : h.Ns mainGlobals mg) (ok : ∀ f fd, Fun K x x st f fd → FnE P w K mg base k f fd ps sp)
    (hb : ∀ (kV doc pm : Value) (an : Option Addr) (cdv ct : Value) (us : List Value), us.length = ps.length → bindArgs (PySem.W.fnOf x x (defArgs st) (defBody st) (defScope st) .none kV doc pm an cdv ct) ⟨us, []⟩ = pure (ps.zip us)) : ∃ f fd ps, FnE P w K mg base k f fd ps sp ∧ mg x = some (.ref f) ∧ PySem.W.keepIn K (.ref f) = true ∧ Binds K fd ps [] :=
  let ⟨f, fd, a, F⟩ := g
  ⟨f, fd, ps, ok f fd F, PySem.W.mg_of X G a, F.kp, F.binds hb⟩
theorem Gm.mtX {k : Nat} {sp : Sp} (ps : List Str) (g : Gm K C x q st) (ok : ∀ f fd, Fun K x q st f fd → FnOk P w K mg base (L2.CX P w) k f fd ps sp)
    (hb : ∀ (kV doc pm : Value) (an : Option Addr) (cdv ct : Value) (us : List Value), us.length = ps.length → bindArgs (PySem.W.fnOf x q (defArgs st) (defBody st) (defScope st) .none kV doc pm an cdv ct) ⟨us, []⟩ = pure (ps.zip us)) : MtX P w K mg base C x k sp :=
  let ⟨f, fd, a, F⟩ := g
  ⟨f, fd, ps, ok f fd F, a, F.binds hb⟩
theorem Gm.mkrX {k : Nat} {sp : Sp} (ps : List Str) (g : Gm K C "__init__" q st) (mk : PySem.W.makesIn K C = true) (kc : PySem.W.keepIn K (.ref C) = true) (ok : ∀ f fd, Fun K "__init__" q st f fd → FnOk P w K mg base (L2.CX P w) k f fd ps sp)
    (hb : ∀ (kV doc pm : Value) (an : Option Addr) (cdv ct : Value) (us : List Value), us.length = ps.length → bindArgs (PySem.W.fnOf "__init__" q (defArgs st) (defBody st) (defScope st) .none kV doc pm an cdv ct) ⟨us, []⟩ = pure (ps.zip us)) : MkrX P w K mg base C k sp :=
  let ⟨f, fd, a, F⟩ := g
  ⟨f, fd, ps, ok f fd F, ⟨mk, a.at_, a.fn, kc⟩, F.binds hb⟩
theorem Gm.ownX {y f : Str} (ps : List Str) (g : Gm K C "__init__" q st) (at_ : mg y = some (.ref C)) (o : OexC K C) (nf : PySem.W.findIn K (.ref C) f = some none) (ok : ∀ fI fd, Fun K "__init__" q st fI fd → FnOk P w K mg base CX0 1 fI fd ps (spXI C f))
    (hb : ∀ (kV doc pm : Value) (an : Option Addr) (cdv ct : Value) (us : List Value), us.length = ps.length → bindArgs (PySem.W.fnOf "__init__" q (defArgs st) (defBody st) (defScope st) .none kV doc pm an cdv ct) ⟨us, []⟩ = pure (ps.zip us)) : OwnX P w K mg base y C f :=
  let ⟨fI, fd, a, F⟩ := g
  ⟨at_, o, nf, fI, fd, ps, a.at_, beq_iff_eq.mp a.fn, ok fI fd F, F.binds hb⟩
theorem kit_eq {a : Addr} : PySem.W.kitOne K (.ref a) (.ref a) = some true := if_pos (beq_self_eq_true _)
theorem kit_cl {a b : Addr} {r : Bool} (h1 : (Value.ref a == Value.ref b) = false) (h2 : PySem.W.isClsIn K b = true) (h3 : PySem.W.typeIn K (.ref b) = some (.type "type")) (h4 : PySem.W.subIn K (.ref a) (.ref b) = some r) : PySem.W.kitOne K (.ref a) (.ref b) = some r := by
  have h5 : (PySem.W.clsIn K b).isSome = true := h2
  have e : PySem.W.kitCls K (.ref a) (.ref b) = some r := by
    show (if ((PySem.W.clsIn K b).isSome && PySem.W.typeIn K (.ref b) == some (.type "type")) = true then PySem.W.subIn K (.ref a) (.ref b) else none) = some r
    rw [h5, h3, if_pos (by rw [Bool.true_and]; exact beq_self_eq_true _)]
    exact h4
  unfold PySem.W.kitOne
  rw [h1, e]
  rfl
theorem kit_ve {a : Addr} {T : String} (hT : PySem.W.kitMeta T = true) (h4 : PySem.W.subIn K (.ref a) (.type T) = some true) : PySem.W.kitOne K (.ref a) (.type T) = some true := by
  have e : PySem.W.kitCls K (.ref a) (.type T) = some true := by
    show (if PySem.W.kitMeta T = true then PySem.W.subIn K (.ref a) (.type T) else none) = some true
    rw [if_pos hT]
    exact h4
  unfold PySem.W.kitOne
  rw [e, if_neg (by intro z; cases (beq_iff_eq.mp z))]
end
end TP

set_option Elab.async false
set_option linter.all false
set_option maxRecDepth 100000
set_option maxHeartbeats 2000000
namespace TP
open PySem PySem.Spec PyProof.Rows L2
open Evl (Ex)
-- tactics of this text: what an expression is worth (jv jd jt jo jw), growth (ex), what remains (side); call, calld: what the text adds
local macro_rules | `(tactic| walk_at "ex") => `(tactic| first | exact Ex.refl _ | assumption | (refine' Ex.trans ?_ (by assumption); walk_at "ex"))
local macro_rules | `(tactic| walk_at "vis") => `(tactic| first
  | exact Or.inl rfl
  | exact Or.inr (Or.inl rfl)
  | exact Or.inr (Or.inr rfl))
local macro_rules | `(tactic| walk_at "loc") => `(tactic| first
  | exact Or.inl rfl
  | exact Or.inr rfl)
local macro_rules | `(tactic| walk_at "side") => `(tactic| first
  | assumption
  | omega
  | decide
  | exact rfl
  | (simp_all; done)
  | (simp_all; omega))
local macro_rules | `(tactic| walk_at "hu") => `(tactic| first
  | exact room65 (by assumption)
  | exact Room.units (by assumption))
local macro_rules | `(tactic| walk_at "dp") => `(tactic| first | assumption | (refine' Dx.mono ?_ (by assumption); walk_at "ex"))
local macro_rules | `(tactic| walk_at "var") => `(tactic| first
  | (apply jv_var 0; exact rfl; exact rfl; walk_at "vis"; decide; decide)
  | (apply jv_var 1; exact rfl; exact rfl; walk_at "vis"; decide; decide)
  | (apply jv_var 2; exact rfl; exact rfl; walk_at "vis"; decide; decide)
  | (apply jv_var 3; exact rfl; exact rfl; walk_at "vis"; decide; decide)
  | (apply jv_var 4; exact rfl; exact rfl; walk_at "vis"; decide; decide)
  | (apply jv_var 5; exact rfl; exact rfl; walk_at "vis"; decide; decide)
  | (apply jv_var 6; exact rfl; exact rfl; walk_at "vis"; decide; decide)
  | (apply jv_var 7; exact rfl; exact rfl; walk_at "vis"; decide; decide)
  | (apply jv_var 8; exact rfl; exact rfl; walk_at "vis"; decide; decide)
  | (apply jv_var 9; exact rfl; exact rfl; walk_at "vis"; decide; decide)
  | (apply jv_var 10; exact rfl; exact rfl; walk_at "vis"; decide; decide)
  | (apply jv_var 11; exact rfl; exact rfl; walk_at "vis"; decide; decide)
  | (apply jv_var 12; exact rfl; exact rfl; walk_at "vis"; decide; decide)
  | (apply jv_var 13; exact rfl; exact rfl; walk_at "vis"; decide; decide)
  | (apply jv_var 14; exact rfl; exact rfl; walk_at "vis"; decide; decide)
  | (apply jv_var 15; exact rfl; exact rfl; walk_at "vis"; decide; decide)
  | (apply jv_var 16; exact rfl; exact rfl; walk_at "vis"; decide; decide)
  | (apply jv_var 17; exact rfl; exact rfl; walk_at "vis"; decide; decide)
  | (apply jv_var 18; exact rfl; exact rfl; walk_at "vis"; decide; decide)
  | (apply jv_var 19; exact rfl; exact rfl; walk_at "vis"; decide; decide))
local macro_rules | `(tactic| walk_at "bm") => `(tactic| first
  | assumption)
local macro_rules | `(tactic| walk_at "call") => `(tactic| first
  | fail "call")
local macro_rules | `(tactic| walk_at "calld") => `(tactic| first
  | fail "calld")
local macro_rules | `(tactic| walk_at "kit") => `(tactic| first
  | assumption
  | exact kit_ii
  | exact kit_ib
  | exact kit_bi
  | exact kit_bb
  | exact kit_li
  | exact kit_ll
  | exact kit_tt
  | exact kit_tl
  | exact kit_lt
  | exact kit_tb)
local macro_rules | `(tactic| walk_at "ns") => `(tactic| first
  | exact fun _ _ => rfl)
local macro_rules | `(tactic| walk_at "jv") => `(tactic| first
  | exact jv_int
  | exact jv_bl
  | exact jv_non
  | exact jv_str
  | walk_at "var"
  | (apply jv_add; walk_at "jv"; walk_at "jv")
  | (apply jv_sub; walk_at "jv"; walk_at "jv")
  | (apply jv_neg; walk_at "jv")
  | (apply jv_mul; walk_at "jv"; walk_at "jv"; walk_at "mulok")
  | (apply jv_fdiv; walk_at "jv"; walk_at "jv"; walk_at "divok")
  | (apply jv_mod; walk_at "jv"; walk_at "jv"; walk_at "side")
  | (apply jv_band; walk_at "jv"; walk_at "jv")
  | (apply jv_cmp; walk_at "jo"; (first | exact rfl | exact nomark _))
  | (apply jv_chain op_le op_le; walk_at "jv"; walk_at "jv"; walk_at "jv"; with_unfolding_all rfl)
  | (apply jv_chain op_le op_lt; walk_at "jv"; walk_at "jv"; walk_at "jv"; with_unfolding_all rfl)
  | (apply jv_and; walk_at "jv"; intro hand; walk_at "jv")
  | (apply jv_or; walk_at "jv"; intro hor; walk_at "jv")
  | (apply jv_not; walk_at "jv")
  | (apply jv_one; walk_at "jv")
  | (apply jv_lenM; walk_at "bm"; walk_at "jd"; exact rfl; walk_at "ns")
  | (apply jv_len; walk_at "bm"; walk_at "jd"; exact rfl; walk_at "ns")
  | (apply jv_all; exact rfl; walk_at "bm"; walk_at "jd"; exact rfl; decide +kernel; walk_at "ns")
  | (apply jv_any; exact rfl; walk_at "bm"; walk_at "jd"; exact rfl; decide +kernel; walk_at "ns")
  | (apply jv_lenT; walk_at "bm"; walk_at "jd"; exact rfl; walk_at "ns")
  | walk_at "call"
  | (apply jv_isi; (first | exact boot_tint | exact boot_tbool | exact boot_tlist | exact boot_ttuple); walk_at "bm"; walk_at "bm"; walk_at "jd"; walk_at "kit"; exact rfl; exact rfl; exact boot_isi; walk_at "ns"; decide; decide)
  | (apply jv_lenSet; exact rfl; walk_at "bm"; walk_at "bm"; walk_at "jd"; walk_at "side"; exact rfl; exact rfl; walk_at "ns")
  | (apply jv_ifE; walk_at "jt"; intro hif; walk_at "jv"; intro hif; walk_at "jv")
  | (apply JD.toI; walk_at "jx")
  | (apply JD.toB; walk_at "jx")
  | (apply JD.toS; walk_at "jx"))
local macro_rules | `(tactic| walk_at "mulok") => `(tactic| first
  | exact Or.inr ⟨by decide, by decide⟩
  | exact Or.inl ⟨by decide, by decide⟩
  | exact Or.inl ⟨by omega, by omega⟩
  | exact Or.inr ⟨by omega, by omega⟩)
local macro_rules | `(tactic| walk_at "divok") => `(tactic| first
  | exact ⟨by decide, by decide⟩
  | exact ⟨by omega, by omega⟩)
local macro_rules | `(tactic| walk_at "jx") => `(tactic| first
  | (apply jd_ixN; walk_at "jd"; walk_at "jv"; exact fun _ _ => rfl; walk_at "side")
  | (apply jd_ixNs; walk_at "jd"; walk_at "jv"; exact fun _ _ => rfl; walk_at "side")
  | (apply jd_ixP; walk_at "jd"; walk_at "jv"; exact fun _ _ => rfl; walk_at "side")
  | (apply jd_ixPs; walk_at "jd"; walk_at "jv"; exact fun _ _ => rfl; walk_at "side")
  | (apply jd_ixI; walk_at "jd"; walk_at "jv"; exact fun _ _ => rfl; walk_at "side")
  | (apply jd_ixP1; walk_at "jd")
  | (apply jd_ixP2; walk_at "jd")
  | walk_at "calld")
local macro_rules | `(tactic| walk_at "jd") => `(tactic| first
  | (apply JV.toD; walk_at "var"; walk_at "dp")
  | walk_at "jx"
  | (apply jd_list; walk_at "jad"; exact Nat.le_of_ble_eq_true rfl)
  | (apply jd_tuple; walk_at "jad"; exact Nat.le_of_ble_eq_true rfl)
  | (apply jd_listOf; walk_at "bm"; walk_at "jd"; exact rfl; exact boot_tlist; walk_at "ns")
  | (apply JV.toD (v := V.int _); walk_at "jv"; exact Dx.int _)
  | (apply JV.toD (v := V.bl _); walk_at "jv"; exact Dx.bl _)
  | (apply JV.toD (v := V.str _); walk_at "jv"; exact Dx.str _)
  | (apply jd_ifE; walk_at "jt"; intro hif; walk_at "jd"; intro hif; walk_at "jd"))
local macro_rules | `(tactic| walk_at "jad") => `(tactic| first
  | exact jad_nil
  | (apply jad_cons; walk_at "jd"; walk_at "jad"; walk_at "ns"))
local macro_rules | `(tactic| walk_at "jo") => `(tactic| first
  | (apply jo_isN; walk_at "jv")
  | (apply jo_notN; walk_at "jv")
  | (apply jo_eqI; walk_at "jv"; walk_at "jv")
  | (apply jo_neI; walk_at "jv"; walk_at "jv")
  | (apply jo_lt; walk_at "jv"; walk_at "jv")
  | (apply jo_le; walk_at "jv"; walk_at "jv")
  | (apply jo_gt; walk_at "jv"; walk_at "jv")
  | (apply jo_ge; walk_at "jv"; walk_at "jv")
  | (apply jo_inN; walk_at "hu"; walk_at "jv"; walk_at "jd")
  | (apply jo_niN; walk_at "hu"; walk_at "jv"; walk_at "jd")
  | (apply jo_eqD; walk_at "hu"; walk_at "jd"; walk_at "jd"; walk_at "shp"; walk_at "shp")
  | (apply jo_neD; walk_at "hu"; walk_at "jd"; walk_at "jd"; walk_at "shp"; walk_at "shp"))
local macro_rules | `(tactic| walk_at "shp") => `(tactic| first
  | assumption
  | exact Shp.shaped eLL _
  | exact Shp.shaped ePs _
  | exact Shp.shaped eNs _
  | exact Shp.shaped ePss _
  | exact Shp.shaped eP _
  | exact Shp.shaped eN _
  | exact Shp.shaped eI _
  | decide)
local macro_rules | `(tactic| walk_at "jw") => `(tactic| first
  | (apply jw_one_and; walk_at "jt")
  | (apply jw_one_or; walk_at "jt")
  | (apply jw_and; walk_at "jt"; intro hand; walk_at "jw")
  | (apply jw_or; walk_at "jt"; intro hor; walk_at "jw"))
local macro_rules | `(tactic| walk_at "jt") => `(tactic| first
  | (apply jt_w; walk_at "jw")
  | (apply jt_cmp; walk_at "jo"; (first | exact rfl | exact nomark _))
  | (apply jt_not; walk_at "jt")
  | (apply jt_val; walk_at "jv"; exact fun _ => rfl)
  | (apply jt_chain op_le op_le; walk_at "jv"; walk_at "jv"; walk_at "jv"; with_unfolding_all rfl))
/-! ### the camp -/
def campA (t : V) (n : Nat) : List (Str × V) := [("told", t), ("size", V.int (n : Int))]
theorem st_ : (("size" : Str) == "told") = false := by decide +kernel
theorem ts_ : (("told" : Str) == "size") = false := by decide +kernel
theorem campA_told (t : V) (n : Nat) : (campA t n).lookup ("told" : Str) = some t := by simp [campA, List.lookup]
theorem campA_size (t : V) (n : Nat) : (campA t n).lookup ("size" : Str) = some (V.int (n : Int)) := by simp [campA, List.lookup, st_]
theorem campA_no (t : V) (n : Nat) {m : Str} (h1 : (m == ("told" : Str)) = false) (h2 : (m == ("size" : Str)) = false) : (campA t n).lookup m = none := by simp [campA, List.lookup, h1, h2]
/-- a camp with the lists L stands at p -/
def CampAt (K : PySem.W.Frag) (C : Addr) (G : Hp) (p : Addr) (L : List (List Nat)) : Prop := ∃ t, InsAt G p C (campA t L.length) ∧ Dx G t (eLL L)
theorem CampAt.mono {K : PySem.W.Frag} {C : Addr} {G G' : Hp} {p : Addr} {L : List (List Nat)} (e : Ex G G') (h : CampAt K C G p L) : CampAt K C G' p L := let ⟨t, h1, h2⟩ := h; ⟨t, h1.mono e, h2.mono e⟩
abbrev kCamp (K : PySem.W.Frag) (C : Addr) (L : List (List Nat)) : Hp → V → Prop := fun G v => ∃ p, v = .ref p ∧ CampAt K C G p L
theorem mo_Camp {K : PySem.W.Frag} {C : Addr} {L : List (List Nat)} : Mo (kCamp K C L) := fun _ _ _ e ⟨p, h1, h2⟩ => ⟨p, h1, h2.mono e⟩
/-- what the top has written -/
structure Tx (K : PySem.W.Frag) (mg : Str → Option Value) (C : Addr) : Prop where
  cl : Cls K C
  nT : NoAttr K C "told"
  nS : NoAttr K C "size"
  mgC : mg "Camp" = some (.ref C)
  len : mg "len" = none
  range : mg "range" = none
  list : mg "list" = none
  all : mg "all" = none
  any : mg "any" = none
  isi : mg "isinstance" = none
  int : mg "int" = none
  bool : mg "bool" = none
  set : mg "set" = none
  tup : mg "tuple" = none
  most : ∃ t, mg "MOST" = some (.int 6 t)
section
variable {X : Cx} {σ : L2.St} {e o a b c : Expr} {es : List Expr} {G : Hp} {pos : Pos} {x : Str} {C p : Addr} {L : List (List Nat)}
theorem jd_told (T : Tx X.K X.mg C) (ho : JV X σ o G (.ref p)) (hc : CampAt X.K C G p L) (hb : attributeBase o "told" X.env (eval o X.env) = eval o X.env) : JD X σ (.Attribute o "told" pos) G (eLL L) :=
  let ⟨t, h1, h2⟩ := hc
  (jv_fld T.cl T.nT ho h1 (campA_told _ _) hb).toD h2
theorem jv_size (T : Tx X.K X.mg C) (ho : JV X σ o G (.ref p)) (hc : CampAt X.K C G p L) (hb : attributeBase o "size" X.env (eval o X.env) = eval o X.env) : JV X σ (.Attribute o "size" pos) G (.int (L.length : Int)) :=
  let ⟨t, h1, h2⟩ := hc
  jv_fld T.cl T.nS ho h1 (campA_size _ _) hb
end
/-! ### the mirror -/
def would (L : List (List Nat)) (a b : Nat) : Bool := decide (b ∈ L.getD a []) && decide (a ∈ L.getD b [])
def rather (L : List (List Nat)) (c a b : Nat) : Bool := if a = b ∨ a = c then false else if b = c then true else decide ((L.getD c []).idxOf a < (L.getD c []).idxOf b)
local macro_rules | `(tactic| walk_at "calld") => `(tactic| (apply jd_told; assumption; walk_at "var"; assumption; exact rfl))
local macro_rules | `(tactic| walk_at "call") => `(tactic| first
  | (apply jv_index; walk_at "hu"; walk_at "jd"; walk_at "jv"; walk_at "side"; walk_at "ns"; exact rfl; exact rfl; exact rfl))
section
variable {P : Program} {w : World} {K : PySem.W.Frag} {mg : Str → Option Value} {base : Heap} {C : Addr}
abbrev spWould (K : PySem.W.Frag) (C : Addr) : Sp := spOf (fun i : List (List Nat) × Nat × Nat => i.2.1 < i.1.length ∧ i.2.2 < i.1.length) (fun i => [kCamp K C i.1, kI i.2.1, kI i.2.2]) (fun i => kB (would i.1 i.2.1 i.2.2))
theorem ok_would {f : Addr} {fd : FuncData} (F : Fun K "would" "Camp.would" s_Camp_would f fd) (T : Tx K mg C) : FnOk P w K mg base CX0 1 f fd ["self", "one", "other"] (spWould K C) := by
  refine fun_ok F sc_Camp_would (fun _ => rfl) ?_
  rintro cdv A outer s H vs Q E ⟨L, a, b⟩ G hr ⟨ha, hb⟩ al h k
  obtain ⟨_, _, _, rfl, ⟨p, rfl, hc⟩, rfl, rfl⟩ := al.three
  dsimp only at ha hb hc k
  refine b_ret h (v := .bl (would L a b)) ?_ (fun H' h' => k _ _ _ _ h' rfl)

  dsimp only
  walk_at "jv"
end
end TP

set_option Elab.async false
set_option linter.all false
set_option maxRecDepth 100000
set_option maxHeartbeats 2000000
namespace TP
open PySem PySem.Spec PyProof.Rows L2
open Evl (Ex)
-- tactics of this text: what an expression is worth (jv jd jt jo jw), growth (ex), what remains (side); call, calld: what the text adds
local macro_rules | `(tactic| walk_at "ex") => `(tactic| first | exact Ex.refl _ | assumption | (refine' Ex.trans ?_ (by assumption); walk_at "ex"))
local macro_rules | `(tactic| walk_at "vis") => `(tactic| first
  | exact Or.inl rfl
  | exact Or.inr (Or.inl rfl)
  | exact Or.inr (Or.inr rfl))
local macro_rules | `(tactic| walk_at "loc") => `(tactic| first
  | exact Or.inl rfl
  | exact Or.inr rfl)
local macro_rules | `(tactic| walk_at "side") => `(tactic| first
  | assumption
  | omega
  | decide
  | exact rfl
  | (simp_all; done)
  | (simp_all; omega))
local macro_rules | `(tactic| walk_at "hu") => `(tactic| first
  | exact room65 (by assumption)
  | exact Room.units (by assumption))
local macro_rules | `(tactic| walk_at "dp") => `(tactic| first | assumption | (refine' Dx.mono ?_ (by assumption); walk_at "ex"))
local macro_rules | `(tactic| walk_at "var") => `(tactic| first
  | (apply jv_var 0; exact rfl; exact rfl; walk_at "vis"; decide; decide)
  | (apply jv_var 1; exact rfl; exact rfl; walk_at "vis"; decide; decide)
  | (apply jv_var 2; exact rfl; exact rfl; walk_at "vis"; decide; decide)
  | (apply jv_var 3; exact rfl; exact rfl; walk_at "vis"; decide; decide)
  | (apply jv_var 4; exact rfl; exact rfl; walk_at "vis"; decide; decide)
  | (apply jv_var 5; exact rfl; exact rfl; walk_at "vis"; decide; decide)
  | (apply jv_var 6; exact rfl; exact rfl; walk_at "vis"; decide; decide)
  | (apply jv_var 7; exact rfl; exact rfl; walk_at "vis"; decide; decide)
  | (apply jv_var 8; exact rfl; exact rfl; walk_at "vis"; decide; decide)
  | (apply jv_var 9; exact rfl; exact rfl; walk_at "vis"; decide; decide)
  | (apply jv_var 10; exact rfl; exact rfl; walk_at "vis"; decide; decide)
  | (apply jv_var 11; exact rfl; exact rfl; walk_at "vis"; decide; decide)
  | (apply jv_var 12; exact rfl; exact rfl; walk_at "vis"; decide; decide)
  | (apply jv_var 13; exact rfl; exact rfl; walk_at "vis"; decide; decide)
  | (apply jv_var 14; exact rfl; exact rfl; walk_at "vis"; decide; decide)
  | (apply jv_var 15; exact rfl; exact rfl; walk_at "vis"; decide; decide)
  | (apply jv_var 16; exact rfl; exact rfl; walk_at "vis"; decide; decide)
  | (apply jv_var 17; exact rfl; exact rfl; walk_at "vis"; decide; decide)
  | (apply jv_var 18; exact rfl; exact rfl; walk_at "vis"; decide; decide)
  | (apply jv_var 19; exact rfl; exact rfl; walk_at "vis"; decide; decide))
local macro_rules | `(tactic| walk_at "bm") => `(tactic| first
  | assumption)
local macro_rules | `(tactic| walk_at "call") => `(tactic| first
  | fail "call")
local macro_rules | `(tactic| walk_at "calld") => `(tactic| first
  | fail "calld")
local macro_rules | `(tactic| walk_at "kit") => `(tactic| first
  | assumption
  | exact kit_ii
  | exact kit_ib
  | exact kit_bi
  | exact kit_bb
  | exact kit_li
  | exact kit_ll
  | exact kit_tt
  | exact kit_tl
  | exact kit_lt
  | exact kit_tb)
local macro_rules | `(tactic| walk_at "ns") => `(tactic| first
  | exact fun _ _ => rfl)
local macro_rules | `(tactic| walk_at "jv") => `(tactic| first
  | exact jv_int
  | exact jv_bl
  | exact jv_non
  | exact jv_str
  | walk_at "var"
  | (apply jv_add; walk_at "jv"; walk_at "jv")
  | (apply jv_sub; walk_at "jv"; walk_at "jv")
  | (apply jv_neg; walk_at "jv")
  | (apply jv_mul; walk_at "jv"; walk_at "jv"; walk_at "mulok")
  | (apply jv_fdiv; walk_at "jv"; walk_at "jv"; walk_at "divok")
  | (apply jv_mod; walk_at "jv"; walk_at "jv"; walk_at "side")
  | (apply jv_band; walk_at "jv"; walk_at "jv")
  | (apply jv_cmp; walk_at "jo"; (first | exact rfl | exact nomark _))
  | (apply jv_chain op_le op_le; walk_at "jv"; walk_at "jv"; walk_at "jv"; with_unfolding_all rfl)
  | (apply jv_chain op_le op_lt; walk_at "jv"; walk_at "jv"; walk_at "jv"; with_unfolding_all rfl)
  | (apply jv_and; walk_at "jv"; intro hand; walk_at "jv")
  | (apply jv_or; walk_at "jv"; intro hor; walk_at "jv")
  | (apply jv_not; walk_at "jv")
  | (apply jv_one; walk_at "jv")
  | (apply jv_lenM; walk_at "bm"; walk_at "jd"; exact rfl; walk_at "ns")
  | (apply jv_len; walk_at "bm"; walk_at "jd"; exact rfl; walk_at "ns")
  | (apply jv_all; exact rfl; walk_at "bm"; walk_at "jd"; exact rfl; decide +kernel; walk_at "ns")
  | (apply jv_any; exact rfl; walk_at "bm"; walk_at "jd"; exact rfl; decide +kernel; walk_at "ns")
  | (apply jv_lenT; walk_at "bm"; walk_at "jd"; exact rfl; walk_at "ns")
  | walk_at "call"
  | (apply jv_isi; (first | exact boot_tint | exact boot_tbool | exact boot_tlist | exact boot_ttuple); walk_at "bm"; walk_at "bm"; walk_at "jd"; walk_at "kit"; exact rfl; exact rfl; exact boot_isi; walk_at "ns"; decide; decide)
  | (apply jv_lenSet; exact rfl; walk_at "bm"; walk_at "bm"; walk_at "jd"; walk_at "side"; exact rfl; exact rfl; walk_at "ns")
  | (apply jv_ifE; walk_at "jt"; intro hif; walk_at "jv"; intro hif; walk_at "jv")
  | (apply JD.toI; walk_at "jx")
  | (apply JD.toB; walk_at "jx")
  | (apply JD.toS; walk_at "jx"))
local macro_rules | `(tactic| walk_at "mulok") => `(tactic| first
  | exact Or.inr ⟨by decide, by decide⟩
  | exact Or.inl ⟨by decide, by decide⟩
  | exact Or.inl ⟨by omega, by omega⟩
  | exact Or.inr ⟨by omega, by omega⟩)
local macro_rules | `(tactic| walk_at "divok") => `(tactic| first
  | exact ⟨by decide, by decide⟩
  | exact ⟨by omega, by omega⟩)
local macro_rules | `(tactic| walk_at "jx") => `(tactic| first
  | (apply jd_ixN; walk_at "jd"; walk_at "jv"; exact fun _ _ => rfl; walk_at "side")
  | (apply jd_ixNs; walk_at "jd"; walk_at "jv"; exact fun _ _ => rfl; walk_at "side")
  | (apply jd_ixP; walk_at "jd"; walk_at "jv"; exact fun _ _ => rfl; walk_at "side")
  | (apply jd_ixPs; walk_at "jd"; walk_at "jv"; exact fun _ _ => rfl; walk_at "side")
  | (apply jd_ixI; walk_at "jd"; walk_at "jv"; exact fun _ _ => rfl; walk_at "side")
  | (apply jd_ixP1; walk_at "jd")
  | (apply jd_ixP2; walk_at "jd")
  | walk_at "calld")
local macro_rules | `(tactic| walk_at "jd") => `(tactic| first
  | (apply JV.toD; walk_at "var"; walk_at "dp")
  | walk_at "jx"
  | (apply jd_list; walk_at "jad"; exact Nat.le_of_ble_eq_true rfl)
  | (apply jd_tuple; walk_at "jad"; exact Nat.le_of_ble_eq_true rfl)
  | (apply jd_listOf; walk_at "bm"; walk_at "jd"; exact rfl; exact boot_tlist; walk_at "ns")
  | (apply JV.toD (v := V.int _); walk_at "jv"; exact Dx.int _)
  | (apply JV.toD (v := V.bl _); walk_at "jv"; exact Dx.bl _)
  | (apply JV.toD (v := V.str _); walk_at "jv"; exact Dx.str _)
  | (apply jd_ifE; walk_at "jt"; intro hif; walk_at "jd"; intro hif; walk_at "jd"))
local macro_rules | `(tactic| walk_at "jad") => `(tactic| first
  | exact jad_nil
  | (apply jad_cons; walk_at "jd"; walk_at "jad"; walk_at "ns"))
local macro_rules | `(tactic| walk_at "jo") => `(tactic| first
  | (apply jo_isN; walk_at "jv")
  | (apply jo_notN; walk_at "jv")
  | (apply jo_eqI; walk_at "jv"; walk_at "jv")
  | (apply jo_neI; walk_at "jv"; walk_at "jv")
  | (apply jo_lt; walk_at "jv"; walk_at "jv")
  | (apply jo_le; walk_at "jv"; walk_at "jv")
  | (apply jo_gt; walk_at "jv"; walk_at "jv")
  | (apply jo_ge; walk_at "jv"; walk_at "jv")
  | (apply jo_inN; walk_at "hu"; walk_at "jv"; walk_at "jd")
  | (apply jo_niN; walk_at "hu"; walk_at "jv"; walk_at "jd")
  | (apply jo_eqD; walk_at "hu"; walk_at "jd"; walk_at "jd"; walk_at "shp"; walk_at "shp")
  | (apply jo_neD; walk_at "hu"; walk_at "jd"; walk_at "jd"; walk_at "shp"; walk_at "shp"))
local macro_rules | `(tactic| walk_at "shp") => `(tactic| first
  | assumption
  | exact Shp.shaped eLL _
  | exact Shp.shaped ePs _
  | exact Shp.shaped eNs _
  | exact Shp.shaped ePss _
  | exact Shp.shaped eP _
  | exact Shp.shaped eN _
  | exact Shp.shaped eI _
  | decide)
local macro_rules | `(tactic| walk_at "jw") => `(tactic| first
  | (apply jw_one_and; walk_at "jt")
  | (apply jw_one_or; walk_at "jt")
  | (apply jw_and; walk_at "jt"; intro hand; walk_at "jw")
  | (apply jw_or; walk_at "jt"; intro hor; walk_at "jw"))
local macro_rules | `(tactic| walk_at "jt") => `(tactic| first
  | (apply jt_w; walk_at "jw")
  | (apply jt_cmp; walk_at "jo"; (first | exact rfl | exact nomark _))
  | (apply jt_not; walk_at "jt")
  | (apply jt_val; walk_at "jv"; exact fun _ => rfl)
  | (apply jt_chain op_le op_le; walk_at "jv"; walk_at "jv"; walk_at "jv"; with_unfolding_all rfl))
local macro_rules | `(tactic| walk_at "calld") => `(tactic| (apply jd_told; assumption; walk_at "var"; assumption; exact rfl))
local macro_rules | `(tactic| walk_at "call") => `(tactic| first
  | (apply jv_index; walk_at "hu"; walk_at "jd"; walk_at "jv"; walk_at "side"; walk_at "ns"; exact rfl; exact rfl; exact rfl))
section
variable {X : Cx} {σ : L2.St} {e o a b c : Expr} {es : List Expr} {G : Hp} {pos : Pos} {x : Str} {C p : Addr} {L : List (List Nat)}
theorem jv_would {m n : Nat} {ap : Pos} {pl : Sem Bool} (T : Tx X.K X.mg C) (M : Mt X.prog X.w X.K X.mg X.base C "would" 1 (spWould X.K C)) (hr : Room 1 X.A) (ho : JV X σ o G (.ref p)) (hc : CampAt X.K C G p L) (ha : JV X σ a G (.int (m : Int))) (hb : JV X σ b G (.int (n : Int))) (hm : m < L.length) (hn : n < L.length) (na : NoStar a) (nb : NoStar b)
    (hpl : (backTo pos (starEach [b] X.env)).any (·.1) = false)
    (ht : eval (.Call (.Attribute o "would" ap) [a, b] [] pos) X.env = (do
      let ov ← eval o X.env
      standAt ap.atName
      let (f, first) ← holding [ov] (getMethod ov "would" pl)
      callWith pos f first (backTo pos (starEach [a, b] X.env)) (backToKw pos (keywordEach [] X.env)))) : JV X σ (.Call (.Attribute o "would" ap) [a, b] [] pos) G (.bl (would L m n)) := by
  obtain ⟨t, h1, h2⟩ := hc
  exact (jp_meth M T.cl ho h1 (campA_no _ _ (by decide +kernel) (by decide +kernel)) hr (L, m, n) ⟨hm, hn⟩ (P0 := kCamp X.K C L) rfl ⟨p, rfl, t, h1, h2⟩ mo_Camp
    (jal_cons ha.toPV mo_V (fun _ e => jal_cons (hb.mono e).toPV mo_V (fun _ _ => jal_nil) nb) na) na hpl ht).toB
end
section
variable {P : Program} {w : World} {K : PySem.W.Frag} {mg : Str → Option Value} {base : Heap} {C : Addr}
abbrev spRather (K : PySem.W.Frag) (C : Addr) : Sp := spOf (fun i : List (List Nat) × Nat × Nat × Nat => i.2.1 < i.1.length ∧ (¬ i.2.2.1 = i.2.2.2 → ¬ i.2.2.1 = i.2.1 → ¬ i.2.2.2 = i.2.1 → i.2.2.1 ∈ i.1.getD i.2.1 [] ∧ i.2.2.2 ∈ i.1.getD i.2.1 [])) (fun i => [kCamp K C i.1, kI i.2.1, kI i.2.2.1, kI i.2.2.2]) (fun i => kB (rather i.1 i.2.1 i.2.2.1 i.2.2.2))
theorem ok_rather {f : Addr} {fd : FuncData} (F : Fun K "rather" "Camp.rather" s_Camp_rather f fd) (T : Tx K mg C) : FnOk P w K mg base CX0 1 f fd ["self", "camper", "one", "other"] (spRather K C) := by
  refine fun_ok F sc_Camp_rather (fun _ => rfl) ?_
  rintro cdv A outer s H vs Q E ⟨L, c, a, b⟩ G hr ⟨hc0, hin⟩ al h k
  obtain ⟨_, _, _, _, rfl, ⟨p, rfl, hc⟩, rfl, rfl, rfl⟩ := al.four
  dsimp only at hc0 hin hc k ⊢
  refine b_if (p := decide ((a : Int) = b) || decide ((a : Int) = c)) h (by walk_at "jt") (fun e H1 h1 => ?_) (fun e H1 h1 => ?_)
  · refine b_ret h1 (v := .bl false) (by walk_at "jv") (fun H' h' => k _ _ _ _ h' ?_)
    simp only [Bool.or_eq_true, decide_eq_true_eq, Int.ofNat_inj] at e
    simp [rather, e]
  · simp only [Bool.or_eq_false_iff, decide_eq_false_iff_not, Int.ofNat_inj] at e
    refine b_nil (b_if (p := decide ((b : Int) = c)) h1 (by walk_at "jt") (fun e2 H1 h1 => ?_) (fun e2 H1 h1 => ?_))
    · refine b_ret h1 (v := .bl true) (by walk_at "jv") (fun H' h' => k _ _ _ _ h' ?_)
      simp only [decide_eq_true_eq, Int.ofNat_inj] at e2
      simp_all [rather]
    · simp only [decide_eq_false_iff_not, Int.ofNat_inj] at e2
      obtain ⟨i1, i2⟩ := hin e.1 e.2 e2
      refine b_nil (b_ret h1 (v := .bl (decide (((L.getD c []).idxOf a : Int) < ((L.getD c []).idxOf b : Int)))) (by walk_at "jv") (fun H' h' => k _ _ _ _ h' ?_))
      simp_all [rather]
end
end TP

set_option Elab.async false
set_option linter.all false
set_option maxRecDepth 100000
set_option maxHeartbeats 2000000
namespace TP
open PySem PySem.Spec PyProof.Rows L2
open Evl (Ex)
-- tactics of this text: what an expression is worth (jv jd jt jo jw), growth (ex), what remains (side); call, calld: what the text adds
local macro_rules | `(tactic| walk_at "ex") => `(tactic| first | exact Ex.refl _ | assumption | (refine' Ex.trans ?_ (by assumption); walk_at "ex"))
local macro_rules | `(tactic| walk_at "vis") => `(tactic| first
  | exact Or.inl rfl
  | exact Or.inr (Or.inl rfl)
  | exact Or.inr (Or.inr rfl))
local macro_rules | `(tactic| walk_at "loc") => `(tactic| first
  | exact Or.inl rfl
  | exact Or.inr rfl)
local macro_rules | `(tactic| walk_at "side") => `(tactic| first
  | assumption
  | omega
  | decide
  | exact rfl
  | (simp_all; done)
  | (simp_all; omega))
local macro_rules | `(tactic| walk_at "hu") => `(tactic| first
  | exact room65 (by assumption)
  | exact Room.units (by assumption))
local macro_rules | `(tactic| walk_at "dp") => `(tactic| first | assumption | (refine' Dx.mono ?_ (by assumption); walk_at "ex"))
local macro_rules | `(tactic| walk_at "var") => `(tactic| first
  | (apply jv_var 0; exact rfl; exact rfl; walk_at "vis"; decide; decide)
  | (apply jv_var 1; exact rfl; exact rfl; walk_at "vis"; decide; decide)
  | (apply jv_var 2; exact rfl; exact rfl; walk_at "vis"; decide; decide)
  | (apply jv_var 3; exact rfl; exact rfl; walk_at "vis"; decide; decide)
  | (apply jv_var 4; exact rfl; exact rfl; walk_at "vis"; decide; decide)
  | (apply jv_var 5; exact rfl; exact rfl; walk_at "vis"; decide; decide)
  | (apply jv_var 6; exact rfl; exact rfl; walk_at "vis"; decide; decide)
  | (apply jv_var 7; exact rfl; exact rfl; walk_at "vis"; decide; decide)
  | (apply jv_var 8; exact rfl; exact rfl; walk_at "vis"; decide; decide)
  | (apply jv_var 9; exact rfl; exact rfl; walk_at "vis"; decide; decide)
  | (apply jv_var 10; exact rfl; exact rfl; walk_at "vis"; decide; decide)
  | (apply jv_var 11; exact rfl; exact rfl; walk_at "vis"; decide; decide)
  | (apply jv_var 12; exact rfl; exact rfl; walk_at "vis"; decide; decide)
  | (apply jv_var 13; exact rfl; exact rfl; walk_at "vis"; decide; decide)
  | (apply jv_var 14; exact rfl; exact rfl; walk_at "vis"; decide; decide)
  | (apply jv_var 15; exact rfl; exact rfl; walk_at "vis"; decide; decide)
  | (apply jv_var 16; exact rfl; exact rfl; walk_at "vis"; decide; decide)
  | (apply jv_var 17; exact rfl; exact rfl; walk_at "vis"; decide; decide)
  | (apply jv_var 18; exact rfl; exact rfl; walk_at "vis"; decide; decide)
  | (apply jv_var 19; exact rfl; exact rfl; walk_at "vis"; decide; decide))
local macro_rules | `(tactic| walk_at "bm") => `(tactic| first
  | assumption)
local macro_rules | `(tactic| walk_at "call") => `(tactic| first
  | fail "call")
local macro_rules | `(tactic| walk_at "calld") => `(tactic| first
  | fail "calld")
local macro_rules | `(tactic| walk_at "kit") => `(tactic| first
  | assumption
  | exact kit_ii
  | exact kit_ib
  | exact kit_bi
  | exact kit_bb
  | exact kit_li
  | exact kit_ll
  | exact kit_tt
  | exact kit_tl
  | exact kit_lt
  | exact kit_tb)
local macro_rules | `(tactic| walk_at "ns") => `(tactic| first
  | exact fun _ _ => rfl)
local macro_rules | `(tactic| walk_at "jv") => `(tactic| first
  | exact jv_int
  | exact jv_bl
  | exact jv_non
  | exact jv_str
  | walk_at "var"
  | (apply jv_add; walk_at "jv"; walk_at "jv")
  | (apply jv_sub; walk_at "jv"; walk_at "jv")
  | (apply jv_neg; walk_at "jv")
  | (apply jv_mul; walk_at "jv"; walk_at "jv"; walk_at "mulok")
  | (apply jv_fdiv; walk_at "jv"; walk_at "jv"; walk_at "divok")
  | (apply jv_mod; walk_at "jv"; walk_at "jv"; walk_at "side")
  | (apply jv_band; walk_at "jv"; walk_at "jv")
  | (apply jv_cmp; walk_at "jo"; (first | exact rfl | exact nomark _))
  | (apply jv_chain op_le op_le; walk_at "jv"; walk_at "jv"; walk_at "jv"; with_unfolding_all rfl)
  | (apply jv_chain op_le op_lt; walk_at "jv"; walk_at "jv"; walk_at "jv"; with_unfolding_all rfl)
  | (apply jv_and; walk_at "jv"; intro hand; walk_at "jv")
  | (apply jv_or; walk_at "jv"; intro hor; walk_at "jv")
  | (apply jv_not; walk_at "jv")
  | (apply jv_one; walk_at "jv")
  | (apply jv_lenM; walk_at "bm"; walk_at "jd"; exact rfl; walk_at "ns")
  | (apply jv_len; walk_at "bm"; walk_at "jd"; exact rfl; walk_at "ns")
  | (apply jv_all; exact rfl; walk_at "bm"; walk_at "jd"; exact rfl; decide +kernel; walk_at "ns")
  | (apply jv_any; exact rfl; walk_at "bm"; walk_at "jd"; exact rfl; decide +kernel; walk_at "ns")
  | (apply jv_lenT; walk_at "bm"; walk_at "jd"; exact rfl; walk_at "ns")
  | walk_at "call"
  | (apply jv_isi; (first | exact boot_tint | exact boot_tbool | exact boot_tlist | exact boot_ttuple); walk_at "bm"; walk_at "bm"; walk_at "jd"; walk_at "kit"; exact rfl; exact rfl; exact boot_isi; walk_at "ns"; decide; decide)
  | (apply jv_lenSet; exact rfl; walk_at "bm"; walk_at "bm"; walk_at "jd"; walk_at "side"; exact rfl; exact rfl; walk_at "ns")
  | (apply jv_ifE; walk_at "jt"; intro hif; walk_at "jv"; intro hif; walk_at "jv")
  | (apply JD.toI; walk_at "jx")
  | (apply JD.toB; walk_at "jx")
  | (apply JD.toS; walk_at "jx"))
local macro_rules | `(tactic| walk_at "mulok") => `(tactic| first
  | exact Or.inr ⟨by decide, by decide⟩
  | exact Or.inl ⟨by decide, by decide⟩
  | exact Or.inl ⟨by omega, by omega⟩
  | exact Or.inr ⟨by omega, by omega⟩)
local macro_rules | `(tactic| walk_at "divok") => `(tactic| first
  | exact ⟨by decide, by decide⟩
  | exact ⟨by omega, by omega⟩)
local macro_rules | `(tactic| walk_at "jx") => `(tactic| first
  | (apply jd_ixN; walk_at "jd"; walk_at "jv"; exact fun _ _ => rfl; walk_at "side")
  | (apply jd_ixNs; walk_at "jd"; walk_at "jv"; exact fun _ _ => rfl; walk_at "side")
  | (apply jd_ixP; walk_at "jd"; walk_at "jv"; exact fun _ _ => rfl; walk_at "side")
  | (apply jd_ixPs; walk_at "jd"; walk_at "jv"; exact fun _ _ => rfl; walk_at "side")
  | (apply jd_ixI; walk_at "jd"; walk_at "jv"; exact fun _ _ => rfl; walk_at "side")
  | (apply jd_ixP1; walk_at "jd")
  | (apply jd_ixP2; walk_at "jd")
  | walk_at "calld")
local macro_rules | `(tactic| walk_at "jd") => `(tactic| first
  | (apply JV.toD; walk_at "var"; walk_at "dp")
  | walk_at "jx"
  | (apply jd_list; walk_at "jad"; exact Nat.le_of_ble_eq_true rfl)
  | (apply jd_tuple; walk_at "jad"; exact Nat.le_of_ble_eq_true rfl)
  | (apply jd_listOf; walk_at "bm"; walk_at "jd"; exact rfl; exact boot_tlist; walk_at "ns")
  | (apply JV.toD (v := V.int _); walk_at "jv"; exact Dx.int _)
  | (apply JV.toD (v := V.bl _); walk_at "jv"; exact Dx.bl _)
  | (apply JV.toD (v := V.str _); walk_at "jv"; exact Dx.str _)
  | (apply jd_ifE; walk_at "jt"; intro hif; walk_at "jd"; intro hif; walk_at "jd"))
local macro_rules | `(tactic| walk_at "jad") => `(tactic| first
  | exact jad_nil
  | (apply jad_cons; walk_at "jd"; walk_at "jad"; walk_at "ns"))
local macro_rules | `(tactic| walk_at "jo") => `(tactic| first
  | (apply jo_isN; walk_at "jv")
  | (apply jo_notN; walk_at "jv")
  | (apply jo_eqI; walk_at "jv"; walk_at "jv")
  | (apply jo_neI; walk_at "jv"; walk_at "jv")
  | (apply jo_lt; walk_at "jv"; walk_at "jv")
  | (apply jo_le; walk_at "jv"; walk_at "jv")
  | (apply jo_gt; walk_at "jv"; walk_at "jv")
  | (apply jo_ge; walk_at "jv"; walk_at "jv")
  | (apply jo_inN; walk_at "hu"; walk_at "jv"; walk_at "jd")
  | (apply jo_niN; walk_at "hu"; walk_at "jv"; walk_at "jd")
  | (apply jo_eqD; walk_at "hu"; walk_at "jd"; walk_at "jd"; walk_at "shp"; walk_at "shp")
  | (apply jo_neD; walk_at "hu"; walk_at "jd"; walk_at "jd"; walk_at "shp"; walk_at "shp"))
local macro_rules | `(tactic| walk_at "shp") => `(tactic| first
  | assumption
  | exact Shp.shaped eLL _
  | exact Shp.shaped ePs _
  | exact Shp.shaped eNs _
  | exact Shp.shaped ePss _
  | exact Shp.shaped eP _
  | exact Shp.shaped eN _
  | exact Shp.shaped eI _
  | decide)
local macro_rules | `(tactic| walk_at "jw") => `(tactic| first
  | (apply jw_one_and; walk_at "jt")
  | (apply jw_one_or; walk_at "jt")
  | (apply jw_and; walk_at "jt"; intro hand; walk_at "jw")
  | (apply jw_or; walk_at "jt"; intro hor; walk_at "jw"))
local macro_rules | `(tactic| walk_at "jt") => `(tactic| first
  | (apply jt_w; walk_at "jw")
  | (apply jt_cmp; walk_at "jo"; (first | exact rfl | exact nomark _))
  | (apply jt_not; walk_at "jt")
  | (apply jt_val; walk_at "jv"; exact fun _ => rfl)
  | (apply jt_chain op_le op_le; walk_at "jv"; walk_at "jv"; walk_at "jv"; with_unfolding_all rfl))
local macro_rules | `(tactic| walk_at "camp") => `(tactic| first | assumption | (refine' CampAt.mono ?_ (by assumption); walk_at "ex"))
local macro_rules | `(tactic| walk_at "calld") => `(tactic| first
  | (apply jd_told; assumption; walk_at "var"; walk_at "camp"; exact rfl)
  | walk_at "calld2")
local macro_rules | `(tactic| walk_at "calld2") => `(tactic| first
  | fail "calld2")
local macro_rules | `(tactic| walk_at "room") => `(tactic| first
  | assumption
  | exact Room.mono (by assumption) (by decide))
local macro_rules | `(tactic| walk_at "bm") => `(tactic| first
  | assumption
  | exact Tx.len (by assumption)
  | exact Tx.range (by assumption)
  | exact Tx.list (by assumption)
  | exact Tx.all (by assumption)
  | exact Tx.any (by assumption)
  | exact Tx.isi (by assumption)
  | exact Tx.int (by assumption)
  | exact Tx.bool (by assumption)
  | exact Tx.set (by assumption)
  | exact Tx.tup (by assumption))
local macro_rules | `(tactic| walk_at "call") => `(tactic| first
  | (apply jv_size; assumption; walk_at "var"; walk_at "camp"; exact rfl)
  | (apply jv_index; walk_at "hu"; walk_at "jd"; walk_at "jv"; walk_at "side"; walk_at "ns"; exact rfl; exact rfl; exact rfl)
  | (apply jv_would; assumption; assumption; walk_at "room"; walk_at "var"; walk_at "camp"; walk_at "jv"; walk_at "jv"; walk_at "side"; walk_at "side"; walk_at "ns"; walk_at "ns"; exact rfl; exact rfl)
  | walk_at "call2")
local macro_rules | `(tactic| walk_at "call2") => `(tactic| first
  | fail "call2")
def openRow (L : List (List Nat)) (a : Nat) : List (Nat × Nat) := ((List.range (L.length - (a + 1))).filter (fun k => would L a (a + 1 + k))).map fun k => (a, a + 1 + k)
def openPairs (L : List (List Nat)) : List (Nat × Nat) := (List.range L.length).flatMap (openRow L)
theorem len_flatMap {α β : Type} {f : α → List β} {n : Nat} : ∀ (xs : List α), (∀ x ∈ xs, (f x).length ≤ n) → (xs.flatMap f).length ≤ xs.length * n
  | [], _ => by simp
  | x :: xs, h => by
    have h1 := h x List.mem_cons_self
    have h2 := len_flatMap xs fun y hy => h y (List.mem_cons_of_mem _ hy)
    rw [List.flatMap_cons, List.length_append, List.length_cons, Nat.succ_mul]
    omega
theorem openRow_len (L : List (List Nat)) (a : Nat) : (openRow L a).length ≤ L.length := by
  unfold openRow
  rw [List.length_map]
  have h := List.length_filter_le (fun k => would L a (a + 1 + k)) (List.range (L.length - (a + 1)))
  rw [List.length_range] at h
  omega
section
variable {P : Program} {w : World} {K : PySem.W.Frag} {mg : Str → Option Value} {base : Heap} {C : Addr}
abbrev spOpen (K : PySem.W.Frag) (C : Addr) : Sp := spOf (fun i : List (List Nat) => i.length ≤ 6) (fun i => [kCamp K C i]) (fun i => kD (ePs (openPairs i)))
theorem ok_open {f : Addr} {fd : FuncData} (F : Fun K "open_pairs" "open_pairs" s_open_pairs f fd) (T : Tx K mg C) (M : Mt P w K mg base C "would" 1 (spWould K C)) : FnOk P w K mg base CX0 2 f fd ["camp"] (spOpen K C) := by
  refine fun_ok F sc_open_pairs (fun _ => rfl) ?_
  rintro cdv A outer s H vs Q E L G hr hL al h k
  obtain ⟨_, rfl, ⟨p, rfl, hc⟩⟩ := al.one
  try dsimp only at hL hc k ⊢
  have hrange := T.range
  refine b_setN (n := 1) h sc_open_pairs.nd rfl (by walk_at "loc") (Or.inl rfl) (fun H1 l h1 => ?_)
  refine b_for h1 (f := eN) (xs := List.range L.length) (ji_range1 hrange (by walk_at "jv") (by omega) rfl (by walk_at "ns")) PassesOwn.never rfl (fun _ => rfl) (fun G1 H2 h2 e2 => ?_)
  refine ⟨fun pre σ' G' H' => ∃ vs o1 o2, σ' = [some (.ref p), some (.ref l), o1, o2] ∧ Hs G H G' H' [(l, .lst vs)] ∧ Ex G1 G' ∧ DxAll G' vs ((pre.flatMap (openRow L)).map eP), ?_, ?_, ?_, ?_⟩
  · exact ⟨[], none, none, rfl, h2, Ex.refl _, .nil⟩
  · rintro pre σ' G' H' ⟨vs, o1, o2, rfl, hs, e, _⟩
    exact ⟨e, hs.ex⟩
  · rintro pre x post v σ' G' H' hxs ⟨vs, o1, o2, rfl, hs, e, hd⟩ pv
    cases pv
    have hx : x < L.length := by
      have : x ∈ List.range L.length := by rw [hxs]; simp
      simpa using this
    refine wg_name (n := 2) sc_open_pairs.nd rfl (by walk_at "loc") (Or.inl rfl) ?_
    refine b_extend (n := 1) hs (ds := (openRow L x).map eP) rfl rfl (by walk_at "vis") ?_ ?_ rfl rfl (by walk_at "ns") rfl rfl rfl rfl (fun G2 H3 ws h3 e3 hw => b_nil ⟨G2, vs ++ ws, _, _, rfl, h3, e.trans e3, ?_⟩)
    · refine JD.is (JN.toD (jn_lcT (n := 3) (f0 := fun i : Nat => .int (((x : Int) + 1) + (i : Nat))) (xs := List.range (((L.length : Int) - ((x : Int) + 1)).toNat)) (p := fun k => would L x (x + 1 + k)) (f := fun k => eP (x, x + 1 + k))
        (ji_range2 hrange (by walk_at "jv") (by walk_at "jv") (by omega) (by omega) rfl (by walk_at "ns") (by walk_at "ns")) (by rw [List.length_range]; omega) rfl sc_open_pairs.nd rfl (fun _ _ _ _ _ => ⟨by walk_at "loc", by walk_at "loc"⟩) (by first | kernel_rfl | rfl) (fun _ => rfl) ?_ ?_)) ?_
      · intro s h C cl fp y hy G2 u e3 pu
        cases pu
        have hy : y < ((L.length : Int) - ((x : Int) + 1)).toNat := by simpa using hy
        have e5 : (x : Int) + 1 + (y : Int) = ((x + 1 + y : Nat) : Int) := by omega
        rw [e5]
        walk_at "jt"
      · intro s h C cl fp y hy hp G2 u e3 pu
        cases pu
        have e5 : (x : Int) + 1 + (y : Int) = ((x + 1 + y : Nat) : Int) := by omega
        rw [e5]
        walk_at "jd"
      · have e6 : ((L.length : Int) - ((x : Int) + 1)).toNat = L.length - (x + 1) := by omega
        rw [e6]
        unfold openRow
        rw [List.map_map]
        rfl
    · have h1 := hd.length
      have h2 := len_flatMap (f := openRow L) (n := L.length) pre fun y _ => openRow_len L y
      have h3 : pre.length ≤ L.length := by
        have := congrArg List.length hxs
        rw [List.length_range, List.length_append] at this
        omega
      have h4 : pre.length * L.length ≤ 6 * 6 := Nat.mul_le_mul (by omega) hL
      have h5 := openRow_len L x
      rw [List.length_map] at h1 ⊢
      omega
    · rw [List.flatMap_append, List.map_append]
      refine (hd.mono e3).append ?_
      simpa using hw
  · rintro σ' G' H' ⟨vs, o1, o2, rfl, hs, e, hd⟩
    obtain ⟨hf, e4⟩ := hs.fix
    refine b_retD hf (d := ePs (openPairs L)) ?_ (fun G2 H3 v h3 pv => k _ _ _ _ h3 pv)
    have : Dx (upd G' l (.lst vs)) (.ref l) (ePs (openPairs L)) := .lst upd_same (hd.mono e4)
    walk_at "jd"
end
end TP

set_option Elab.async false
set_option linter.all false
set_option maxRecDepth 100000
set_option maxHeartbeats 2000000
namespace TP
open PySem PySem.Spec PyProof.Rows L2
open Evl (Ex)
-- tactics of this text: what an expression is worth (jv jd jt jo jw), growth (ex), what remains (side); call, calld: what the text adds
local macro_rules | `(tactic| walk_at "ex") => `(tactic| first | exact Ex.refl _ | assumption | (refine' Ex.trans ?_ (by assumption); walk_at "ex"))
local macro_rules | `(tactic| walk_at "vis") => `(tactic| first
  | exact Or.inl rfl
  | exact Or.inr (Or.inl rfl)
  | exact Or.inr (Or.inr rfl))
local macro_rules | `(tactic| walk_at "loc") => `(tactic| first
  | exact Or.inl rfl
  | exact Or.inr rfl)
local macro_rules | `(tactic| walk_at "side") => `(tactic| first
  | assumption
  | omega
  | decide
  | exact rfl
  | (simp_all; done)
  | (simp_all; omega))
local macro_rules | `(tactic| walk_at "hu") => `(tactic| first
  | exact room65 (by assumption)
  | exact Room.units (by assumption))
local macro_rules | `(tactic| walk_at "dp") => `(tactic| first | assumption | (refine' Dx.mono ?_ (by assumption); walk_at "ex"))
local macro_rules | `(tactic| walk_at "var") => `(tactic| first
  | (apply jv_var 0; exact rfl; exact rfl; walk_at "vis"; decide; decide)
  | (apply jv_var 1; exact rfl; exact rfl; walk_at "vis"; decide; decide)
  | (apply jv_var 2; exact rfl; exact rfl; walk_at "vis"; decide; decide)
  | (apply jv_var 3; exact rfl; exact rfl; walk_at "vis"; decide; decide)
  | (apply jv_var 4; exact rfl; exact rfl; walk_at "vis"; decide; decide)
  | (apply jv_var 5; exact rfl; exact rfl; walk_at "vis"; decide; decide)
  | (apply jv_var 6; exact rfl; exact rfl; walk_at "vis"; decide; decide)
  | (apply jv_var 7; exact rfl; exact rfl; walk_at "vis"; decide; decide)
  | (apply jv_var 8; exact rfl; exact rfl; walk_at "vis"; decide; decide)
  | (apply jv_var 9; exact rfl; exact rfl; walk_at "vis"; decide; decide)
  | (apply jv_var 10; exact rfl; exact rfl; walk_at "vis"; decide; decide)
  | (apply jv_var 11; exact rfl; exact rfl; walk_at "vis"; decide; decide)
  | (apply jv_var 12; exact rfl; exact rfl; walk_at "vis"; decide; decide)
  | (apply jv_var 13; exact rfl; exact rfl; walk_at "vis"; decide; decide)
  | (apply jv_var 14; exact rfl; exact rfl; walk_at "vis"; decide; decide)
  | (apply jv_var 15; exact rfl; exact rfl; walk_at "vis"; decide; decide)
  | (apply jv_var 16; exact rfl; exact rfl; walk_at "vis"; decide; decide)
  | (apply jv_var 17; exact rfl; exact rfl; walk_at "vis"; decide; decide)
  | (apply jv_var 18; exact rfl; exact rfl; walk_at "vis"; decide; decide)
  | (apply jv_var 19; exact rfl; exact rfl; walk_at "vis"; decide; decide))
local macro_rules | `(tactic| walk_at "bm") => `(tactic| first
  | assumption)
local macro_rules | `(tactic| walk_at "call") => `(tactic| first
  | fail "call")
local macro_rules | `(tactic| walk_at "calld") => `(tactic| first
  | fail "calld")
local macro_rules | `(tactic| walk_at "kit") => `(tactic| first
  | assumption
  | exact kit_ii
  | exact kit_ib
  | exact kit_bi
  | exact kit_bb
  | exact kit_li
  | exact kit_ll
  | exact kit_tt
  | exact kit_tl
  | exact kit_lt
  | exact kit_tb)
local macro_rules | `(tactic| walk_at "ns") => `(tactic| first
  | exact fun _ _ => rfl)
local macro_rules | `(tactic| walk_at "jv") => `(tactic| first
  | exact jv_int
  | exact jv_bl
  | exact jv_non
  | exact jv_str
  | walk_at "var"
  | (apply jv_add; walk_at "jv"; walk_at "jv")
  | (apply jv_sub; walk_at "jv"; walk_at "jv")
  | (apply jv_neg; walk_at "jv")
  | (apply jv_mul; walk_at "jv"; walk_at "jv"; walk_at "mulok")
  | (apply jv_fdiv; walk_at "jv"; walk_at "jv"; walk_at "divok")
  | (apply jv_mod; walk_at "jv"; walk_at "jv"; walk_at "side")
  | (apply jv_band; walk_at "jv"; walk_at "jv")
  | (apply jv_cmp; walk_at "jo"; (first | exact rfl | exact nomark _))
  | (apply jv_chain op_le op_le; walk_at "jv"; walk_at "jv"; walk_at "jv"; with_unfolding_all rfl)
  | (apply jv_chain op_le op_lt; walk_at "jv"; walk_at "jv"; walk_at "jv"; with_unfolding_all rfl)
  | (apply jv_and; walk_at "jv"; intro hand; walk_at "jv")
  | (apply jv_or; walk_at "jv"; intro hor; walk_at "jv")
  | (apply jv_not; walk_at "jv")
  | (apply jv_one; walk_at "jv")
  | (apply jv_lenM; walk_at "bm"; walk_at "jd"; exact rfl; walk_at "ns")
  | (apply jv_len; walk_at "bm"; walk_at "jd"; exact rfl; walk_at "ns")
  | (apply jv_all; exact rfl; walk_at "bm"; walk_at "jd"; exact rfl; decide +kernel; walk_at "ns")
  | (apply jv_any; exact rfl; walk_at "bm"; walk_at "jd"; exact rfl; decide +kernel; walk_at "ns")
  | (apply jv_lenT; walk_at "bm"; walk_at "jd"; exact rfl; walk_at "ns")
  | walk_at "call"
  | (apply jv_isi; (first | exact boot_tint | exact boot_tbool | exact boot_tlist | exact boot_ttuple); walk_at "bm"; walk_at "bm"; walk_at "jd"; walk_at "kit"; exact rfl; exact rfl; exact boot_isi; walk_at "ns"; decide; decide)
  | (apply jv_lenSet; exact rfl; walk_at "bm"; walk_at "bm"; walk_at "jd"; walk_at "side"; exact rfl; exact rfl; walk_at "ns")
  | (apply jv_ifE; walk_at "jt"; intro hif; walk_at "jv"; intro hif; walk_at "jv")
  | (apply JD.toI; walk_at "jx")
  | (apply JD.toB; walk_at "jx")
  | (apply JD.toS; walk_at "jx"))
local macro_rules | `(tactic| walk_at "mulok") => `(tactic| first
  | exact Or.inr ⟨by decide, by decide⟩
  | exact Or.inl ⟨by decide, by decide⟩
  | exact Or.inl ⟨by omega, by omega⟩
  | exact Or.inr ⟨by omega, by omega⟩)
local macro_rules | `(tactic| walk_at "divok") => `(tactic| first
  | exact ⟨by decide, by decide⟩
  | exact ⟨by omega, by omega⟩)
local macro_rules | `(tactic| walk_at "jx") => `(tactic| first
  | (apply jd_ixN; walk_at "jd"; walk_at "jv"; exact fun _ _ => rfl; walk_at "side")
  | (apply jd_ixNs; walk_at "jd"; walk_at "jv"; exact fun _ _ => rfl; walk_at "side")
  | (apply jd_ixP; walk_at "jd"; walk_at "jv"; exact fun _ _ => rfl; walk_at "side")
  | (apply jd_ixPs; walk_at "jd"; walk_at "jv"; exact fun _ _ => rfl; walk_at "side")
  | (apply jd_ixI; walk_at "jd"; walk_at "jv"; exact fun _ _ => rfl; walk_at "side")
  | (apply jd_ixP1; walk_at "jd")
  | (apply jd_ixP2; walk_at "jd")
  | walk_at "calld")
local macro_rules | `(tactic| walk_at "jd") => `(tactic| first
  | (apply JV.toD; walk_at "var"; walk_at "dp")
  | walk_at "jx"
  | (apply jd_list; walk_at "jad"; exact Nat.le_of_ble_eq_true rfl)
  | (apply jd_tuple; walk_at "jad"; exact Nat.le_of_ble_eq_true rfl)
  | (apply jd_listOf; walk_at "bm"; walk_at "jd"; exact rfl; exact boot_tlist; walk_at "ns")
  | (apply JV.toD (v := V.int _); walk_at "jv"; exact Dx.int _)
  | (apply JV.toD (v := V.bl _); walk_at "jv"; exact Dx.bl _)
  | (apply JV.toD (v := V.str _); walk_at "jv"; exact Dx.str _)
  | (apply jd_ifE; walk_at "jt"; intro hif; walk_at "jd"; intro hif; walk_at "jd"))
local macro_rules | `(tactic| walk_at "jad") => `(tactic| first
  | exact jad_nil
  | (apply jad_cons; walk_at "jd"; walk_at "jad"; walk_at "ns"))
local macro_rules | `(tactic| walk_at "jo") => `(tactic| first
  | (apply jo_isN; walk_at "jv")
  | (apply jo_notN; walk_at "jv")
  | (apply jo_eqI; walk_at "jv"; walk_at "jv")
  | (apply jo_neI; walk_at "jv"; walk_at "jv")
  | (apply jo_lt; walk_at "jv"; walk_at "jv")
  | (apply jo_le; walk_at "jv"; walk_at "jv")
  | (apply jo_gt; walk_at "jv"; walk_at "jv")
  | (apply jo_ge; walk_at "jv"; walk_at "jv")
  | (apply jo_inN; walk_at "hu"; walk_at "jv"; walk_at "jd")
  | (apply jo_niN; walk_at "hu"; walk_at "jv"; walk_at "jd")
  | (apply jo_eqD; walk_at "hu"; walk_at "jd"; walk_at "jd"; walk_at "shp"; walk_at "shp")
  | (apply jo_neD; walk_at "hu"; walk_at "jd"; walk_at "jd"; walk_at "shp"; walk_at "shp"))
local macro_rules | `(tactic| walk_at "shp") => `(tactic| first
  | assumption
  | exact Shp.shaped eLL _
  | exact Shp.shaped ePs _
  | exact Shp.shaped eNs _
  | exact Shp.shaped ePss _
  | exact Shp.shaped eP _
  | exact Shp.shaped eN _
  | exact Shp.shaped eI _
  | decide)
local macro_rules | `(tactic| walk_at "jw") => `(tactic| first
  | (apply jw_one_and; walk_at "jt")
  | (apply jw_one_or; walk_at "jt")
  | (apply jw_and; walk_at "jt"; intro hand; walk_at "jw")
  | (apply jw_or; walk_at "jt"; intro hor; walk_at "jw"))
local macro_rules | `(tactic| walk_at "jt") => `(tactic| first
  | (apply jt_w; walk_at "jw")
  | (apply jt_cmp; walk_at "jo"; (first | exact rfl | exact nomark _))
  | (apply jt_not; walk_at "jt")
  | (apply jt_val; walk_at "jv"; exact fun _ => rfl)
  | (apply jt_chain op_le op_le; walk_at "jv"; walk_at "jv"; walk_at "jv"; with_unfolding_all rfl))
local macro_rules | `(tactic| walk_at "camp") => `(tactic| first | assumption | (refine' CampAt.mono ?_ (by assumption); walk_at "ex"))
local macro_rules | `(tactic| walk_at "calld") => `(tactic| first
  | (apply jd_told; assumption; walk_at "var"; walk_at "camp"; exact rfl)
  | walk_at "calld2")
local macro_rules | `(tactic| walk_at "calld2") => `(tactic| first
  | fail "calld2")
local macro_rules | `(tactic| walk_at "room") => `(tactic| first
  | assumption
  | exact Room.mono (by assumption) (by decide))
local macro_rules | `(tactic| walk_at "bm") => `(tactic| first
  | assumption
  | exact Tx.len (by assumption)
  | exact Tx.range (by assumption)
  | exact Tx.list (by assumption)
  | exact Tx.all (by assumption)
  | exact Tx.any (by assumption)
  | exact Tx.isi (by assumption)
  | exact Tx.int (by assumption)
  | exact Tx.bool (by assumption)
  | exact Tx.set (by assumption)
  | exact Tx.tup (by assumption))
local macro_rules | `(tactic| walk_at "call") => `(tactic| first
  | (apply jv_size; assumption; walk_at "var"; walk_at "camp"; exact rfl)
  | (apply jv_index; walk_at "hu"; walk_at "jd"; walk_at "jv"; walk_at "side"; walk_at "ns"; exact rfl; exact rfl; exact rfl)
  | (apply jv_would; assumption; assumption; walk_at "room"; walk_at "var"; walk_at "camp"; walk_at "jv"; walk_at "jv"; walk_at "side"; walk_at "side"; walk_at "ns"; walk_at "ns"; exact rfl; exact rfl)
  | walk_at "call2")
local macro_rules | `(tactic| walk_at "call2") => `(tactic| first
  | fail "call2")
/-! ### within -/
def withinD (d : PyData) (lo hi : Int) : Bool := match d with
  | .int n => decide (lo ≤ n) && decide (n ≤ hi)
  | _ => false
section
variable {P : Program} {w : World} {K : PySem.W.Frag} {mg : Str → Option Value} {base : Heap} {C : Addr}
abbrev spWithin : Sp := spOf (fun _ : PyData × Int × Int => True) (fun i => [kD i.1, kI i.2.1, kI i.2.2]) (fun i => kB (withinD i.1 i.2.1 i.2.2))
theorem kit_no (d : PyData) (h : ∀ n, d ≠ .int n) (h2 : ∀ b, d ≠ .bool b) (h3 : ∀ b, d ≠ .dict b) : kitB (dty d) "int" = some false := by
  cases d with
  | int n => exact absurd rfl (h n)
  | bool b => exact absurd rfl (h2 b)
  | dict b => exact absurd rfl (h3 b)
  | none => decide +kernel
  | str x => show kitB "str" "int" = some false; decide +kernel
  | list x => show kitB "list" "int" = some false; decide +kernel
  | tuple x => show kitB "tuple" "int" = some false; decide +kernel
theorem ok_within {f : Addr} {fd : FuncData} (F : Fun K "within" "within" s_within f fd) (T : Tx K mg C) : FnOk P w K mg base CX0 1 f fd ["number", "low", "high"] spWithin := by
  refine fun_ok F sc_within (fun _ => rfl) ?_
  rintro cdv A outer s H vs Q E ⟨d, lo, hi⟩ G hr _ al h k
  obtain ⟨u, _, _, rfl, hd, rfl, rfl⟩ := al.three
  try dsimp only at hd k ⊢
  cases hd with
  | int n =>
    refine b_ret h (v := .bl (true && (!false && (decide (lo ≤ n) && decide (n ≤ hi))))) (by walk_at "jv") (fun H' h' => k _ _ _ _ h' ?_)
    simp [withinD]
  | bl n =>
    refine b_ret h (v := .bl (true && (!true && false))) ?_ (fun H' h' => k _ _ _ _ h' ?_)
    · refine jv_and ?_ (fun _ => jv_and ?_ (fun z => by cases z))
      · walk_at "jv"
      · walk_at "jv"
    · simp [withinD]
  | non =>
    have hk := kit_no .none (fun _ z => nomatch z) (fun _ z => nomatch z) (fun _ z => nomatch z)
    have hd : Dx G .non .none := .non
    refine b_ret h (v := .bl (false && false)) (jv_and (by walk_at "jv") (fun z => by cases z)) (fun H' h' => k _ _ _ _ h' (by simp [withinD]))
  | str n =>
    have hk := kit_no (.str n) (fun _ z => nomatch z) (fun _ z => nomatch z) (fun _ z => nomatch z)
    have hd : Dx G (.str n) (.str n) := .str n
    refine b_ret h (v := .bl (false && false)) (jv_and (by walk_at "jv") (fun z => by cases z)) (fun H' h' => k _ _ _ _ h' (by simp [withinD]))
  | @lst a xs ds h1 h2 =>
    have hk := kit_no (.list ds) (fun _ z => nomatch z) (fun _ z => nomatch z) (fun _ z => nomatch z)
    have hd : Dx G (.ref a) (.list ds) := .lst h1 h2
    refine b_ret h (v := .bl (false && false)) (jv_and (by walk_at "jv") (fun z => by cases z)) (fun H' h' => k _ _ _ _ h' (by simp [withinD]))
  | @tup a xs ds h1 h2 =>
    have hk := kit_no (.tuple ds) (fun _ z => nomatch z) (fun _ z => nomatch z) (fun _ z => nomatch z)
    have hd : Dx G (.ref a) (.tuple ds) := .tup h1 h2
    refine b_ret h (v := .bl (false && false)) (jv_and (by walk_at "jv") (fun z => by cases z)) (fun H' h' => k _ _ _ _ h' (by simp [withinD]))
end
section
variable {X : Cx} {σ : L2.St} {e o a b c : Expr} {es : List Expr} {G : Hp} {pos : Pos} {x : Str} {C p : Addr} {L : List (List Nat)}
theorem jv_within {d : PyData} {lo hi : Int} {ap : Pos} (M : Df X.prog X.w X.K X.mg X.base "within" 1 spWithin) (hr : Room 1 X.A) (ha : JD X σ a G d) (hb : JV X σ b G (.int lo)) (hc : JV X σ c G (.int hi)) (hg : Gl X "within") (na : NoStar a) (nb : NoStar b) (nc : NoStar c)
    (hpl : (backTo pos (starEach [b, c] X.env)).any (·.1) = false) : JV X σ (.Call (.Name "within" ap) [a, b, c] [] pos) G (.bl (withinD d lo hi)) :=
  (jp_call M hr hg (d, lo, hi) trivial (jal_cons ha.toP mo_D (fun _ e => jal_cons (hb.mono e).toPV mo_V (fun _ e2 => jal_cons (hc.mono (e.trans e2)).toPV mo_V (fun _ _ => jal_nil) nc) nb) na) na (by decide) hpl).toB
theorem jv_rather {m n q : Nat} {ap : Pos} {pl : Sem Bool} (T : Tx X.K X.mg C) (M : Mt X.prog X.w X.K X.mg X.base C "rather" 1 (spRather X.K C)) (hr : Room 1 X.A) (ho : JV X σ o G (.ref p)) (hc : CampAt X.K C G p L) (ha : JV X σ a G (.int (m : Int))) (hb : JV X σ b G (.int (n : Int))) (hq : JV X σ c G (.int (q : Int)))
    (hm : m < L.length) (hin : ¬ n = q → ¬ n = m → ¬ q = m → n ∈ L.getD m [] ∧ q ∈ L.getD m []) (na : NoStar a) (nb : NoStar b) (nc : NoStar c)
    (hpl : (backTo pos (starEach [b, c] X.env)).any (·.1) = false)
    (ht : eval (.Call (.Attribute o "rather" ap) [a, b, c] [] pos) X.env = (do
      let ov ← eval o X.env
      standAt ap.atName
      let (f, first) ← holding [ov] (getMethod ov "rather" pl)
      callWith pos f first (backTo pos (starEach [a, b, c] X.env)) (backToKw pos (keywordEach [] X.env)))) : JV X σ (.Call (.Attribute o "rather" ap) [a, b, c] [] pos) G (.bl (rather L m n q)) := by
  obtain ⟨t, h1, h2⟩ := hc
  exact (jp_meth M T.cl ho h1 (campA_no _ _ (by decide +kernel) (by decide +kernel)) hr (L, m, n, q) ⟨hm, hin⟩ (P0 := kCamp X.K C L) rfl ⟨p, rfl, t, h1, h2⟩ mo_Camp
    (jal_cons ha.toPV mo_V (fun _ e => jal_cons (hb.mono e).toPV mo_V (fun _ e2 => jal_cons (hq.mono (e.trans e2)).toPV mo_V (fun _ _ => jal_nil) nc) nb) na) na hpl ht).toB
theorem jd_open {ap : Pos} (M : Df X.prog X.w X.K X.mg X.base "open_pairs" 2 (spOpen X.K C)) (hr : Room 2 X.A) (ho : JV X σ o G (.ref p)) (hc : CampAt X.K C G p L) (hL : L.length ≤ 6) (hg : Gl X "open_pairs") (na : NoStar o)
    (hpl : (backTo pos (starEach [] X.env)).any (·.1) = false) : JD X σ (.Call (.Name "open_pairs" ap) [o] [] pos) G (ePs (openPairs L)) :=
  (jp_call M hr hg L hL (jal_cons (ho.toP ⟨p, rfl, hc⟩) mo_Camp (fun _ _ => jal_nil) na) na (by decide) hpl).toD
end
end TP

set_option Elab.async false
set_option linter.all false
set_option maxRecDepth 100000
set_option maxHeartbeats 2000000
namespace TP
open PySem PySem.Spec PyProof.Rows L2
open Evl (Ex)
-- tactics of this text: what an expression is worth (jv jd jt jo jw), growth (ex), what remains (side); call, calld: what the text adds
local macro_rules | `(tactic| walk_at "ex") => `(tactic| first | exact Ex.refl _ | assumption | (refine' Ex.trans ?_ (by assumption); walk_at "ex"))
local macro_rules | `(tactic| walk_at "vis") => `(tactic| first
  | exact Or.inl rfl
  | exact Or.inr (Or.inl rfl)
  | exact Or.inr (Or.inr rfl))
local macro_rules | `(tactic| walk_at "loc") => `(tactic| first
  | exact Or.inl rfl
  | exact Or.inr rfl)
local macro_rules | `(tactic| walk_at "side") => `(tactic| first
  | assumption
  | omega
  | decide
  | exact rfl
  | (simp_all; done)
  | (simp_all; omega))
local macro_rules | `(tactic| walk_at "hu") => `(tactic| first
  | exact room65 (by assumption)
  | exact Room.units (by assumption))
local macro_rules | `(tactic| walk_at "dp") => `(tactic| first | assumption | (refine' Dx.mono ?_ (by assumption); walk_at "ex"))
local macro_rules | `(tactic| walk_at "var") => `(tactic| first
  | (apply jv_var 0; exact rfl; exact rfl; walk_at "vis"; decide; decide)
  | (apply jv_var 1; exact rfl; exact rfl; walk_at "vis"; decide; decide)
  | (apply jv_var 2; exact rfl; exact rfl; walk_at "vis"; decide; decide)
  | (apply jv_var 3; exact rfl; exact rfl; walk_at "vis"; decide; decide)
  | (apply jv_var 4; exact rfl; exact rfl; walk_at "vis"; decide; decide)
  | (apply jv_var 5; exact rfl; exact rfl; walk_at "vis"; decide; decide)
  | (apply jv_var 6; exact rfl; exact rfl; walk_at "vis"; decide; decide)
  | (apply jv_var 7; exact rfl; exact rfl; walk_at "vis"; decide; decide)
  | (apply jv_var 8; exact rfl; exact rfl; walk_at "vis"; decide; decide)
  | (apply jv_var 9; exact rfl; exact rfl; walk_at "vis"; decide; decide)
  | (apply jv_var 10; exact rfl; exact rfl; walk_at "vis"; decide; decide)
  | (apply jv_var 11; exact rfl; exact rfl; walk_at "vis"; decide; decide)
  | (apply jv_var 12; exact rfl; exact rfl; walk_at "vis"; decide; decide)
  | (apply jv_var 13; exact rfl; exact rfl; walk_at "vis"; decide; decide)
  | (apply jv_var 14; exact rfl; exact rfl; walk_at "vis"; decide; decide)
  | (apply jv_var 15; exact rfl; exact rfl; walk_at "vis"; decide; decide)
  | (apply jv_var 16; exact rfl; exact rfl; walk_at "vis"; decide; decide)
  | (apply jv_var 17; exact rfl; exact rfl; walk_at "vis"; decide; decide)
  | (apply jv_var 18; exact rfl; exact rfl; walk_at "vis"; decide; decide)
  | (apply jv_var 19; exact rfl; exact rfl; walk_at "vis"; decide; decide))
local macro_rules | `(tactic| walk_at "bm") => `(tactic| first
  | assumption)
local macro_rules | `(tactic| walk_at "call") => `(tactic| first
  | fail "call")
local macro_rules | `(tactic| walk_at "calld") => `(tactic| first
  | fail "calld")
local macro_rules | `(tactic| walk_at "kit") => `(tactic| first
  | assumption
  | exact kit_ii
  | exact kit_ib
  | exact kit_bi
  | exact kit_bb
  | exact kit_li
  | exact kit_ll
  | exact kit_tt
  | exact kit_tl
  | exact kit_lt
  | exact kit_tb)
local macro_rules | `(tactic| walk_at "ns") => `(tactic| first
  | exact fun _ _ => rfl)
local macro_rules | `(tactic| walk_at "jv") => `(tactic| first
  | exact jv_int
  | exact jv_bl
  | exact jv_non
  | exact jv_str
  | walk_at "var"
  | (apply jv_add; walk_at "jv"; walk_at "jv")
  | (apply jv_sub; walk_at "jv"; walk_at "jv")
  | (apply jv_neg; walk_at "jv")
  | (apply jv_mul; walk_at "jv"; walk_at "jv"; walk_at "mulok")
  | (apply jv_fdiv; walk_at "jv"; walk_at "jv"; walk_at "divok")
  | (apply jv_mod; walk_at "jv"; walk_at "jv"; walk_at "side")
  | (apply jv_band; walk_at "jv"; walk_at "jv")
  | (apply jv_cmp; walk_at "jo"; (first | exact rfl | exact nomark _))
  | (apply jv_chain op_le op_le; walk_at "jv"; walk_at "jv"; walk_at "jv"; with_unfolding_all rfl)
  | (apply jv_chain op_le op_lt; walk_at "jv"; walk_at "jv"; walk_at "jv"; with_unfolding_all rfl)
  | (apply jv_and; walk_at "jv"; intro hand; walk_at "jv")
  | (apply jv_or; walk_at "jv"; intro hor; walk_at "jv")
  | (apply jv_not; walk_at "jv")
  | (apply jv_one; walk_at "jv")
  | (apply jv_lenM; walk_at "bm"; walk_at "jd"; exact rfl; walk_at "ns")
  | (apply jv_len; walk_at "bm"; walk_at "jd"; exact rfl; walk_at "ns")
  | (apply jv_all; exact rfl; walk_at "bm"; walk_at "jd"; exact rfl; decide +kernel; walk_at "ns")
  | (apply jv_any; exact rfl; walk_at "bm"; walk_at "jd"; exact rfl; decide +kernel; walk_at "ns")
  | (apply jv_lenT; walk_at "bm"; walk_at "jd"; exact rfl; walk_at "ns")
  | walk_at "call"
  | (apply jv_isi; (first | exact boot_tint | exact boot_tbool | exact boot_tlist | exact boot_ttuple); walk_at "bm"; walk_at "bm"; walk_at "jd"; walk_at "kit"; exact rfl; exact rfl; exact boot_isi; walk_at "ns"; decide; decide)
  | (apply jv_lenSet; exact rfl; walk_at "bm"; walk_at "bm"; walk_at "jd"; walk_at "side"; exact rfl; exact rfl; walk_at "ns")
  | (apply jv_ifE; walk_at "jt"; intro hif; walk_at "jv"; intro hif; walk_at "jv")
  | (apply JD.toI; walk_at "jx")
  | (apply JD.toB; walk_at "jx")
  | (apply JD.toS; walk_at "jx"))
local macro_rules | `(tactic| walk_at "mulok") => `(tactic| first
  | exact Or.inr ⟨by decide, by decide⟩
  | exact Or.inl ⟨by decide, by decide⟩
  | exact Or.inl ⟨by omega, by omega⟩
  | exact Or.inr ⟨by omega, by omega⟩)
local macro_rules | `(tactic| walk_at "divok") => `(tactic| first
  | exact ⟨by decide, by decide⟩
  | exact ⟨by omega, by omega⟩)
local macro_rules | `(tactic| walk_at "jx") => `(tactic| first
  | (apply jd_ixN; walk_at "jd"; walk_at "jv"; exact fun _ _ => rfl; walk_at "side")
  | (apply jd_ixNs; walk_at "jd"; walk_at "jv"; exact fun _ _ => rfl; walk_at "side")
  | (apply jd_ixP; walk_at "jd"; walk_at "jv"; exact fun _ _ => rfl; walk_at "side")
  | (apply jd_ixPs; walk_at "jd"; walk_at "jv"; exact fun _ _ => rfl; walk_at "side")
  | (apply jd_ixI; walk_at "jd"; walk_at "jv"; exact fun _ _ => rfl; walk_at "side")
  | (apply jd_ixP1; walk_at "jd")
  | (apply jd_ixP2; walk_at "jd")
  | walk_at "calld")
local macro_rules | `(tactic| walk_at "jd") => `(tactic| first
  | (apply JV.toD; walk_at "var"; walk_at "dp")
  | walk_at "jx"
  | (apply jd_list; walk_at "jad"; exact Nat.le_of_ble_eq_true rfl)
  | (apply jd_tuple; walk_at "jad"; exact Nat.le_of_ble_eq_true rfl)
  | (apply jd_listOf; walk_at "bm"; walk_at "jd"; exact rfl; exact boot_tlist; walk_at "ns")
  | (apply JV.toD (v := V.int _); walk_at "jv"; exact Dx.int _)
  | (apply JV.toD (v := V.bl _); walk_at "jv"; exact Dx.bl _)
  | (apply JV.toD (v := V.str _); walk_at "jv"; exact Dx.str _)
  | (apply jd_ifE; walk_at "jt"; intro hif; walk_at "jd"; intro hif; walk_at "jd"))
local macro_rules | `(tactic| walk_at "jad") => `(tactic| first
  | exact jad_nil
  | (apply jad_cons; walk_at "jd"; walk_at "jad"; walk_at "ns"))
local macro_rules | `(tactic| walk_at "jo") => `(tactic| first
  | (apply jo_isN; walk_at "jv")
  | (apply jo_notN; walk_at "jv")
  | (apply jo_eqI; walk_at "jv"; walk_at "jv")
  | (apply jo_neI; walk_at "jv"; walk_at "jv")
  | (apply jo_lt; walk_at "jv"; walk_at "jv")
  | (apply jo_le; walk_at "jv"; walk_at "jv")
  | (apply jo_gt; walk_at "jv"; walk_at "jv")
  | (apply jo_ge; walk_at "jv"; walk_at "jv")
  | (apply jo_inN; walk_at "hu"; walk_at "jv"; walk_at "jd")
  | (apply jo_niN; walk_at "hu"; walk_at "jv"; walk_at "jd")
  | (apply jo_eqD; walk_at "hu"; walk_at "jd"; walk_at "jd"; walk_at "shp"; walk_at "shp")
  | (apply jo_neD; walk_at "hu"; walk_at "jd"; walk_at "jd"; walk_at "shp"; walk_at "shp"))
local macro_rules | `(tactic| walk_at "shp") => `(tactic| first
  | assumption
  | exact Shp.shaped eLL _
  | exact Shp.shaped ePs _
  | exact Shp.shaped eNs _
  | exact Shp.shaped ePss _
  | exact Shp.shaped eP _
  | exact Shp.shaped eN _
  | exact Shp.shaped eI _
  | decide)
local macro_rules | `(tactic| walk_at "jw") => `(tactic| first
  | (apply jw_one_and; walk_at "jt")
  | (apply jw_one_or; walk_at "jt")
  | (apply jw_and; walk_at "jt"; intro hand; walk_at "jw")
  | (apply jw_or; walk_at "jt"; intro hor; walk_at "jw"))
local macro_rules | `(tactic| walk_at "jt") => `(tactic| first
  | (apply jt_w; walk_at "jw")
  | (apply jt_cmp; walk_at "jo"; (first | exact rfl | exact nomark _))
  | (apply jt_not; walk_at "jt")
  | (apply jt_val; walk_at "jv"; exact fun _ => rfl)
  | (apply jt_chain op_le op_le; walk_at "jv"; walk_at "jv"; walk_at "jv"; with_unfolding_all rfl))
local macro_rules | `(tactic| walk_at "camp") => `(tactic| first | assumption | (refine' CampAt.mono ?_ (by assumption); walk_at "ex"))
local macro_rules | `(tactic| walk_at "calld") => `(tactic| first
  | (apply jd_told; assumption; walk_at "var"; walk_at "camp"; exact rfl)
  | walk_at "calld2")
local macro_rules | `(tactic| walk_at "calld2") => `(tactic| first
  | fail "calld2")
local macro_rules | `(tactic| walk_at "room") => `(tactic| first
  | assumption
  | exact Room.mono (by assumption) (by decide))
local macro_rules | `(tactic| walk_at "bm") => `(tactic| first
  | assumption
  | exact Tx.len (by assumption)
  | exact Tx.range (by assumption)
  | exact Tx.list (by assumption)
  | exact Tx.all (by assumption)
  | exact Tx.any (by assumption)
  | exact Tx.isi (by assumption)
  | exact Tx.int (by assumption)
  | exact Tx.bool (by assumption)
  | exact Tx.set (by assumption)
  | exact Tx.tup (by assumption))
local macro_rules | `(tactic| walk_at "call") => `(tactic| first
  | (apply jv_size; assumption; walk_at "var"; walk_at "camp"; exact rfl)
  | (apply jv_index; walk_at "hu"; walk_at "jd"; walk_at "jv"; walk_at "side"; walk_at "ns"; exact rfl; exact rfl; exact rfl)
  | (apply jv_would; assumption; assumption; walk_at "room"; walk_at "var"; walk_at "camp"; walk_at "jv"; walk_at "jv"; walk_at "side"; walk_at "side"; walk_at "ns"; walk_at "ns"; exact rfl; exact rfl)
  | walk_at "call2")
local macro_rules | `(tactic| walk_at "call2") => `(tactic| first
  | fail "call2")
local macro_rules | `(tactic| walk_at "call2") => `(tactic| first
  | (apply jv_glob; exact rfl; assumption; exact ⟨_, rfl⟩; decide)
  | (apply jv_within; assumption; walk_at "room"; walk_at "jd"; walk_at "jv"; walk_at "jv"; exact rfl; walk_at "ns"; walk_at "ns"; walk_at "ns"; exact rfl))
structure ValidL (L : List (List Nat)) : Prop where
  one : 1 ≤ L.length
  six : L.length ≤ 6
  mem : ∀ i, i < L.length → ∀ x ∈ L.getD i [], x < L.length
  nd : ∀ i, i < L.length → (L.getD i []).Nodup
  self : ∀ i, i < L.length → i ∉ L.getD i []
theorem nd_sub : ∀ (l m : List Nat), l.Nodup → (∀ x ∈ l, x ∈ m) → l.length ≤ m.length
  | [], _, _, _ => Nat.zero_le _
  | x :: l, m, nd, h => by
    have hx := h x List.mem_cons_self
    have n := List.nodup_cons.mp nd
    have ih := nd_sub l (m.erase x) n.2 fun y hy => (List.mem_erase_of_ne (fun e => n.1 (by rw [← e]; exact hy))).mpr (h y (List.mem_cons_of_mem _ hy))
    rw [List.length_erase_of_mem hx] at ih
    have := List.length_pos_of_mem hx
    rw [List.length_cons]
    omega
theorem nodup_bound (n : Nat) (l : List Nat) (nd : l.Nodup) (h : ∀ x ∈ l, x < n) : l.length ≤ n := by
  have := nd_sub l (List.range n) nd fun x hx => List.mem_range.mpr (h x hx)
  rwa [List.length_range] at this
theorem ValidL.len (v : ValidL L) {i : Nat} (hi : i < L.length) : (L.getD i []).length ≤ 6 := Nat.le_trans (nodup_bound L.length _ (v.nd i hi) (v.mem i hi)) v.six
section
variable {P : Program} {w : World} {K : PySem.W.Frag} {mg : Str → Option Value} {base : Heap} {C : Addr}
abbrev rCamp (L : List (List Nat)) : Hp → List (Str × V) → Prop := fun F fs => ∃ t, (∀ f, fs.lookup f = (campA t L.length).lookup f) ∧ Dx F t (eLL L)
abbrev spCamp (C : Addr) : Sp := spMk C ValidL (fun L => [kD (eLL L)]) rCamp
theorem campA_put (t : V) (n : Nat) (f : Str) : (putF "size" (.int (n : Int)) (putF "told" t [])).lookup f = (campA t n).lookup f := by
  rw [lookup_putF, lookup_putF]
  by_cases h1 : f = "told"
  · subst h1
    rw [if_neg (by decide +kernel), if_pos rfl, campA_told]
  · by_cases h2 : f = "size"
    · subst h2
      rw [if_pos rfl, campA_size]
    · rw [if_neg h2, if_neg h1, campA_no _ _ (by simpa using h1) (by simpa using h2)]
      rfl
theorem ok_camp {f : Addr} {fd : FuncData} (F : Fun K "__init__" "Camp.__init__" s_Camp___init__ f fd) (T : Tx K mg C) (W : Df P w K mg base "within" 1 spWithin) : FnOk P w K mg base CX0 2 f fd ["self", "lists"] (spCamp C) := by
  refine fun_okI F sc_Camp___init__ (fun _ => rfl) ?_
  rintro cdv A outer s H us Q E L G H0 x dx hr hv al h k
  obtain ⟨a, rfl, hL⟩ := al.one
  try dsimp only at hL k ⊢
  obtain ⟨tm, hmost⟩ := T.most
  have nd := sc_Camp___init__.nd
  have h1n := hv.one
  have h6n := hv.six
  refine' b_if (p := false) h (JT.is ?tt ?eq0) (fun e => by cases e) (fun _ H1 h1 => ?_)
  case tt => walk_at "jt"
  case eq0 => simp [h1n, h6n]; omega
  refine b_nil ?_
  refine b_for h1 (f := eN) (xs := List.range L.length) (ji_range1 T.range (by walk_at "jv") (by omega) rfl (by walk_at "ns")) PassesOwn.never rfl (fun _ => rfl) (fun G1 H2 h2 e2 => ?_)
  refine ⟨fun pre σ' G' H' => ∃ o1 o2, σ' = [some (.ref x), some a, o1, o2, none] ∧ Hs G H0 G' H' [(x, .ins C dx []), (dx, .own x)] ∧ Ex G1 G', ?_, ?_, ?_, ?_⟩
  · exact ⟨none, none, rfl, h2, Ex.refl _⟩
  · rintro pre σ' G' H' ⟨o1, o2, rfl, hs, e⟩
    exact ⟨e, hs.ex⟩
  · rintro pre c post v σ' G' H' hxs ⟨o1, o2, rfl, hs, e⟩ pv
    cases pv
    have hc : c < L.length := by
      have : c ∈ List.range L.length := by rw [hxs]; simp
      simpa using this
    refine wg_name (n := 2) nd rfl (by walk_at "loc") (Or.inl rfl) ?_
    refine b_setD (n := 3) (d := eNs (L.getD c [])) hs (by walk_at "jd") nd rfl (by walk_at "loc") rfl (Or.inl rfl) (fun G2 H3 v h3 e3 hv3 => ?_)
    refine' b_if (p := false) h3 (JT.is (jt_w (jw_or ?t1 (fun _ => jw_one_or (jt_not (jt_val (jv_all rfl T.all (bs := (L.getD c []).map fun y => withinD (eN y) 0 ((L.length : Int) - 1)) (JD.is (JN.toD (jn_lc (n := 4) (f0 := eN) (xs := L.getD c []) (f := fun y => .bool (withinD (eN y) 0 ((L.length : Int) - 1))) (ji_list (by walk_at "jd")) ?len rfl nd rfl (fun _ _ _ _ _ => ⟨by walk_at "loc", by walk_at "loc"⟩) (by first | kernel_rfl | rfl) (fun _ => rfl) ?body)) ?eqm) rfl (by decide +kernel) (by walk_at "ns")) (fun _ => rfl)))))) ?eq) (fun e => by cases e) (fun _ H1 h1 => ?_)
    case t1 => walk_at "jt"
    case len =>
      have := hv.len hc
      omega
    case body =>
      intro s h C cl fp y hy G2 u e3 pu
      cases pu
      walk_at "jd"
    case eqm => rw [List.map_map]; rfl
    case eq =>
      have : ((L.getD c []).map fun y => withinD (eN y) 0 ((L.length : Int) - 1)).all id = true := by
        rw [List.all_map]
        refine List.all_eq_true.mpr fun y hy => ?_
        have := hv.mem c hc y hy
        simp [withinD]
        omega
      rw [this]
      rfl
    refine' b_nil (b_if (p := false) h1 (JT.is (jt_w (jw_or (jt_cmp (jo_lt (jv_lenSet (ns := (L.getD c []).map fun n : Nat => (n : Int)) rfl T.len T.set (JD.is (by walk_at "jd") ?eqs) ?len rfl rfl (by walk_at "ns")) (by walk_at "jv")) rfl) (fun _ => jw_one_or (by walk_at "jt")))) ?eq) (fun e => by cases e) (fun _ H1 h1 => ?_))
    case eqs => rw [List.map_map]; rfl
    case len =>
      have := hv.len hc
      rw [List.length_map]; omega
    case eq =>
      have nd2 : ((L.getD c []).map fun n : Nat => (n : Int)).Nodup := (hv.nd c hc).map (fun n : Nat => (n : Int)) fun a b hab h => hab (by have h2 : (a : Int) = (b : Int) := h; omega)
      have := hv.self c hc
      rw [dedupI_nodup nd2, decide_eq_false this, List.length_map]
      simp
    exact b_nil (b_nil ⟨G2, _, _, rfl, h1, e.trans e3⟩)
  · rintro σ' G' H' ⟨o1, o2, rfl, hs, e⟩
    refine b_setFldF (f := "told") (P := kD (eLL L)) hs T.cl T.nT (fun G => by walk_at "jv") (by decide) (jf_lc (n := 4) (f0 := eNs) (xs := L) (f := eNs) (ji_list (by walk_at "jd")) (by omega) rfl nd rfl (fun _ _ _ _ _ => ⟨by walk_at "loc", by walk_at "loc"⟩) (by first | kernel_rfl | rfl) (fun _ => rfl) ?_) rfl (fun G2 H3 v h3 e3 hF => ?_)
    · intro s h C cl fp y hy G2 u e3 pu
      exact jf_listN T.list (by walk_at "jd") rfl (by decide +kernel) (by walk_at "ns")
    refine b_setFld (f := "size") (P := kI (L.length : Int)) h3 T.cl T.nS (fun G => by walk_at "jv") (Nat.le_of_ble_eq_true rfl) (JV.toPV (by walk_at "jv")) rfl (fun G3 H4 v4 h4 e4 pv4 => ?_)
    cases pv4
    obtain ⟨F, eF, fr, pv⟩ := hF
    refine b_nil (k G3 H4 _ F h4 (eF.trans e4) (fun a ha => Evl.fresh_back hs.st.h (fr a ha)) ⟨v, campA_put _ _, pv⟩)
end
end TP

set_option Elab.async false
set_option linter.all false
set_option maxRecDepth 100000
set_option maxHeartbeats 2000000
namespace TP
open PySem PySem.Spec PyProof.Rows L2
open Evl (Ex)
-- tactics of this text: what an expression is worth (jv jd jt jo jw), growth (ex), what remains (side); call, calld: what the text adds
local macro_rules | `(tactic| walk_at "ex") => `(tactic| first | exact Ex.refl _ | assumption | (refine' Ex.trans ?_ (by assumption); walk_at "ex"))
local macro_rules | `(tactic| walk_at "vis") => `(tactic| first
  | exact Or.inl rfl
  | exact Or.inr (Or.inl rfl)
  | exact Or.inr (Or.inr rfl))
local macro_rules | `(tactic| walk_at "loc") => `(tactic| first
  | exact Or.inl rfl
  | exact Or.inr rfl)
local macro_rules | `(tactic| walk_at "side") => `(tactic| first
  | assumption
  | omega
  | decide
  | exact rfl
  | (simp_all; done)
  | (simp_all; omega))
local macro_rules | `(tactic| walk_at "hu") => `(tactic| first
  | exact room65 (by assumption)
  | exact Room.units (by assumption))
local macro_rules | `(tactic| walk_at "dp") => `(tactic| first | assumption | (refine' Dx.mono ?_ (by assumption); walk_at "ex"))
local macro_rules | `(tactic| walk_at "var") => `(tactic| first
  | (apply jv_var 0; exact rfl; exact rfl; walk_at "vis"; decide; decide)
  | (apply jv_var 1; exact rfl; exact rfl; walk_at "vis"; decide; decide)
  | (apply jv_var 2; exact rfl; exact rfl; walk_at "vis"; decide; decide)
  | (apply jv_var 3; exact rfl; exact rfl; walk_at "vis"; decide; decide)
  | (apply jv_var 4; exact rfl; exact rfl; walk_at "vis"; decide; decide)
  | (apply jv_var 5; exact rfl; exact rfl; walk_at "vis"; decide; decide)
  | (apply jv_var 6; exact rfl; exact rfl; walk_at "vis"; decide; decide)
  | (apply jv_var 7; exact rfl; exact rfl; walk_at "vis"; decide; decide)
  | (apply jv_var 8; exact rfl; exact rfl; walk_at "vis"; decide; decide)
  | (apply jv_var 9; exact rfl; exact rfl; walk_at "vis"; decide; decide)
  | (apply jv_var 10; exact rfl; exact rfl; walk_at "vis"; decide; decide)
  | (apply jv_var 11; exact rfl; exact rfl; walk_at "vis"; decide; decide)
  | (apply jv_var 12; exact rfl; exact rfl; walk_at "vis"; decide; decide)
  | (apply jv_var 13; exact rfl; exact rfl; walk_at "vis"; decide; decide)
  | (apply jv_var 14; exact rfl; exact rfl; walk_at "vis"; decide; decide)
  | (apply jv_var 15; exact rfl; exact rfl; walk_at "vis"; decide; decide)
  | (apply jv_var 16; exact rfl; exact rfl; walk_at "vis"; decide; decide)
  | (apply jv_var 17; exact rfl; exact rfl; walk_at "vis"; decide; decide)
  | (apply jv_var 18; exact rfl; exact rfl; walk_at "vis"; decide; decide)
  | (apply jv_var 19; exact rfl; exact rfl; walk_at "vis"; decide; decide))
local macro_rules | `(tactic| walk_at "bm") => `(tactic| first
  | assumption)
local macro_rules | `(tactic| walk_at "call") => `(tactic| first
  | fail "call")
local macro_rules | `(tactic| walk_at "calld") => `(tactic| first
  | fail "calld")
local macro_rules | `(tactic| walk_at "kit") => `(tactic| first
  | assumption
  | exact kit_ii
  | exact kit_ib
  | exact kit_bi
  | exact kit_bb
  | exact kit_li
  | exact kit_ll
  | exact kit_tt
  | exact kit_tl
  | exact kit_lt
  | exact kit_tb)
local macro_rules | `(tactic| walk_at "ns") => `(tactic| first
  | exact fun _ _ => rfl)
local macro_rules | `(tactic| walk_at "jv") => `(tactic| first
  | exact jv_int
  | exact jv_bl
  | exact jv_non
  | exact jv_str
  | walk_at "var"
  | (apply jv_add; walk_at "jv"; walk_at "jv")
  | (apply jv_sub; walk_at "jv"; walk_at "jv")
  | (apply jv_neg; walk_at "jv")
  | (apply jv_mul; walk_at "jv"; walk_at "jv"; walk_at "mulok")
  | (apply jv_fdiv; walk_at "jv"; walk_at "jv"; walk_at "divok")
  | (apply jv_mod; walk_at "jv"; walk_at "jv"; walk_at "side")
  | (apply jv_band; walk_at "jv"; walk_at "jv")
  | (apply jv_cmp; walk_at "jo"; (first | exact rfl | exact nomark _))
  | (apply jv_chain op_le op_le; walk_at "jv"; walk_at "jv"; walk_at "jv"; with_unfolding_all rfl)
  | (apply jv_chain op_le op_lt; walk_at "jv"; walk_at "jv"; walk_at "jv"; with_unfolding_all rfl)
  | (apply jv_and; walk_at "jv"; intro hand; walk_at "jv")
  | (apply jv_or; walk_at "jv"; intro hor; walk_at "jv")
  | (apply jv_not; walk_at "jv")
  | (apply jv_one; walk_at "jv")
  | (apply jv_lenM; walk_at "bm"; walk_at "jd"; exact rfl; walk_at "ns")
  | (apply jv_len; walk_at "bm"; walk_at "jd"; exact rfl; walk_at "ns")
  | (apply jv_all; exact rfl; walk_at "bm"; walk_at "jd"; exact rfl; decide +kernel; walk_at "ns")
  | (apply jv_any; exact rfl; walk_at "bm"; walk_at "jd"; exact rfl; decide +kernel; walk_at "ns")
  | (apply jv_lenT; walk_at "bm"; walk_at "jd"; exact rfl; walk_at "ns")
  | walk_at "call"
  | (apply jv_isi; (first | exact boot_tint | exact boot_tbool | exact boot_tlist | exact boot_ttuple); walk_at "bm"; walk_at "bm"; walk_at "jd"; walk_at "kit"; exact rfl; exact rfl; exact boot_isi; walk_at "ns"; decide; decide)
  | (apply jv_lenSet; exact rfl; walk_at "bm"; walk_at "bm"; walk_at "jd"; walk_at "side"; exact rfl; exact rfl; walk_at "ns")
  | (apply jv_ifE; walk_at "jt"; intro hif; walk_at "jv"; intro hif; walk_at "jv")
  | (apply JD.toI; walk_at "jx")
  | (apply JD.toB; walk_at "jx")
  | (apply JD.toS; walk_at "jx"))
local macro_rules | `(tactic| walk_at "mulok") => `(tactic| first
  | exact Or.inr ⟨by decide, by decide⟩
  | exact Or.inl ⟨by decide, by decide⟩
  | exact Or.inl ⟨by omega, by omega⟩
  | exact Or.inr ⟨by omega, by omega⟩)
local macro_rules | `(tactic| walk_at "divok") => `(tactic| first
  | exact ⟨by decide, by decide⟩
  | exact ⟨by omega, by omega⟩)
local macro_rules | `(tactic| walk_at "jx") => `(tactic| first
  | (apply jd_ixN; walk_at "jd"; walk_at "jv"; exact fun _ _ => rfl; walk_at "side")
  | (apply jd_ixNs; walk_at "jd"; walk_at "jv"; exact fun _ _ => rfl; walk_at "side")
  | (apply jd_ixP; walk_at "jd"; walk_at "jv"; exact fun _ _ => rfl; walk_at "side")
  | (apply jd_ixPs; walk_at "jd"; walk_at "jv"; exact fun _ _ => rfl; walk_at "side")
  | (apply jd_ixI; walk_at "jd"; walk_at "jv"; exact fun _ _ => rfl; walk_at "side")
  | (apply jd_ixP1; walk_at "jd")
  | (apply jd_ixP2; walk_at "jd")
  | walk_at "calld")
local macro_rules | `(tactic| walk_at "jd") => `(tactic| first
  | (apply JV.toD; walk_at "var"; walk_at "dp")
  | walk_at "jx"
  | (apply jd_list; walk_at "jad"; exact Nat.le_of_ble_eq_true rfl)
  | (apply jd_tuple; walk_at "jad"; exact Nat.le_of_ble_eq_true rfl)
  | (apply jd_listOf; walk_at "bm"; walk_at "jd"; exact rfl; exact boot_tlist; walk_at "ns")
  | (apply JV.toD (v := V.int _); walk_at "jv"; exact Dx.int _)
  | (apply JV.toD (v := V.bl _); walk_at "jv"; exact Dx.bl _)
  | (apply JV.toD (v := V.str _); walk_at "jv"; exact Dx.str _)
  | (apply jd_ifE; walk_at "jt"; intro hif; walk_at "jd"; intro hif; walk_at "jd"))
local macro_rules | `(tactic| walk_at "jad") => `(tactic| first
  | exact jad_nil
  | (apply jad_cons; walk_at "jd"; walk_at "jad"; walk_at "ns"))
local macro_rules | `(tactic| walk_at "jo") => `(tactic| first
  | (apply jo_isN; walk_at "jv")
  | (apply jo_notN; walk_at "jv")
  | (apply jo_eqI; walk_at "jv"; walk_at "jv")
  | (apply jo_neI; walk_at "jv"; walk_at "jv")
  | (apply jo_lt; walk_at "jv"; walk_at "jv")
  | (apply jo_le; walk_at "jv"; walk_at "jv")
  | (apply jo_gt; walk_at "jv"; walk_at "jv")
  | (apply jo_ge; walk_at "jv"; walk_at "jv")
  | (apply jo_inN; walk_at "hu"; walk_at "jv"; walk_at "jd")
  | (apply jo_niN; walk_at "hu"; walk_at "jv"; walk_at "jd")
  | (apply jo_eqD; walk_at "hu"; walk_at "jd"; walk_at "jd"; walk_at "shp"; walk_at "shp")
  | (apply jo_neD; walk_at "hu"; walk_at "jd"; walk_at "jd"; walk_at "shp"; walk_at "shp"))
local macro_rules | `(tactic| walk_at "shp") => `(tactic| first
  | assumption
  | exact Shp.shaped eLL _
  | exact Shp.shaped ePs _
  | exact Shp.shaped eNs _
  | exact Shp.shaped ePss _
  | exact Shp.shaped eP _
  | exact Shp.shaped eN _
  | exact Shp.shaped eI _
  | decide)
local macro_rules | `(tactic| walk_at "jw") => `(tactic| first
  | (apply jw_one_and; walk_at "jt")
  | (apply jw_one_or; walk_at "jt")
  | (apply jw_and; walk_at "jt"; intro hand; walk_at "jw")
  | (apply jw_or; walk_at "jt"; intro hor; walk_at "jw"))
local macro_rules | `(tactic| walk_at "jt") => `(tactic| first
  | (apply jt_w; walk_at "jw")
  | (apply jt_cmp; walk_at "jo"; (first | exact rfl | exact nomark _))
  | (apply jt_not; walk_at "jt")
  | (apply jt_val; walk_at "jv"; exact fun _ => rfl)
  | (apply jt_chain op_le op_le; walk_at "jv"; walk_at "jv"; walk_at "jv"; with_unfolding_all rfl))
local macro_rules | `(tactic| walk_at "camp") => `(tactic| first | assumption | (refine' CampAt.mono ?_ (by assumption); walk_at "ex"))
local macro_rules | `(tactic| walk_at "calld") => `(tactic| first
  | (apply jd_told; assumption; walk_at "var"; walk_at "camp"; exact rfl)
  | walk_at "calld2")
local macro_rules | `(tactic| walk_at "calld2") => `(tactic| first
  | fail "calld2")
local macro_rules | `(tactic| walk_at "room") => `(tactic| first
  | assumption
  | exact Room.mono (by assumption) (by decide))
local macro_rules | `(tactic| walk_at "bm") => `(tactic| first
  | assumption
  | exact Tx.len (by assumption)
  | exact Tx.range (by assumption)
  | exact Tx.list (by assumption)
  | exact Tx.all (by assumption)
  | exact Tx.any (by assumption)
  | exact Tx.isi (by assumption)
  | exact Tx.int (by assumption)
  | exact Tx.bool (by assumption)
  | exact Tx.set (by assumption)
  | exact Tx.tup (by assumption))
local macro_rules | `(tactic| walk_at "call") => `(tactic| first
  | (apply jv_size; assumption; walk_at "var"; walk_at "camp"; exact rfl)
  | (apply jv_index; walk_at "hu"; walk_at "jd"; walk_at "jv"; walk_at "side"; walk_at "ns"; exact rfl; exact rfl; exact rfl)
  | (apply jv_would; assumption; assumption; walk_at "room"; walk_at "var"; walk_at "camp"; walk_at "jv"; walk_at "jv"; walk_at "side"; walk_at "side"; walk_at "ns"; walk_at "ns"; exact rfl; exact rfl)
  | walk_at "call2")
local macro_rules | `(tactic| walk_at "call2") => `(tactic| first
  | fail "call2")
local macro_rules | `(tactic| walk_at "call2") => `(tactic| first
  | (apply jv_glob; exact rfl; assumption; exact ⟨_, rfl⟩; decide)
  | (apply jv_within; assumption; walk_at "room"; walk_at "jd"; walk_at "jv"; walk_at "jv"; exact rfl; walk_at "ns"; walk_at "ns"; walk_at "ns"; exact rfl)
  | (apply jv_rather; assumption; assumption; walk_at "room"; walk_at "var"; walk_at "camp"; walk_at "jv"; walk_at "jv"; walk_at "jv"; walk_at "side"; walk_at "side"; walk_at "ns"; walk_at "ns"; walk_at "ns"; exact rfl; exact rfl))
local macro_rules | `(tactic| walk_at "calld2") => `(tactic| first
  | (apply jd_open; assumption; walk_at "room"; walk_at "var"; walk_at "camp"; walk_at "side"; exact rfl; walk_at "ns"; exact rfl))
/-! ### pure facts -/
def matesStep (m : List Nat) (p : Nat × Nat) : List Nat := (m.set p.1 p.2).set p.2 p.1
def matesOf (n : Nat) (ps : List (Nat × Nat)) : List Nat := ps.foldl matesStep (List.range n)
def blocks (L : List (List Nat)) (m : List Nat) (p : Nat × Nat) : Bool := rather L p.1 p.2 (m.getD p.1 0) && rather L p.2 p.1 (m.getD p.2 0)
def breakingL (L : List (List Nat)) (ps : List (Nat × Nat)) : List (Nat × Nat) := (openPairs L).filter (blocks L (matesOf L.length ps))
theorem matesStep_len (m : List Nat) (p : Nat × Nat) : (matesStep m p).length = m.length := by simp [matesStep]
theorem foldl_mates_len : ∀ (ps : List (Nat × Nat)) (m : List Nat), (ps.foldl matesStep m).length = m.length
  | [], _ => rfl
  | p :: ps, m => by rw [List.foldl_cons, foldl_mates_len ps, matesStep_len]
theorem matesOf_len (n : Nat) (ps : List (Nat × Nat)) : (matesOf n ps).length = n := by unfold matesOf; rw [foldl_mates_len, List.length_range]
theorem would_symm (L : List (List Nat)) (a b : Nat) : would L a b = would L b a := by unfold would; exact Bool.and_comm _ _
theorem would_iff {L : List (List Nat)} {a b : Nat} : would L a b = true ↔ b ∈ L.getD a [] ∧ a ∈ L.getD b [] := by unfold would; simp only [Bool.and_eq_true, decide_eq_true_eq]
/-- each has itself or one with whom it would share -/
def OkM (L : List (List Nat)) (m : List Nat) : Prop := m.length = L.length ∧ ∀ i, i < L.length → m.getD i 0 < L.length ∧ (m.getD i 0 = i ∨ would L i (m.getD i 0) = true)
theorem getD_set (m : List Nat) (i j x z : Nat) : (m.set i x).getD j z = if i = j ∧ i < m.length then x else m.getD j z := by
  rw [List.getD_eq_getElem?_getD, List.getElem?_set, List.getD_eq_getElem?_getD]
  by_cases h : i = j
  · subst h
    by_cases h2 : i < m.length <;> simp [h2]
  · simp [h]
theorem OkM.step {L : List (List Nat)} {m : List Nat} (h : OkM L m) {p : Nat × Nat} (h1 : p.1 < L.length) (h2 : p.2 < L.length) (hw : would L p.1 p.2 = true) : OkM L (matesStep m p) := by
  refine ⟨(matesStep_len m p).trans h.1, fun i hi => ?_⟩
  unfold matesStep
  rw [getD_set, getD_set]
  by_cases e2 : p.2 = i ∧ p.2 < (m.set p.1 p.2).length
  · rw [if_pos e2]
    refine ⟨h1, .inr ?_⟩
    rw [← e2.1, would_symm]
    exact hw
  · rw [if_neg e2]
    by_cases e1 : p.1 = i ∧ p.1 < m.length
    · rw [if_pos e1]
      refine ⟨h2, .inr ?_⟩
      rw [← e1.1]
      exact hw
    · rw [if_neg e1]
      exact h.2 i hi
theorem okM_range (L : List (List Nat)) : OkM L (List.range L.length) := ⟨List.length_range, fun i hi => by
  have e : (List.range L.length).getD i 0 = i := by simp [List.getD_eq_getElem?_getD, hi]
  rw [e]
  exact ⟨hi, .inl rfl⟩⟩
/-- pairs of two who would share -/
def OkP (L : List (List Nat)) (ps : List (Nat × Nat)) : Prop := ∀ p ∈ ps, p.1 < L.length ∧ p.2 < L.length ∧ would L p.1 p.2 = true
theorem okM_fold {L : List (List Nat)} : ∀ {ps : List (Nat × Nat)} {m : List Nat}, OkP L ps → OkM L m → OkM L (ps.foldl matesStep m)
  | [], _, _, h => h
  | p :: ps, m, hp, h => by
    obtain ⟨h1, h2, h3⟩ := hp p List.mem_cons_self
    exact okM_fold (ps := ps) (fun q hq => hp q (List.mem_cons_of_mem _ hq)) (h.step h1 h2 h3)
theorem okM_mates {L : List (List Nat)} {ps : List (Nat × Nat)} (h : OkP L ps) : OkM L (matesOf L.length ps) := okM_fold h (okM_range L)
theorem mem_open {L : List (List Nat)} {p : Nat × Nat} : p ∈ openPairs L ↔ p.1 < p.2 ∧ p.2 < L.length ∧ would L p.1 p.2 = true := by
  unfold openPairs openRow
  simp only [List.mem_flatMap, List.mem_range, List.mem_map, List.mem_filter]
  constructor
  · rintro ⟨a, ha, k, ⟨hk, hw⟩, rfl⟩
    exact ⟨by show a < a + 1 + k; omega, by show a + 1 + k < _; omega, hw⟩
  · rintro ⟨h1, h2, h3⟩
    refine ⟨p.1, by omega, p.2 - (p.1 + 1), ⟨by omega, ?_⟩, ?_⟩
    · rw [show p.1 + 1 + (p.2 - (p.1 + 1)) = p.2 by omega]; exact h3
    · rw [show p.1 + 1 + (p.2 - (p.1 + 1)) = p.2 by omega]
theorem rather_ok {L : List (List Nat)} {m : List Nat} (h : OkM L m) {a b : Nat} (ha : a < L.length) (hw : would L a b = true) : ¬ b = m.getD a 0 → ¬ b = a → ¬ m.getD a 0 = a → b ∈ L.getD a [] ∧ m.getD a 0 ∈ L.getD a [] := fun _ _ h3 =>
  ⟨(would_iff.mp hw).1, ((h.2 a ha).2.elim (fun e => absurd e h3) fun w => (would_iff.mp w).1)⟩
theorem Dx.pair {G : Hp} {v : V} {p : Nat × Nat} (h : Dx G v (eP p)) : ∃ t, v = .ref t ∧ G t = some (.tup [.int (p.1 : Int), .int (p.2 : Int)]) := by
  cases h with
  | tup h1 h2 =>
    cases h2 with
    | cons a b =>
      cases b with
      | cons c d =>
        cases d
        cases a
        cases c
        exact ⟨_, rfl, h1⟩
section
variable {P : Program} {w : World} {K : PySem.W.Frag} {mg : Str → Option Value} {base : Heap} {C : Addr}
abbrev spLists (K : PySem.W.Frag) (C : Addr) : Sp := spOfF (fun i : List (List Nat) => i.length ≤ 6) (fun i => [kCamp K C i]) (fun i => kD (eLL i))
theorem ok_lists {f : Addr} {fd : FuncData} (F : Fun K "lists" "Camp.lists" s_Camp_lists f fd) (T : Tx K mg C) : FnOk P w K mg base CX0 1 f fd ["self"] (spLists K C) := by
  refine fun_okF F sc_Camp_lists (fun _ => rfl) ?_
  rintro cdv A outer s H vs Q E L G hr hL al h k
  obtain ⟨_, rfl, ⟨p, rfl, hc⟩⟩ := al.one
  try dsimp only at hL hc k ⊢
  refine b_retF h (jf_lc (n := 1) (f0 := eNs) (xs := L) (f := eNs) (ji_list (by walk_at "jd")) (by omega) rfl sc_Camp_lists.nd rfl (fun _ _ _ _ _ => ⟨by walk_at "loc", by walk_at "loc"⟩) (by first | kernel_rfl | rfl) (fun _ => rfl) ?_) k
  intro s h C cl fp y hy G2 u e3 pu
  exact jf_listN T.list (by walk_at "jd") rfl (by decide +kernel) (by walk_at "ns")
abbrev spMates (K : PySem.W.Frag) (C : Addr) : Sp := spOfN (fun i : List (List Nat) × List (Nat × Nat) => i.1.length ≤ 6 ∧ ∀ p ∈ i.2, p.1 < i.1.length ∧ p.2 < i.1.length) (fun i => [kCamp K C i.1, kD (ePs i.2)]) (fun i => (matesOf i.1.length i.2).map eN)
theorem ok_mates {f : Addr} {fd : FuncData} (F : Fun K "mates_of" "mates_of" s_mates_of f fd) (T : Tx K mg C) : FnOk P w K mg base CX0 1 f fd ["camp", "pairs"] (spMates K C) := by
  refine fun_okN F sc_mates_of (fun _ => rfl) ?_
  rintro cdv A outer s H vs Q E ⟨L, ps⟩ G hr ⟨hL, hps⟩ al h k
  obtain ⟨_, pv, rfl, ⟨p, rfl, hc⟩, hp⟩ := al.two
  try dsimp only at hL hps hc hp k ⊢
  have nd := sc_mates_of.nd
  refine b_setNw (n := 2) h (jn_listRg rfl T.list T.range (by walk_at "jv") (by omega) rfl rfl (by walk_at "ns")) nd rfl (by walk_at "loc") rfl (Or.inl rfl) (fun G1 H1 l vs h1 e1 hd1 => ?_)
  refine b_for h1 (f := eP) (xs := ps) (ji_list (by walk_at "jd")) PassesOwn.never rfl (fun _ => rfl) (fun G2 H2 h2 e2 => ?_)
  refine ⟨fun pre σ' G' H' => ∃ ws o1 o2, σ' = [some (.ref p), some pv, some (.ref l), o1, o2] ∧ Hs G H G' H' [(l, .lst ws)] ∧ Ex G2 G' ∧ DxAll G' ws ((pre.foldl matesStep (List.range L.length)).map eN), ?_, ?_, ?_, ?_⟩
  · exact ⟨vs, none, none, rfl, h2, Ex.refl _, hd1.mono e2⟩
  · rintro pre σ' G' H' ⟨ws, o1, o2, rfl, hs, e, _⟩
    exact ⟨e, hs.ex⟩
  · rintro pre x post v σ' G' H' hxs ⟨ws, o1, o2, rfl, hs, e, hd⟩ pv2
    obtain ⟨t, rfl, ht⟩ := pv2.pair
    have hx : x.1 < L.length ∧ x.2 < L.length := hps x (by rw [hxs]; simp)
    have hl : ws.length = L.length := by rw [hd.length, List.length_map, foldl_mates_len, List.length_range]
    refine wg_pair (n := 3) (m := 4) rfl nd rfl (by walk_at "loc") (Or.inl rfl) rfl (by walk_at "loc") (Or.inl rfl) (SqT.of (hs.ex _ _ (e _ _ ht))) ?_ rfl rfl rfl rfl
    refine b_setItem (n := 2) (m := x.1) hs (d := eN x.2) (by walk_at "jd") rfl rfl (by walk_at "vis") (by walk_at "jv") (by omega) rfl rfl rfl rfl rfl (pg_sub pe_w pe_w set_list) (fun G3 H3 v3 h3 e3 d3 => ?_)
    refine b_setItem (n := 2) (m := x.2) h3 (d := eN x.1) (by walk_at "jd") rfl rfl (by walk_at "vis") (by walk_at "jv") (by rw [List.length_set]; omega) rfl rfl rfl rfl rfl (pg_sub pe_w pe_w set_list) (fun G4 H4 v4 h4 e4 d4 => ?_)
    refine b_nil ⟨G4, _, _, _, rfl, h4, (e.trans e3).trans e4, ?_⟩
    rw [List.foldl_append]
    show DxAll G4 _ ((matesStep (pre.foldl matesStep (List.range L.length)) x).map eN)
    unfold matesStep
    rw [List.map_set, List.map_set]
    exact (((hd.mono e3).set _ d3).mono e4).set _ d4
  · rintro σ' G' H' ⟨ws, o1, o2, rfl, hs, e, hd⟩
    exact b_retOwn (n := 2) rfl rfl (by walk_at "vis") rfl rfl (k _ _ _ _ _ hs hd)
def flatP (ps : List (Nat × Nat)) : List Nat := ps.flatMap fun p => [p.1, p.2]
abbrev spCheck (K : PySem.W.Frag) (C : Addr) : Sp := spOf (fun i : List (List Nat) × List (Nat × Nat) => i.1.length ≤ 6 ∧ OkP i.1 i.2 ∧ (flatP i.2).Nodup ∧ i.2.length ≤ 1000) (fun i => [kCamp K C i.1, kD (ePs i.2)]) (fun i => kV .non)
theorem flatP_len : ∀ ps : List (Nat × Nat), (flatP ps).length = 2 * ps.length
  | [] => rfl
  | p :: ps => by
    have ih := flatP_len ps
    have e : flatP (p :: ps) = p.1 :: p.2 :: flatP ps := rfl
    rw [e, List.length_cons, List.length_cons, List.length_cons, ih]
    omega
theorem ok_check {f : Addr} {fd : FuncData} (F : Fun K "check_pairs" "check_pairs" s_check_pairs f fd) (T : Tx K mg C) (W : Df P w K mg base "within" 1 spWithin) (M : Mt P w K mg base C "would" 1 (spWould K C)) : FnOk P w K mg base CX0 2 f fd ["camp", "pairs"] (spCheck K C) := by
  refine fun_ok F sc_check_pairs (fun _ => rfl) ?_
  rintro cdv A outer s H vs Q E ⟨L, ps⟩ G hr ⟨hL, hps, hnd, hlen⟩ al h k
  obtain ⟨_, pv, rfl, ⟨p, rfl, hc⟩, hp⟩ := al.two
  try dsimp only at hL hps hc hp hnd hlen k ⊢
  have nd := sc_check_pairs.nd
  refine' b_if (p := false) h (JT.is ?tt ?eq0) (fun e => by cases e) (fun _ H1 h1 => b_nil ?_)
  case tt => walk_at "jt"
  case eq0 => rfl
  refine b_setN (n := 2) h1 nd rfl (by walk_at "loc") (Or.inl rfl) (fun H1 l h1 => ?_)
  refine b_for h1 (f := eP) (xs := ps) (ji_list (by walk_at "jd")) PassesOwn.never rfl (fun _ => rfl) (fun G2 H2 h2 e2 => ?_)
  refine ⟨fun pre σ' G' H' => ∃ ws o1, σ' = [some (.ref p), some pv, some (.ref l), o1, none] ∧ Hs G H G' H' [(l, .lst ws)] ∧ Ex G2 G' ∧ DxAll G' ws ((flatP pre).map eN), ?_, ?_, ?_, ?_⟩
  · exact ⟨[], none, rfl, h2, Ex.refl _, .nil⟩
  · rintro pre σ' G' H' ⟨ws, o1, rfl, hs, e, _⟩
    exact ⟨e, hs.ex⟩
  · rintro pre x post v σ' G' H' hxs ⟨ws, o1, rfl, hs, e, hd⟩ pv2
    obtain ⟨x1, x2, hw⟩ := hps x (by rw [hxs]; simp)
    refine wg_name (n := 3) nd rfl (by walk_at "loc") (Or.inl rfl) ?_
    refine' b_if (p := false) hs (JT.is (jt_w (jw_or ?t1 (fun _ => jw_or ?t2 (fun _ => jw_one_or (jt_not (jt_val (jv_all rfl T.all (bs := [x.1, x.2].map fun y => withinD (eN y) 0 ((L.length : Int) - 1)) (JD.is (JN.toD (jn_lc (n := 4) (f0 := eN) (xs := [x.1, x.2]) (f := fun y => .bool (withinD (eN y) 0 ((L.length : Int) - 1))) (ji_tup ?ti) (by show 2 < 100000; decide) rfl nd rfl (fun _ _ _ _ _ => ⟨by walk_at "loc", by walk_at "loc"⟩) (by first | kernel_rfl | rfl) (fun _ => rfl) ?body)) ?eqm) rfl (by decide +kernel) (by walk_at "ns")) (fun _ => rfl))))))) ?eq) (fun e => by cases e) (fun _ H1 h1 => b_nil ?_)
    case t1 => walk_at "jt"
    case t2 => walk_at "jt"
    case ti =>
      have : Dx G' v (eP x) := pv2.mono e
      exact (JD.is (d1 := eP x) (by walk_at "jd") rfl)
    case body =>
      intro s h C cl fp y hy G2 u e3 pu
      cases pu
      walk_at "jd"
    case eqm => rw [List.map_map]; rfl
    case eq =>
      have z1 : withinD (eN x.1) 0 ((L.length : Int) - 1) = true := by simp [withinD]; omega
      have z2 : withinD (eN x.2) 0 ((L.length : Int) - 1) = true := by simp [withinD]; omega
      simp [z1, z2]
    refine' b_if (p := false) h1 (JT.is ?tt ?eq0) (fun e => by cases e) (fun _ H1 h1 => b_nil ?_)
    case tt =>
      have : Dx G' v (eP x) := pv2.mono e
      walk_at "jt"
    case eq0 => rw [hw]; rfl
    have hpx : Dx G' v (eP x) := pv2.mono e
    refine b_extendT (n := 2) h1 (ds := [x.1, x.2].map eN) rfl rfl (by walk_at "vis") (JD.is (d1 := eP x) (by walk_at "jd") rfl) ?_ rfl rfl (by walk_at "ns") rfl rfl rfl rfl (fun G3 H3 us h3 e3 hu => b_nil ⟨G3, ws ++ us, _, rfl, h3, e.trans e3, ?_⟩)
    · have a1 := hd.length
      have a2 := congrArg List.length hxs
      rw [List.length_append, List.length_cons] at a2
      rw [List.length_map, flatP_len] at a1
      rw [List.length_map]
      show _ + 2 ≤ _
      omega
    · have : flatP (pre ++ [x]) = flatP pre ++ [x.1, x.2] := by unfold flatP; rw [List.flatMap_append]; rfl
      rw [this, List.map_append]
      exact (hd.mono e3).append hu
  · rintro σ' G' H' ⟨ws, o1, rfl, hs, e, hd⟩
    obtain ⟨hf, e4⟩ := hs.fix
    have hm : Dx (upd G' l (.lst ws)) (.ref l) (eNs (flatP ps)) := .lst upd_same (hd.mono e4)
    refine' b_if (p := false) hf (JT.is (jt_cmp (jo_lt (jv_lenSet (ns := (flatP ps).map fun n : Nat => (n : Int)) rfl T.len T.set (JD.is ?dm ?eqs) ?len rfl rfl (by walk_at "ns")) ?l2) rfl) ?eq) (fun e => by cases e) (fun _ H1 h1 => b_nil (b_nil (k _ _ _ _ h1 rfl)))
    case dm => walk_at "jd"
    case eqs => rw [List.map_map]; rfl
    case len => rw [List.length_map, flatP_len]; omega
    case l2 => walk_at "jv"
    case eq =>
      have nd2 : ((flatP ps).map fun n : Nat => (n : Int)).Nodup := hnd.map (fun n : Nat => (n : Int)) fun a b hab h => hab (by have h2 : (a : Int) = (b : Int) := h; omega)
      rw [dedupI_nodup nd2, List.length_map]
      simp
end
section
variable {X : Cx} {σ : L2.St} {e o a b c : Expr} {es : List Expr} {G : Hp} {pos : Pos} {x : Str} {C p : Addr} {L : List (List Nat)} {ps : List (Nat × Nat)}
theorem jn_mates {ap : Pos} (M : Df X.prog X.w X.K X.mg X.base "mates_of" 1 (spMates X.K C)) (hr : Room 1 X.A) (ho : JV X σ o G (.ref p)) (hc : CampAt X.K C G p L) (ha : JD X σ a G (ePs ps)) (hL : L.length ≤ 6) (hp : ∀ p ∈ ps, p.1 < L.length ∧ p.2 < L.length) (hg : Gl X "mates_of") (no : NoStar o) (na : NoStar a)
    (hpl : (backTo pos (starEach [a] X.env)).any (·.1) = false) : JN X σ (.Call (.Name "mates_of" ap) [o, a] [] pos) G ((matesOf L.length ps).map eN) :=
  jn_call M hr hg (L, ps) ⟨hL, hp⟩ (jal_cons (ho.toP ⟨p, rfl, hc⟩) mo_Camp (fun _ e => jal_cons (ha.mono e).toP mo_D (fun _ _ => jal_nil) na) no) no (by decide) hpl
theorem jv_check {ap : Pos} (M : Df X.prog X.w X.K X.mg X.base "check_pairs" 2 (spCheck X.K C)) (hr : Room 2 X.A) (ho : JV X σ o G (.ref p)) (hc : CampAt X.K C G p L) (ha : JD X σ a G (ePs ps)) (hL : L.length ≤ 6) (hp : OkP L ps) (hnd : (flatP ps).Nodup) (hlen : ps.length ≤ 1000) (hg : Gl X "check_pairs") (no : NoStar o) (na : NoStar a)
    (hpl : (backTo pos (starEach [a] X.env)).any (·.1) = false) : JV X σ (.Call (.Name "check_pairs" ap) [o, a] [] pos) G .non :=
  (jp_call M hr hg (L, ps) ⟨hL, hp, hnd, hlen⟩ (jal_cons (ho.toP ⟨p, rfl, hc⟩) mo_Camp (fun _ e => jal_cons (ha.mono e).toP mo_D (fun _ _ => jal_nil) na) no) no (by decide) hpl).toV
end
end TP

set_option Elab.async false
set_option linter.all false
set_option maxRecDepth 100000
set_option maxHeartbeats 2000000
namespace TP
open PySem PySem.Spec PyProof.Rows L2
open Evl (Ex)
-- tactics of this text: what an expression is worth (jv jd jt jo jw), growth (ex), what remains (side); call, calld: what the text adds
local macro_rules | `(tactic| walk_at "ex") => `(tactic| first | exact Ex.refl _ | assumption | (refine' Ex.trans ?_ (by assumption); walk_at "ex"))
local macro_rules | `(tactic| walk_at "vis") => `(tactic| first
  | exact Or.inl rfl
  | exact Or.inr (Or.inl rfl)
  | exact Or.inr (Or.inr rfl))
local macro_rules | `(tactic| walk_at "loc") => `(tactic| first
  | exact Or.inl rfl
  | exact Or.inr rfl)
local macro_rules | `(tactic| walk_at "side") => `(tactic| first
  | assumption
  | omega
  | decide
  | exact rfl
  | (simp_all; done)
  | (simp_all; omega))
local macro_rules | `(tactic| walk_at "hu") => `(tactic| first
  | exact room65 (by assumption)
  | exact Room.units (by assumption))
local macro_rules | `(tactic| walk_at "dp") => `(tactic| first | assumption | (refine' Dx.mono ?_ (by assumption); walk_at "ex"))
local macro_rules | `(tactic| walk_at "var") => `(tactic| first
  | (apply jv_var 0; exact rfl; exact rfl; walk_at "vis"; decide; decide)
  | (apply jv_var 1; exact rfl; exact rfl; walk_at "vis"; decide; decide)
  | (apply jv_var 2; exact rfl; exact rfl; walk_at "vis"; decide; decide)
  | (apply jv_var 3; exact rfl; exact rfl; walk_at "vis"; decide; decide)
  | (apply jv_var 4; exact rfl; exact rfl; walk_at "vis"; decide; decide)
  | (apply jv_var 5; exact rfl; exact rfl; walk_at "vis"; decide; decide)
  | (apply jv_var 6; exact rfl; exact rfl; walk_at "vis"; decide; decide)
  | (apply jv_var 7; exact rfl; exact rfl; walk_at "vis"; decide; decide)
  | (apply jv_var 8; exact rfl; exact rfl; walk_at "vis"; decide; decide)
  | (apply jv_var 9; exact rfl; exact rfl; walk_at "vis"; decide; decide)
  | (apply jv_var 10; exact rfl; exact rfl; walk_at "vis"; decide; decide)
  | (apply jv_var 11; exact rfl; exact rfl; walk_at "vis"; decide; decide)
  | (apply jv_var 12; exact rfl; exact rfl; walk_at "vis"; decide; decide)
  | (apply jv_var 13; exact rfl; exact rfl; walk_at "vis"; decide; decide)
  | (apply jv_var 14; exact rfl; exact rfl; walk_at "vis"; decide; decide)
  | (apply jv_var 15; exact rfl; exact rfl; walk_at "vis"; decide; decide)
  | (apply jv_var 16; exact rfl; exact rfl; walk_at "vis"; decide; decide)
  | (apply jv_var 17; exact rfl; exact rfl; walk_at "vis"; decide; decide)
  | (apply jv_var 18; exact rfl; exact rfl; walk_at "vis"; decide; decide)
  | (apply jv_var 19; exact rfl; exact rfl; walk_at "vis"; decide; decide))
local macro_rules | `(tactic| walk_at "bm") => `(tactic| first
  | assumption)
local macro_rules | `(tactic| walk_at "call") => `(tactic| first
  | fail "call")
local macro_rules | `(tactic| walk_at "calld") => `(tactic| first
  | fail "calld")
local macro_rules | `(tactic| walk_at "kit") => `(tactic| first
  | assumption
  | exact kit_ii
  | exact kit_ib
  | exact kit_bi
  | exact kit_bb
  | exact kit_li
  | exact kit_ll
  | exact kit_tt
  | exact kit_tl
  | exact kit_lt
  | exact kit_tb)
local macro_rules | `(tactic| walk_at "ns") => `(tactic| first
  | exact fun _ _ => rfl)
local macro_rules | `(tactic| walk_at "jv") => `(tactic| first
  | exact jv_int
  | exact jv_bl
  | exact jv_non
  | exact jv_str
  | walk_at "var"
  | (apply jv_add; walk_at "jv"; walk_at "jv")
  | (apply jv_sub; walk_at "jv"; walk_at "jv")
  | (apply jv_neg; walk_at "jv")
  | (apply jv_mul; walk_at "jv"; walk_at "jv"; walk_at "mulok")
  | (apply jv_fdiv; walk_at "jv"; walk_at "jv"; walk_at "divok")
  | (apply jv_mod; walk_at "jv"; walk_at "jv"; walk_at "side")
  | (apply jv_band; walk_at "jv"; walk_at "jv")
  | (apply jv_cmp; walk_at "jo"; (first | exact rfl | exact nomark _))
  | (apply jv_chain op_le op_le; walk_at "jv"; walk_at "jv"; walk_at "jv"; with_unfolding_all rfl)
  | (apply jv_chain op_le op_lt; walk_at "jv"; walk_at "jv"; walk_at "jv"; with_unfolding_all rfl)
  | (apply jv_and; walk_at "jv"; intro hand; walk_at "jv")
  | (apply jv_or; walk_at "jv"; intro hor; walk_at "jv")
  | (apply jv_not; walk_at "jv")
  | (apply jv_one; walk_at "jv")
  | (apply jv_lenM; walk_at "bm"; walk_at "jd"; exact rfl; walk_at "ns")
  | (apply jv_len; walk_at "bm"; walk_at "jd"; exact rfl; walk_at "ns")
  | (apply jv_all; exact rfl; walk_at "bm"; walk_at "jd"; exact rfl; decide +kernel; walk_at "ns")
  | (apply jv_any; exact rfl; walk_at "bm"; walk_at "jd"; exact rfl; decide +kernel; walk_at "ns")
  | (apply jv_lenT; walk_at "bm"; walk_at "jd"; exact rfl; walk_at "ns")
  | walk_at "call"
  | (apply jv_isi; (first | exact boot_tint | exact boot_tbool | exact boot_tlist | exact boot_ttuple); walk_at "bm"; walk_at "bm"; walk_at "jd"; walk_at "kit"; exact rfl; exact rfl; exact boot_isi; walk_at "ns"; decide; decide)
  | (apply jv_lenSet; exact rfl; walk_at "bm"; walk_at "bm"; walk_at "jd"; walk_at "side"; exact rfl; exact rfl; walk_at "ns")
  | (apply jv_ifE; walk_at "jt"; intro hif; walk_at "jv"; intro hif; walk_at "jv")
  | (apply JD.toI; walk_at "jx")
  | (apply JD.toB; walk_at "jx")
  | (apply JD.toS; walk_at "jx"))
local macro_rules | `(tactic| walk_at "mulok") => `(tactic| first
  | exact Or.inr ⟨by decide, by decide⟩
  | exact Or.inl ⟨by decide, by decide⟩
  | exact Or.inl ⟨by omega, by omega⟩
  | exact Or.inr ⟨by omega, by omega⟩)
local macro_rules | `(tactic| walk_at "divok") => `(tactic| first
  | exact ⟨by decide, by decide⟩
  | exact ⟨by omega, by omega⟩)
local macro_rules | `(tactic| walk_at "jx") => `(tactic| first
  | (apply jd_ixN; walk_at "jd"; walk_at "jv"; exact fun _ _ => rfl; walk_at "side")
  | (apply jd_ixNs; walk_at "jd"; walk_at "jv"; exact fun _ _ => rfl; walk_at "side")
  | (apply jd_ixP; walk_at "jd"; walk_at "jv"; exact fun _ _ => rfl; walk_at "side")
  | (apply jd_ixPs; walk_at "jd"; walk_at "jv"; exact fun _ _ => rfl; walk_at "side")
  | (apply jd_ixI; walk_at "jd"; walk_at "jv"; exact fun _ _ => rfl; walk_at "side")
  | (apply jd_ixP1; walk_at "jd")
  | (apply jd_ixP2; walk_at "jd")
  | walk_at "calld")
local macro_rules | `(tactic| walk_at "jd") => `(tactic| first
  | (apply JV.toD; walk_at "var"; walk_at "dp")
  | walk_at "jx"
  | (apply jd_list; walk_at "jad"; exact Nat.le_of_ble_eq_true rfl)
  | (apply jd_tuple; walk_at "jad"; exact Nat.le_of_ble_eq_true rfl)
  | (apply jd_listOf; walk_at "bm"; walk_at "jd"; exact rfl; exact boot_tlist; walk_at "ns")
  | (apply JV.toD (v := V.int _); walk_at "jv"; exact Dx.int _)
  | (apply JV.toD (v := V.bl _); walk_at "jv"; exact Dx.bl _)
  | (apply JV.toD (v := V.str _); walk_at "jv"; exact Dx.str _)
  | (apply jd_ifE; walk_at "jt"; intro hif; walk_at "jd"; intro hif; walk_at "jd"))
local macro_rules | `(tactic| walk_at "jad") => `(tactic| first
  | exact jad_nil
  | (apply jad_cons; walk_at "jd"; walk_at "jad"; walk_at "ns"))
local macro_rules | `(tactic| walk_at "jo") => `(tactic| first
  | (apply jo_isN; walk_at "jv")
  | (apply jo_notN; walk_at "jv")
  | (apply jo_eqI; walk_at "jv"; walk_at "jv")
  | (apply jo_neI; walk_at "jv"; walk_at "jv")
  | (apply jo_lt; walk_at "jv"; walk_at "jv")
  | (apply jo_le; walk_at "jv"; walk_at "jv")
  | (apply jo_gt; walk_at "jv"; walk_at "jv")
  | (apply jo_ge; walk_at "jv"; walk_at "jv")
  | (apply jo_inN; walk_at "hu"; walk_at "jv"; walk_at "jd")
  | (apply jo_niN; walk_at "hu"; walk_at "jv"; walk_at "jd")
  | (apply jo_eqD; walk_at "hu"; walk_at "jd"; walk_at "jd"; walk_at "shp"; walk_at "shp")
  | (apply jo_neD; walk_at "hu"; walk_at "jd"; walk_at "jd"; walk_at "shp"; walk_at "shp"))
local macro_rules | `(tactic| walk_at "shp") => `(tactic| first
  | assumption
  | exact Shp.shaped eLL _
  | exact Shp.shaped ePs _
  | exact Shp.shaped eNs _
  | exact Shp.shaped ePss _
  | exact Shp.shaped eP _
  | exact Shp.shaped eN _
  | exact Shp.shaped eI _
  | decide)
local macro_rules | `(tactic| walk_at "jw") => `(tactic| first
  | (apply jw_one_and; walk_at "jt")
  | (apply jw_one_or; walk_at "jt")
  | (apply jw_and; walk_at "jt"; intro hand; walk_at "jw")
  | (apply jw_or; walk_at "jt"; intro hor; walk_at "jw"))
local macro_rules | `(tactic| walk_at "jt") => `(tactic| first
  | (apply jt_w; walk_at "jw")
  | (apply jt_cmp; walk_at "jo"; (first | exact rfl | exact nomark _))
  | (apply jt_not; walk_at "jt")
  | (apply jt_val; walk_at "jv"; exact fun _ => rfl)
  | (apply jt_chain op_le op_le; walk_at "jv"; walk_at "jv"; walk_at "jv"; with_unfolding_all rfl))
local macro_rules | `(tactic| walk_at "camp") => `(tactic| first | assumption | (refine' CampAt.mono ?_ (by assumption); walk_at "ex"))
local macro_rules | `(tactic| walk_at "calld") => `(tactic| first
  | (apply jd_told; assumption; walk_at "var"; walk_at "camp"; exact rfl)
  | walk_at "calld2")
local macro_rules | `(tactic| walk_at "calld2") => `(tactic| first
  | fail "calld2")
local macro_rules | `(tactic| walk_at "room") => `(tactic| first
  | assumption
  | exact Room.mono (by assumption) (by decide))
local macro_rules | `(tactic| walk_at "bm") => `(tactic| first
  | assumption
  | exact Tx.len (by assumption)
  | exact Tx.range (by assumption)
  | exact Tx.list (by assumption)
  | exact Tx.all (by assumption)
  | exact Tx.any (by assumption)
  | exact Tx.isi (by assumption)
  | exact Tx.int (by assumption)
  | exact Tx.bool (by assumption)
  | exact Tx.set (by assumption)
  | exact Tx.tup (by assumption))
local macro_rules | `(tactic| walk_at "call") => `(tactic| first
  | (apply jv_size; assumption; walk_at "var"; walk_at "camp"; exact rfl)
  | (apply jv_index; walk_at "hu"; walk_at "jd"; walk_at "jv"; walk_at "side"; walk_at "ns"; exact rfl; exact rfl; exact rfl)
  | (apply jv_would; assumption; assumption; walk_at "room"; walk_at "var"; walk_at "camp"; walk_at "jv"; walk_at "jv"; walk_at "side"; walk_at "side"; walk_at "ns"; walk_at "ns"; exact rfl; exact rfl)
  | walk_at "call2")
local macro_rules | `(tactic| walk_at "call2") => `(tactic| first
  | fail "call2")
local macro_rules | `(tactic| walk_at "call2") => `(tactic| first
  | (apply jv_rather; assumption; assumption; walk_at "room"; walk_at "var"; walk_at "camp"; walk_at "jv"; walk_at "jv"; walk_at "jv"; walk_at "side"; walk_at "side"; walk_at "ns"; walk_at "ns"; walk_at "ns"; exact rfl; exact rfl)
  | (apply jv_check; assumption; walk_at "room"; walk_at "var"; walk_at "camp"; walk_at "jd"; walk_at "side"; assumption; assumption; assumption; exact rfl; walk_at "ns"; walk_at "ns"; exact rfl))
local macro_rules | `(tactic| walk_at "calld2") => `(tactic| first
  | (apply jd_open; assumption; walk_at "room"; walk_at "var"; walk_at "camp"; walk_at "side"; exact rfl; walk_at "ns"; exact rfl))
section
variable {P : Program} {w : World} {K : PySem.W.Frag} {mg : Str → Option Value} {base : Heap} {C : Addr}
abbrev spBreaking (K : PySem.W.Frag) (C : Addr) : Sp := spOfN (fun i : List (List Nat) × List (Nat × Nat) => i.1.length ≤ 6 ∧ OkP i.1 i.2 ∧ (flatP i.2).Nodup ∧ i.2.length ≤ 1000) (fun i => [kCamp K C i.1, kD (ePs i.2)]) (fun i => (breakingL i.1 i.2).map eP)
theorem ok_breaking {f : Addr} {fd : FuncData} (F : Fun K "breaking" "breaking" s_breaking f fd) (T : Tx K mg C) (MC : Df P w K mg base "check_pairs" 2 (spCheck K C)) (MM : Df P w K mg base "mates_of" 1 (spMates K C)) (MO : Df P w K mg base "open_pairs" 2 (spOpen K C)) (MR : Mt P w K mg base C "rather" 1 (spRather K C)) :
    FnOk P w K mg base CX0 3 f fd ["camp", "pairs"] (spBreaking K C) := by
  refine fun_okN F sc_breaking (fun _ => rfl) ?_
  rintro cdv A outer s H vs Q E ⟨L, ps⟩ G hr ⟨hL, hps, hnd, hlen⟩ al h k
  obtain ⟨_, pv, rfl, ⟨p, rfl, hc⟩, hp⟩ := al.two
  try dsimp only at hL hps hc hp hnd hlen k ⊢
  have nd := sc_breaking.nd
  have hps2 : ∀ q ∈ ps, q.1 < L.length ∧ q.2 < L.length := fun q hq => ⟨(hps q hq).1, (hps q hq).2.1⟩
  refine b_expr h ((show JV _ _ _ _ V.non from by walk_at "jv").toP trivial) rfl (fun G1 H1 h1 e1 => ?_)
  refine b_setD (n := 2) h1 (d := eNs (matesOf L.length ps)) (JN.toD (jn_mates MM (hr.mono (by decide)) (by walk_at "var") (by walk_at "camp") (by walk_at "jd") hL hps2 rfl (by walk_at "ns") (by walk_at "ns") rfl)) nd rfl (by walk_at "loc") rfl (Or.inl rfl) (fun G2 H2 m h2 e2 hm => ?_)
  refine b_setN (n := 3) h2 nd rfl (by walk_at "loc") (Or.inl rfl) (fun H3 l h3 => ?_)
  refine b_for h3 (f := eP) (xs := openPairs L) (ji_list (by walk_at "jd")) PassesOwn.never rfl (fun _ => rfl) (fun G3 H4 h4 e3 => ?_)
  refine ⟨fun pre σ' G' H' => ∃ ws o1 o2, σ' = [some (.ref p), some pv, some m, some (.ref l), o1, o2] ∧ Hs G H G' H' [(l, .lst ws)] ∧ Ex G3 G' ∧ DxAll G' ws ((pre.filter (blocks L (matesOf L.length ps))).map eP), ?_, ?_, ?_, ?_⟩
  · exact ⟨[], none, none, rfl, h4, Ex.refl _, .nil⟩
  · rintro pre σ' G' H' ⟨ws, o1, o2, rfl, hs, e, _⟩
    exact ⟨e, hs.ex⟩
  · rintro pre x post v σ' G' H' hxs ⟨ws, o1, o2, rfl, hs, e, hd⟩ pv2
    obtain ⟨t, rfl, ht⟩ := pv2.pair
    have hx : x ∈ openPairs L := by rw [hxs]; simp
    obtain ⟨x1, x2, hw⟩ := mem_open.mp hx
    have x3 : x.1 < L.length := by omega
    have okm := okM_mates hps
    have ml : (matesOf L.length ps).length = L.length := matesOf_len _ _
    have r1 := rather_ok okm x3 hw
    have r2 := rather_ok okm x2 (by rw [would_symm]; exact hw)
    have m1 : x.1 < (matesOf L.length ps).length := by omega
    have m2 : x.2 < (matesOf L.length ps).length := by omega
    refine wg_pair (n := 4) (m := 5) rfl nd rfl (by walk_at "loc") (Or.inl rfl) rfl (by walk_at "loc") (Or.inl rfl) (SqT.of (hs.ex _ _ (e _ _ ht))) ?_ rfl rfl rfl rfl
    refine b_if (p := blocks L (matesOf L.length ps) x) hs (by unfold blocks; walk_at "jt") (fun hb H5 h5 => ?_) (fun hb H5 h5 => ?_)
    · refine b_append (n := 3) (d := eP x) h5 rfl rfl (by walk_at "vis") (by walk_at "jd") ?_ rfl rfl (by walk_at "ns") rfl rfl rfl rfl (fun G6 H6 v6 h6 e6 d6 => b_nil (b_nil ⟨G6, _, _, _, rfl, h6, e.trans e6, ?_⟩))
      · have a1 := hd.length
        have a2 := congrArg List.length hxs
        rw [List.length_append, List.length_cons] at a2
        have a3 := List.length_filter_le (blocks L (matesOf L.length ps)) pre
        have a4 := len_flatMap (f := openRow L) (n := L.length) (List.range L.length) fun y _ => openRow_len L y
        have a5 : (List.range L.length).length * L.length ≤ 6 * 6 := Nat.mul_le_mul (by rw [List.length_range]; exact hL) hL
        have a6 : (openPairs L).length ≤ 36 := Nat.le_trans a4 a5
        rw [List.length_map] at a1
        omega
      · rw [List.filter_append, List.filter_cons_of_pos hb, List.filter_nil, List.map_append]
        exact (hd.mono e6).snoc d6
    · refine b_nil (b_nil ⟨G', ws, _, _, rfl, h5, e, ?_⟩)
      rw [List.filter_append, List.filter_cons_of_neg (by rw [hb]; decide), List.filter_nil, List.append_nil]
      exact hd
  · rintro σ' G' H' ⟨ws, o1, o2, rfl, hs, e, hd⟩
    exact b_retOwn (n := 3) rfl rfl (by walk_at "vis") rfl rfl (k _ _ _ _ _ hs hd)
end
section
variable {X : Cx} {σ : L2.St} {e o a b c : Expr} {es : List Expr} {G : Hp} {pos : Pos} {x : Str} {C p : Addr} {L : List (List Nat)} {ps : List (Nat × Nat)}
theorem jn_breaking {ap : Pos} (M : Df X.prog X.w X.K X.mg X.base "breaking" 3 (spBreaking X.K C)) (hr : Room 3 X.A) (ho : JV X σ o G (.ref p)) (hc : CampAt X.K C G p L) (ha : JD X σ a G (ePs ps)) (hL : L.length ≤ 6) (hp : OkP L ps) (hnd : (flatP ps).Nodup) (hlen : ps.length ≤ 1000) (hg : Gl X "breaking") (no : NoStar o) (na : NoStar a)
    (hpl : (backTo pos (starEach [a] X.env)).any (·.1) = false) : JN X σ (.Call (.Name "breaking" ap) [o, a] [] pos) G ((breakingL L ps).map eP) :=
  jn_call M hr hg (L, ps) ⟨hL, hp, hnd, hlen⟩ (jal_cons (ho.toP ⟨p, rfl, hc⟩) mo_Camp (fun _ e => jal_cons (ha.mono e).toP mo_D (fun _ _ => jal_nil) na) no) no (by decide) hpl
theorem jf_lists {ap : Pos} {pl : Sem Bool} (T : Tx X.K X.mg C) (M : Mt X.prog X.w X.K X.mg X.base C "lists" 1 (spLists X.K C)) (hr : Room 1 X.A) (ho : JV X σ o G (.ref p)) (hc : CampAt X.K C G p L) (hL : L.length ≤ 6)
    (ht : eval (.Call (.Attribute o "lists" ap) [] [] pos) X.env = (do
      let ov ← eval o X.env
      standAt ap.atName
      let (f, first) ← holding [ov] (getMethod ov "lists" pl)
      callWith pos f first (backTo pos (starEach [] X.env)) (backToKw pos (keywordEach [] X.env)))) : JPF X σ (.Call (.Attribute o "lists" ap) [] [] pos) G (kD (eLL L)) := by
  obtain ⟨t, h1, h2⟩ := hc
  exact jf_meth0 M T.cl ho h1 (campA_no _ _ (by decide +kernel) (by decide +kernel)) hr L hL (P0 := kCamp X.K C L) rfl ⟨p, rfl, t, h1, h2⟩ ht
theorem jf_camp {ap : Pos} (T : Tx X.K X.mg C) (M : Mkr X.prog X.w X.K X.mg X.base C 2 (spCamp C)) (hr : Room 3 X.A) (ha : JD X σ a G (eLL L)) (hv : ValidL L) (hg : Gl X "Camp") (na : NoStar a)
    (hpl : (backTo pos (starEach [] X.env)).any (·.1) = false) : JPF X σ (.Call (.Name "Camp" ap) [a] [] pos) G (kCamp X.K C L) := ⟨fun H eh Q q =>
  (jp_make M hr hg T.mgC L hv (jal_cons ha.toP mo_D (fun _ _ => jal_nil) na) na (by decide) hpl (fun F F' fs e ⟨t, h1, h2⟩ => ⟨t, h1, h2.mono e⟩)) H eh Q fun G' H' v F s eF fr ⟨xx, dx, fs, e1, e2, t, h1, h2⟩ => q G' H' v F s eF fr ⟨xx, e1, t, ⟨dx, fs, e2, h1⟩, h2⟩⟩
end
end TP

set_option Elab.async false
set_option linter.all false
namespace Tan
/-! ### whole numbers below n: small tools -/
theorem nd_sub : ∀ (l m : List Nat), l.Nodup → (∀ x ∈ l, x ∈ m) → l.length ≤ m.length
  | [], _, _, _ => Nat.zero_le _
  | x :: l, m, nd, h => by
    have hx := h x List.mem_cons_self
    have n := List.nodup_cons.mp nd
    have ih := nd_sub l (m.erase x) n.2 fun y hy => (List.mem_erase_of_ne (fun e => n.1 (by rw [← e]; exact hy))).mpr (h y (List.mem_cons_of_mem _ hy))
    rw [List.length_erase_of_mem hx] at ih
    have := List.length_pos_of_mem hx
    rw [List.length_cons]
    omega
theorem nd_lt {n : Nat} {l : List Nat} (nd : l.Nodup) (h : ∀ x ∈ l, x < n) : l.length ≤ n := by
  have := nd_sub l (List.range n) nd fun x hx => List.mem_range.mpr (h x hx)
  rwa [List.length_range] at this
theorem map_nd {f : Nat → Nat} : ∀ {l : List Nat}, l.Nodup → (∀ x ∈ l, ∀ y ∈ l, f x = f y → x = y) → (l.map f).Nodup
  | [], _, _ => List.nodup_nil
  | x :: l, nd, h => by
    have n := List.nodup_cons.mp nd
    rw [List.map_cons]
    refine List.nodup_cons.mpr ⟨fun z => ?_, map_nd n.2 fun a ha b hb => h a (List.mem_cons_of_mem _ ha) b (List.mem_cons_of_mem _ hb)⟩
    obtain ⟨y, hy, e⟩ := List.mem_map.mp z
    have := h y (List.mem_cons_of_mem _ hy) x List.mem_cons_self e
    exact n.1 (this ▸ hy)
theorem range_nd (n : Nat) : (List.range n).Nodup := List.nodup_range
theorem surj_of_inj {n : Nat} {f : Nat → Nat} (h1 : ∀ i, i < n → f i < n) (h2 : ∀ i j, i < n → j < n → f i = f j → i = j) : ∀ j, j < n → ∃ i, i < n ∧ f i = j := by
  intro j hj
  refine Classical.byContradiction fun no => ?_
  have nd : ((List.range n).map f).Nodup := map_nd (range_nd n) fun x hx y hy => h2 x y (List.mem_range.mp hx) (List.mem_range.mp hy)
  have nin : j ∉ (List.range n).map f := fun z => by
    obtain ⟨i, hi, e⟩ := List.mem_map.mp z
    exact no ⟨i, List.mem_range.mp hi, e⟩
  have := nd_lt (n := n) (List.nodup_cons.mpr ⟨nin, nd⟩) fun x hx => by
    rcases List.mem_cons.mp hx with rfl | hx
    · exact hj
    · obtain ⟨i, hi, e⟩ := List.mem_map.mp hx
      rw [← e]
      exact h1 i (List.mem_range.mp hi)
  rw [List.length_cons, List.length_map, List.length_range] at this
  omega
theorem inv_of_inj {n : Nat} {f : Nat → Nat} (h1 : ∀ i, i < n → f i < n) (h2 : ∀ i j, i < n → j < n → f i = f j → i = j) : ∃ g : Nat → Nat, ∀ i, i < n → g i < n ∧ g (f i) = i ∧ f (g i) = i := by
  have hs := surj_of_inj h1 h2
  have : ∀ j : Nat, ∃ i, j < n → i < n ∧ f i = j := fun j => by
    by_cases hj : j < n
    · obtain ⟨i, h⟩ := hs j hj
      exact ⟨i, fun _ => h⟩
    · exact ⟨0, fun z => absurd z hj⟩
  obtain ⟨g, hg⟩ := Classical.axiomOfChoice this
  refine ⟨g, fun i hi => ⟨(hg i hi).1, ?_, (hg i hi).2⟩⟩
  have := hg (f i) (h1 i hi)
  exact h2 _ _ this.1 hi this.2
theorem inj_of_surj {n : Nat} {f : Nat → Nat} (h : ∀ j, j < n → ∃ i, i < n ∧ f i = j) : ∀ i j, i < n → j < n → f i = f j → i = j := by
  have : ∀ j : Nat, ∃ i, j < n → i < n ∧ f i = j := fun j => by
    by_cases hj : j < n
    · obtain ⟨i, hi⟩ := h j hj
      exact ⟨i, fun _ => hi⟩
    · exact ⟨0, fun z => absurd z hj⟩
  obtain ⟨g, hg⟩ := Classical.axiomOfChoice this
  have gi : ∀ i j, i < n → j < n → g i = g j → i = j := fun i j hi hj e => by rw [← (hg i hi).2, ← (hg j hj).2, e]
  have gs := surj_of_inj (fun i hi => (hg i hi).1) gi
  intro i j hi hj e
  obtain ⟨a, ha, rfl⟩ := gs i hi
  obtain ⟨b, hb, rfl⟩ := gs j hj
  rw [(hg a ha).2, (hg b hb).2] at e
  rw [e]
/-- the greatest by a measure that has a bound -/
theorem exists_max {α : Type} {P : α → Prop} (m : α → Nat) (B : Nat) (h : ∃ a, P a) (hb : ∀ a, P a → m a ≤ B) : ∃ a, P a ∧ ∀ b, P b → m b ≤ m a := by
  obtain ⟨a, ha⟩ := h
  have : ∀ k a, P a → B - m a ≤ k → ∃ a, P a ∧ ∀ b, P b → m b ≤ m a := by
    intro k
    induction k with
    | zero =>
      intro a ha hk
      refine ⟨a, ha, fun b q => ?_⟩
      have := hb b q
      omega
    | succ k ih =>
      intro a ha hk
      by_cases q : ∃ b, P b ∧ m a < m b
      · obtain ⟨b, hb1, hb2⟩ := q
        have := hb b hb1
        exact ih b hb1 (by omega)
      · refine ⟨a, ha, fun b hb1 => ?_⟩
        refine Nat.le_of_not_lt fun z => q ⟨b, hb1, z⟩
  exact this _ a ha (Nat.le_refl _)
/-- the least by a measure -/
theorem exists_min {α : Type} {P : α → Prop} (m : α → Nat) (h : ∃ a, P a) : ∃ a, P a ∧ ∀ b, P b → m a ≤ m b := by
  obtain ⟨a, ha⟩ := h
  have : ∀ k a, P a → m a ≤ k → ∃ a, P a ∧ ∀ b, P b → m a ≤ m b := by
    intro k
    induction k with
    | zero => intro a ha hk; exact ⟨a, ha, fun b _ => by omega⟩
    | succ k ih =>
      intro a ha hk
      by_cases q : ∃ b, P b ∧ m b < m a
      · obtain ⟨b, hb1, hb2⟩ := q
        exact ih b hb1 (by omega)
      · exact ⟨a, ha, fun b hb1 => Nat.le_of_not_lt fun z => q ⟨b, hb1, z⟩⟩
  exact this _ a ha (Nat.le_refl _)
def S (u : Nat → Nat) : Nat → Nat
  | 0 => 0
  | n + 1 => S u n + u n
theorem S_le {u v : Nat → Nat} : ∀ n, (∀ i, i < n → u i ≤ v i) → S u n ≤ S v n
  | 0, _ => Nat.le_refl _
  | n + 1, h => Nat.add_le_add (S_le n fun i hi => h i (by omega)) (h n (by omega))
theorem S_lt {u v : Nat → Nat} : ∀ n, (∀ i, i < n → u i ≤ v i) → (∃ i, i < n ∧ u i < v i) → S u n < S v n
  | 0, _, ⟨i, hi, _⟩ => absurd hi (by omega)
  | n + 1, h, ⟨i, hi, hl⟩ => by
    have h1 := S_le n fun i hi => h i (by omega)
    have h2 := h n (by omega)
    by_cases e : i = n
    · subst e
      exact Nat.add_lt_add_of_le_of_lt h1 hl
    · exact Nat.add_lt_add_of_lt_of_le (S_lt n (fun i hi => h i (by omega)) ⟨i, by omega, hl⟩) h2
theorem S_bound {u : Nat → Nat} {B : Nat} : ∀ n, (∀ i, i < n → u i ≤ B) → S u n ≤ n * B
  | 0, _ => Nat.zero_le _
  | n + 1, h => by
    rw [Nat.succ_mul]
    exact Nat.add_le_add (S_bound n fun i hi => h i (by omega)) (h n (by omega))
end Tan

set_option Elab.async false
set_option linter.all false
namespace Tan
/-! ### stable ways to follow one another: f the next, g the last; each has a strict order (rk, the less the better) of all -/
structure Rk (n : Nat) (rk : Nat → Nat → Nat) (B : Nat) : Prop where
  inj : ∀ i j k, i < n → j < n → k < n → rk i j = rk i k → j = k
  le : ∀ i j, i < n → j < n → rk i j ≤ B
structure Inv (n : Nat) (f g : Nat → Nat) : Prop where
  lf : ∀ i, i < n → f i < n
  lg : ∀ i, i < n → g i < n
  gf : ∀ i, i < n → g (f i) = i
  fg : ∀ i, i < n → f (g i) = i
structure Stb (n : Nat) (rk : Nat → Nat → Nat) (f g : Nat → Nat) : Prop where
  toInv : Inv n f g
  st : ∀ i j, i < n → j < n → rk i j < rk i (f i) → ¬ rk j i < rk j (g j)
variable {n B : Nat} {rk : Nat → Nat → Nat}
theorem Inv.finj {f g : Nat → Nat} (h : Inv n f g) {i j : Nat} (hi : i < n) (hj : j < n) (e : f i = f j) : i = j := by rw [← h.gf i hi, ← h.gf j hj, e]
theorem Inv.ginj {f g : Nat → Nat} (h : Inv n f g) {i j : Nat} (hi : i < n) (hj : j < n) (e : g i = g j) : i = j := by rw [← h.fg i hi, ← h.fg j hj, e]
theorem Inv.mk' {f : Nat → Nat} (h1 : ∀ i, i < n → f i < n) (h2 : ∀ i j, i < n → j < n → f i = f j → i = j) : ∃ g, Inv n f g := by
  obtain ⟨g, hg⟩ := inv_of_inj h1 h2
  exact ⟨g, h1, fun i hi => (hg i hi).1, fun i hi => (hg i hi).2.1, fun i hi => (hg i hi).2.2⟩
theorem Stb.mirror {f g : Nat → Nat} (h : Stb n rk f g) : Stb n rk g f :=
  { toInv := { lf := h.toInv.lg, lg := h.toInv.lf, gf := h.toInv.fg, fg := h.toInv.gf }, st := fun i j hi hj h1 h2 => h.st j i hj hi h2 h1 }
/-- what all have asked in vain has a better one -/
def Ask (n : Nat) (rk : Nat → Nat → Nat) (p : Nat → Nat) : Prop := (∀ i, i < n → p i < n) ∧ ∀ i j, i < n → j < n → rk i j < rk i (p i) → ∃ a, a < n ∧ p a = j ∧ rk j a < rk j i
theorem best (h : Rk n rk B) {i : Nat} {Q : Nat → Prop} (q : ∃ j, j < n ∧ Q j) : ∃ j, (j < n ∧ Q j) ∧ ∀ k, k < n ∧ Q k → rk i j ≤ rk i k := exists_min (P := fun j => j < n ∧ Q j) (fun j => rk i j) q
theorem ask_first (h : Rk n rk B) : ∃ p, Ask n rk p := by
  have : ∀ i : Nat, ∃ j, i < n → j < n ∧ ∀ k, k < n → rk i j ≤ rk i k := fun i => by
    by_cases hi : i < n
    · obtain ⟨j, h1, h2⟩ := best h (i := i) (Q := fun _ => True) ⟨i, hi, trivial⟩
      exact ⟨j, fun _ => ⟨h1.1, fun k hk => h2 k ⟨hk, trivial⟩⟩⟩
    · exact ⟨0, fun z => absurd z hi⟩
  obtain ⟨p, hp⟩ := Classical.axiomOfChoice this
  refine ⟨p, fun i hi => (hp i hi).1, fun i j hi hj z => ?_⟩
  have := (hp i hi).2 j hj
  omega
theorem exists_stb (h : Rk n rk B) : ∃ f g, Stb n rk f g := by
  obtain ⟨p, ⟨hp, hask⟩, hmax⟩ := exists_max (P := Ask n rk) (fun p => S (fun i => rk i (p i)) n) (n * B) (ask_first h) fun p hp => S_bound n fun i hi => h.le i (p i) hi (hp.1 i hi)
  -- two who ask the same: the worse one goes on
  have key : ∀ a b, a < n → b < n → p a = p b → rk (p a) a < rk (p a) b → False := fun a b ha hb e hlt => by
    have hj := hp a ha
    by_cases q : ∃ k, k < n ∧ rk b (p b) < rk b k
    · obtain ⟨k, ⟨hk, hk2⟩, hmin⟩ := best h (i := b) q
      have ask2 : Ask n rk (fun i => if i = b then k else p i) := by
        refine ⟨fun i hi => ?_, fun i j hi hj2 z => ?_⟩
        · dsimp only
          by_cases e2 : i = b
          · rw [if_pos e2]; exact hk
          · rw [if_neg e2]; exact hp i hi
        · dsimp only at z ⊢
          have nab : a ≠ b := fun z => by rw [z] at hlt; exact Nat.lt_irrefl _ hlt
          have give : ∀ c, c < n → p c = j → rk j c < rk j i → ∃ a, a < n ∧ (if a = b then k else p a) = j ∧ rk j a < rk j i := fun c hc ec lc => by
            by_cases e3 : c = b
            · subst e3
              rw [ec] at e
              subst e
              exact ⟨a, ha, by rw [if_neg nab], by omega⟩
            · exact ⟨c, hc, by rw [if_neg e3]; exact ec, lc⟩
          by_cases e2 : i = b
          · subst e2
            rw [if_pos rfl] at z
            by_cases l : rk i j < rk i (p i)
            · obtain ⟨c, hc, ec, lc⟩ := hask i j hi hj2 l
              exact give c hc ec lc
            · have : rk i j = rk i (p i) := by
                by_cases l2 : rk i (p i) < rk i j
                · have := hmin j ⟨hj2, l2⟩
                  omega
                · omega
              have ej := h.inj i j (p i) hi hj2 (hp i hi) this
              subst ej
              exact ⟨a, ha, by rw [if_neg nab]; exact e, by rw [← e]; exact hlt⟩
          · rw [if_neg e2] at z
            obtain ⟨c, hc, ec, lc⟩ := hask i j hi hj2 z
            exact give c hc ec lc
      have hm := hmax _ ask2
      have lt : S (fun i => rk i (p i)) n < S (fun i => rk i ((fun i => if i = b then k else p i) i)) n := S_lt n (fun i hi => by
        dsimp only
        by_cases e2 : i = b
        · subst e2; rw [if_pos rfl]; omega
        · rw [if_neg e2]; exact Nat.le_refl _) ⟨b, hb, by dsimp only; rw [if_pos rfl]; exact hk2⟩
      exact absurd lt (Nat.not_lt.mpr hm)
    · have surj : ∀ j, j < n → ∃ i, i < n ∧ p i = j := fun j hj2 => by
        by_cases e2 : j = p b
        · exact ⟨b, hb, e2.symm⟩
        · have : rk b j < rk b (p b) := by
            by_cases l : rk b (p b) < rk b j
            · exact absurd ⟨j, hj2, l⟩ q
            · have : rk b j ≠ rk b (p b) := fun z => e2 (h.inj b j (p b) hb hj2 (hp b hb) z)
              omega
          obtain ⟨c, hc, ec, _⟩ := hask b j hb hj2 this
          exact ⟨c, hc, ec⟩
      have := inj_of_surj surj a b ha hb e
      rw [this] at hlt
      exact Nat.lt_irrefl _ hlt
  have pinj : ∀ i j, i < n → j < n → p i = p j → i = j := fun a b ha hb e => by
    rcases Nat.lt_trichotomy (rk (p a) a) (rk (p a) b) with l | l | l
    · exact (key a b ha hb e l).elim
    · exact h.inj (p a) a b (hp a ha) ha hb l
    · exact (key b a hb ha e.symm (by rw [← e]; exact l)).elim
  obtain ⟨g, hg⟩ := Inv.mk' hp pinj
  refine ⟨p, g, { toInv := hg, st := fun i j hi hj l l2 => ?_ }⟩
  obtain ⟨a, ha, ea, la⟩ := hask i j hi hj l
  have : g j = a := by rw [← ea, hg.gf a ha]
  rw [this] at l2
  omega
/-- the better one of two -/
def bet (rk : Nat → Nat → Nat) (i a b : Nat) : Nat := if rk i a ≤ rk i b then a else b
theorem bet_le1 (i a b : Nat) : rk i (bet rk i a b) ≤ rk i a := by
  unfold bet
  by_cases h : rk i a ≤ rk i b
  · rw [if_pos h]; exact Nat.le_refl _
  · rw [if_neg h]; omega
theorem bet_le2 (i a b : Nat) : rk i (bet rk i a b) ≤ rk i b := by
  unfold bet
  by_cases h : rk i a ≤ rk i b
  · rw [if_pos h]; exact h
  · rw [if_neg h]; exact Nat.le_refl _
theorem bet_or (i a b : Nat) : (bet rk i a b = a ∧ rk i a ≤ rk i b) ∨ (bet rk i a b = b ∧ rk i b < rk i a) := by
  unfold bet
  by_cases h : rk i a ≤ rk i b
  · rw [if_pos h]; exact Or.inl ⟨rfl, h⟩
  · rw [if_neg h]; exact Or.inr ⟨rfl, by omega⟩
/-- of two stable ways each may follow the better one -/
theorem join (h : Rk n rk B) {f1 g1 f2 g2 : Nat → Nat} (s1 : Stb n rk f1 g1) (s2 : Stb n rk f2 g2) : ∃ k, Stb n rk (fun i => bet rk i (f1 i) (f2 i)) k ∧ ∀ j, j < n → rk j (g1 j) ≤ rk j (k j) ∧ rk j (g2 j) ≤ rk j (k j) := by
  have lt : ∀ i, i < n → bet rk i (f1 i) (f2 i) < n := fun i hi => by
    rcases bet_or (rk := rk) i (f1 i) (f2 i) with e | e
    · rw [e.1]; exact s1.toInv.lf i hi
    · rw [e.1]; exact s2.toInv.lf i hi
  have cross : ∀ i j, i < n → j < n → f1 i = f2 j → rk i (f1 i) ≤ rk i (f2 i) → rk j (f2 j) < rk j (f1 j) → i = j := fun i j hi hj e l1 l2 => by
    by_cases eq : i = j
    · exact eq
    · have h1 := s1.st j (f2 j) hj (s2.toInv.lf j hj) l2
      rw [← e, s1.toInv.gf i hi] at h1
      have ne : rk i (f1 i) ≠ rk i (f2 i) := fun z => by
        have := h.inj i _ _ hi (s1.toInv.lf i hi) (s2.toInv.lf i hi) z
        exact eq (s2.toInv.finj hi hj (by rw [← this, e]))
      have h2 := s2.st i (f1 i) hi (s1.toInv.lf i hi) (by omega)
      rw [e, s2.toInv.gf j hj, ← e] at h2
      have : rk (f1 i) i = rk (f1 i) j := by omega
      exact h.inj _ _ _ (s1.toInv.lf i hi) hi hj this
  have inj : ∀ i j, i < n → j < n → bet rk i (f1 i) (f2 i) = bet rk j (f1 j) (f2 j) → i = j := fun i j hi hj e => by
    rcases bet_or (rk := rk) i (f1 i) (f2 i) with a | a <;> rcases bet_or (rk := rk) j (f1 j) (f2 j) with b | b
    · exact s1.toInv.finj hi hj (by rw [← a.1, e, b.1])
    · exact cross i j hi hj (by rw [← a.1, e, b.1]) a.2 b.2
    · exact (cross j i hj hi (by rw [← b.1, ← e, a.1]) b.2 a.2).symm
    · exact s2.toInv.finj hi hj (by rw [← a.1, e, b.1])
  obtain ⟨k, hk⟩ := Inv.mk' lt inj
  have worse : ∀ j, j < n → rk j (g1 j) ≤ rk j (k j) ∧ rk j (g2 j) ≤ rk j (k j) := fun j hj => by
    have hkj := hk.lg j hj
    have e := hk.fg j hj
    rcases bet_or (rk := rk) (k j) (f1 (k j)) (f2 (k j)) with a | a
    · have e1 : f1 (k j) = j := by rw [← a.1]; exact e
      have e2 : g1 j = k j := by rw [← e1, s1.toInv.gf _ hkj, e1]
      refine ⟨by rw [e2]; exact Nat.le_refl _, ?_⟩
      by_cases eq : f1 (k j) = f2 (k j)
      · have : g2 j = k j := by rw [← e1, eq, s2.toInv.gf _ hkj, ← eq, e1]
        rw [this]; exact Nat.le_refl _
      · have ne : rk (k j) (f1 (k j)) ≠ rk (k j) (f2 (k j)) := fun z => eq (h.inj _ _ _ hkj (s1.toInv.lf _ hkj) (s2.toInv.lf _ hkj) z)
        have := s2.st (k j) (f1 (k j)) hkj (s1.toInv.lf _ hkj) (by omega)
        rw [e1] at this
        omega
    · have e1 : f2 (k j) = j := by rw [← a.1]; exact e
      have e2 : g2 j = k j := by rw [← e1, s2.toInv.gf _ hkj, e1]
      refine ⟨?_, by rw [e2]; exact Nat.le_refl _⟩
      have := s1.st (k j) (f2 (k j)) hkj (s2.toInv.lf _ hkj) a.2
      rw [e1] at this
      omega
  refine ⟨k, { toInv := hk, st := fun i j hi hj l l2 => ?_ }, worse⟩
  have b1 := bet_le1 (rk := rk) i (f1 i) (f2 i)
  have b2 := bet_le2 (rk := rk) i (f1 i) (f2 i)
  have e := hk.fg j hj
  have hkj := hk.lg j hj
  have w := worse j hj
  rcases bet_or (rk := rk) (k j) (f1 (k j)) (f2 (k j)) with a | a
  · have e1 : f1 (k j) = j := by rw [← a.1]; exact e
    have e2 : g1 j = k j := by rw [← e1, s1.toInv.gf _ hkj, e1]
    exact s1.st i j hi hj (by omega) (by rw [e2]; exact l2)
  · have e1 : f2 (k j) = j := by rw [← a.1]; exact e
    have e2 : g2 j = k j := by rw [← e1, s2.toInv.gf _ hkj, e1]
    exact s2.st i j hi hj (by omega) (by rw [e2]; exact l2)
end Tan

set_option Elab.async false
set_option linter.all false
namespace Tan
variable {n B : Nat} {rk : Nat → Nat → Nat}
def orb (t : Nat → Nat) (a : Nat) : Nat → Nat
  | 0 => a
  | m + 1 => t (orb t a m)
theorem orb_meets {t : Nat → Nat} {a : Nat} (h : ∀ m, orb t a m < n) : ∃ p q, p < q ∧ orb t a p = orb t a q := by
  refine Classical.byContradiction fun no => ?_
  have nd : ((List.range (n + 1)).map (orb t a)).Nodup := map_nd (range_nd _) fun x _ y _ e => by
    rcases Nat.lt_trichotomy x y with l | l | l
    · exact absurd ⟨x, y, l, e⟩ no
    · exact l
    · exact absurd ⟨y, x, l, e.symm⟩ no
  have := nd_lt (n := n) nd fun x hx => by
    obtain ⟨m, _, e⟩ := List.mem_map.mp hx
    rw [← e]
    exact h m
  rw [List.length_map, List.length_range] at this
  omega
/-- each follows the better one, and no two would rather have one another than the worse one of those beside them -/
structure Good (n : Nat) (rk : Nat → Nat → Nat) (f g : Nat → Nat) : Prop where
  toInv : Inv n f g
  up : ∀ i, i < n → rk i (f i) ≤ rk i (g i)
  st : ∀ i j, i < n → j < n → rk i j < rk i (g i) → ¬ rk j i < rk j (g j)
open Classical in
theorem tan (h : Rk n rk B) : ∃ f g, Good n rk f g := by
  have start : ∃ x : (Nat → Nat) × (Nat → Nat), Stb n rk x.1 x.2 ∧ ∀ i, i < n → rk i (x.1 i) ≤ rk i (x.2 i) := by
    obtain ⟨f, g, s⟩ := exists_stb h
    obtain ⟨k, s2, w⟩ := join h s s.mirror
    exact ⟨⟨_, k⟩, s2, fun i hi => Nat.le_trans (bet_le1 _ _ _) (w i hi).2⟩
  obtain ⟨⟨f, g⟩, ⟨sf, up⟩, hmax⟩ := exists_max (fun x : (Nat → Nat) × (Nat → Nat) => S (fun i => rk i (x.1 i)) n) (n * B) start fun x hx => S_bound n fun i hi => h.le i (x.1 i) hi (hx.1.toInv.lf i hi)
  dsimp only at sf up hmax
  have I := sf.toInv
  refine ⟨f, g, I, up, fun i0 j0 hi0 hj0 v1 v2 => ?_⟩
  have vio : ∀ i j, i < n → j < n → rk i j < rk i (g i) → rk j i < rk j (g j) → rk i (f i) < rk i j := fun i j hi hj l1 l2 => by
    have nl : ¬ rk i j < rk i (f i) := fun z => sf.st i j hi hj z l2
    have ne : rk i (f i) ≠ rk i j := fun z => by
      have e := h.inj i _ _ hi (I.lf i hi) hj z
      rw [← e, I.gf i hi] at l2
      exact Nat.lt_irrefl _ l2
    omega
  have gaplt : ∀ a, a < n → f a ≠ g a → rk a (f a) < rk a (g a) := fun a ha hg => by
    have := up a ha
    have ne : rk a (f a) ≠ rk a (g a) := fun z => hg (h.inj a _ _ ha (I.lf a ha) (I.lg a ha) z)
    omega
  have gapg : ∀ a, a < n → f a ≠ g a → f (g a) ≠ g (g a) := fun a ha hg z => by
    have e1 : g (g a) = a := by rw [← z, I.fg a ha]
    have e2 : f (g (g a)) = g a := I.fg _ (I.lg a ha)
    rw [e1] at e2
    exact hg e2
  -- the first one after f a who would rather have a
  have first : ∀ a : Nat, ∃ j, a < n → f a ≠ g a → (j < n ∧ rk a (f a) < rk a j ∧ rk j a < rk j (g j)) ∧ ∀ k, k < n ∧ rk a (f a) < rk a k ∧ rk k a < rk k (g k) → rk a j ≤ rk a k := fun a => by
    by_cases ha : a < n
    · by_cases hg : f a ≠ g a
      · obtain ⟨j, h1, h2⟩ := best h (i := a) (Q := fun j => rk a (f a) < rk a j ∧ rk j a < rk j (g j)) ⟨g a, I.lg a ha, gaplt a ha hg, by
          have h1 := gaplt (g a) (I.lg a ha) (gapg a ha hg)
          rw [I.fg a ha] at h1
          exact h1⟩
        exact ⟨j, fun _ _ => ⟨h1, h2⟩⟩
      · exact ⟨0, fun _ z => absurd z hg⟩
    · exact ⟨0, fun z => absurd z ha⟩
  obtain ⟨s, hs⟩ := Classical.axiomOfChoice first
  have sle : ∀ a, a < n → f a ≠ g a → rk a (s a) ≤ rk a (g a) := fun a ha hg => (hs a ha hg).2 (g a) ⟨I.lg a ha, gaplt a ha hg, by
    have h1 := gaplt (g a) (I.lg a ha) (gapg a ha hg)
    rw [I.fg a ha] at h1
    exact h1⟩
  have seq : ∀ a, a < n → f a ≠ g a → ¬ rk a (s a) < rk a (g a) → s a = g a := fun a ha hg z => by
    have := sle a ha hg
    exact h.inj a _ _ ha (hs a ha hg).1.1 (I.lg a ha) (by omega)
  have step : ∀ a, a < n → f a ≠ g a → g (s a) < n ∧ f (g (s a)) ≠ g (g (s a)) := fun a ha hg => by
    obtain ⟨⟨h1, h2, h3⟩, h4⟩ := hs a ha hg
    refine ⟨I.lg _ h1, gapg _ h1 fun z => ?_⟩
    rw [← z] at h3
    have h5 := sf.st (s a) a h1 ha h3
    have h6 := seq a ha hg h5
    rw [h6, I.fg a ha] at h3
    exact Nat.lt_irrefl _ h3
  have hi0f := vio i0 j0 hi0 hj0 v1 v2
  have g0 : f i0 ≠ g i0 := fun z => by rw [z] at hi0f; omega
  have orbin : ∀ m, orb (fun a => g (s a)) i0 m < n ∧ f (orb (fun a => g (s a)) i0 m) ≠ g (orb (fun a => g (s a)) i0 m) := fun m => by
    induction m with
    | zero => exact ⟨hi0, g0⟩
    | succ m ih => exact step _ ih.1 ih.2
  obtain ⟨⟨p, q⟩, ⟨pq, epq⟩, qmin⟩ := exists_min (P := fun x : Nat × Nat => x.1 < x.2 ∧ orb (fun a => g (s a)) i0 x.1 = orb (fun a => g (s a)) i0 x.2) (fun x => x.2) (let ⟨p, q, h1, h2⟩ := orb_meets fun m => (orbin m).1; ⟨(p, q), h1, h2⟩)
  dsimp only at pq epq qmin
  generalize ho : orb (fun a => g (s a)) i0 = o at *
  have o0 : o 0 = i0 := by rw [← ho]; rfl
  have os : ∀ m, o (m + 1) = g (s (o m)) := fun m => by rw [← ho]; rfl
  have dist : ∀ a b, a < b → b < q → o a ≠ o b := fun a b l1 l2 z => by
    have := qmin (a, b) ⟨l1, z⟩
    dsimp only at this
    omega
  have dist2 : ∀ a b, a < q → b < q → o a = o b → a = b := fun a b l1 l2 z => by
    rcases Nat.lt_trichotomy a b with l | l | l
    · exact absurd z (dist a b l l2)
    · exact l
    · exact absurd z.symm (dist b a l l1)
  have nC : ∃ C : Nat → Prop, ∀ x, C x ↔ ∃ m, p ≤ m ∧ m < q ∧ o m = x := ⟨_, fun _ => Iff.rfl⟩
  obtain ⟨C, hC⟩ := nC
  have Clt : ∀ c, C c → c < n ∧ f c ≠ g c := fun c hc => by
    obtain ⟨m, _, _, e⟩ := (hC c).mp hc
    rw [← e]
    exact orbin m
  have wrap : ∀ m, p ≤ m → m < q → ∃ m', p ≤ m' ∧ m' < q ∧ o m' = g (s (o m)) ∧ (m' = m + 1 ∨ (m + 1 = q ∧ m' = p)) := fun m h1 h2 => by
    by_cases e : m + 1 = q
    · exact ⟨p, Nat.le_refl _, pq, by rw [epq, ← e, os], Or.inr ⟨e, rfl⟩⟩
    · exact ⟨m + 1, by omega, by omega, os m, Or.inl rfl⟩
  have Cstep : ∀ c, C c → C (g (s c)) := fun c hc => by
    obtain ⟨m, h1, h2, e⟩ := (hC c).mp hc
    obtain ⟨m', h3, h4, h5, _⟩ := wrap m h1 h2
    exact (hC _).mpr ⟨m', h3, h4, by rw [h5, e]⟩
  have Cinj : ∀ a b, C a → C b → g (s a) = g (s b) → a = b := fun a b ha hb e => by
    obtain ⟨m, h1, h2, e1⟩ := (hC a).mp ha
    obtain ⟨m2, h3, h4, e2⟩ := (hC b).mp hb
    obtain ⟨k, k1, k2, k3, k4⟩ := wrap m h1 h2
    obtain ⟨k', k5, k6, k7, k8⟩ := wrap m2 h3 h4
    have := dist2 k k' k2 k6 (by rw [k3, k7, e1, e2, e])
    have : m = m2 := by omega
    rw [← e1, ← e2, this]
  -- all of C go on to s
  have lt2 : ∀ i, i < n → (if C i then s i else f i) < n := fun i hi => by
    by_cases c : C i
    · rw [if_pos c]; exact (hs i hi (Clt i c).2).1.1
    · rw [if_neg c]; exact I.lf i hi
  have inj2 : ∀ i j, i < n → j < n → (if C i then s i else f i) = (if C j then s j else f j) → i = j := fun i j hi hj e => by
    by_cases c : C i <;> by_cases d : C j
    · rw [if_pos c, if_pos d] at e
      exact Cinj i j c d (by rw [e])
    · rw [if_pos c, if_neg d] at e
      exact absurd (by rw [← I.gf j hj, ← e]; exact Cstep i c) d
    · rw [if_neg c, if_pos d] at e
      exact absurd (by rw [← I.gf i hi, e]; exact Cstep j d) c
    · rw [if_neg c, if_neg d] at e
      exact I.finj hi hj e
  obtain ⟨g2, I2⟩ := Inv.mk' (f := fun i => if C i then s i else f i) lt2 inj2
  have back : ∀ j, j < n → (C (g2 j) ∧ s (g2 j) = j) ∨ (¬ C (g2 j) ∧ g2 j = g j) := fun j hj => by
    have e := I2.fg j hj
    by_cases c : C (g2 j)
    · rw [if_pos c] at e
      exact Or.inl ⟨c, e⟩
    · rw [if_neg c] at e
      exact Or.inr ⟨c, by rw [← I.gf _ (I2.lg j hj), e]⟩
  have Rbet : ∀ j, j < n → rk j (g2 j) ≤ rk j (g j) := fun j hj => by
    rcases back j hj with ⟨c, e⟩ | ⟨_, e⟩
    · have := (hs _ (I2.lg j hj) (Clt _ c).2).1.2.2
      rw [e] at this
      omega
    · rw [e]; exact Nat.le_refl _
  have Lwor : ∀ i, i < n → rk i (f i) ≤ rk i (if C i then s i else f i) := fun i hi => by
    by_cases c : C i
    · rw [if_pos c]; exact Nat.le_of_lt (hs i hi (Clt i c).2).1.2.1
    · rw [if_neg c]; exact Nat.le_refl _
  have sf2 : Stb n rk (fun i => if C i then s i else f i) g2 := ⟨I2, fun i j hi hj l1 l2 => by
    have r := Rbet j hj
    by_cases c : C i
    · rw [if_pos c] at l1
      obtain ⟨⟨k1, k2, k3⟩, k4⟩ := hs i hi (Clt i c).2
      by_cases l3 : rk i j < rk i (f i)
      · exact sf.st i j hi hj l3 (by omega)
      · by_cases l4 : rk i (f i) < rk i j
        · have := k4 j ⟨hj, l4, by omega⟩
          omega
        · have e := h.inj i _ _ hi (I.lf i hi) hj (by omega)
          have e2 : g j = i := by rw [← e, I.gf i hi]
          rw [e2] at r
          omega
    · rw [if_neg c] at l1
      exact sf.st i j hi hj l1 (by omega)⟩
  obtain ⟨k, s3, w3⟩ := join h sf2 sf2.mirror
  have ge : ∀ i, i < n → rk i (f i) ≤ rk i (g2 i) := fun i hi => by
    rcases back i hi with ⟨c, e⟩ | ⟨_, e⟩
    · refine Nat.le_of_not_lt fun z => ?_
      have ha := I2.lg i hi
      have h5 := sf.st i (g2 i) hi ha z
      have h6 := seq (g2 i) ha (Clt _ c).2 (by rw [e]; exact h5)
      rw [e] at h6
      have : f i = g2 i := by
        have := I.fg _ ha
        rw [← h6] at this
        exact this
      rw [this] at z
      exact Nat.lt_irrefl _ z
    · rw [e]; exact up i hi
  have le3 : ∀ i, i < n → rk i (f i) ≤ rk i (bet rk i (if C i then s i else f i) (g2 i)) := fun i hi => by
    rcases bet_or (rk := rk) i (if C i then s i else f i) (g2 i) with e | e
    · rw [e.1]; exact Lwor i hi
    · rw [e.1]; exact ge i hi
  have hm := hmax (_, k) ⟨s3, fun i hi => Nat.le_trans (bet_le1 _ _ _) (w3 i hi).2⟩
  have eq3 : ∀ i, i < n → rk i (bet rk i (if C i then s i else f i) (g2 i)) = rk i (f i) := fun i hi => by
    refine Classical.byContradiction fun no => ?_
    have l := le3 i hi
    have := S_lt (u := fun i => rk i (f i)) (v := fun i => rk i (bet rk i (if C i then s i else f i) (g2 i))) n le3 ⟨i, hi, by omega⟩
    exact absurd this (Nat.not_lt.mpr hm)
  have odd : ∀ c, C c → C (f c) ∧ s (f c) = c := fun c hc => by
    obtain ⟨hcn, hcg⟩ := Clt c hc
    have e3 := eq3 c hcn
    rw [if_pos hc] at e3
    have l3 := (hs c hcn hcg).1.2.1
    rcases bet_or (rk := rk) c (s c) (g2 c) with e | e
    · rw [e.1] at e3; omega
    · rw [e.1] at e3
      have e4 := h.inj c _ _ hcn (I2.lg c hcn) (I.lf c hcn) e3
      rcases back c hcn with ⟨d, e5⟩ | ⟨_, e5⟩
      · rw [e4] at d e5
        exact ⟨d, e5⟩
      · rw [e5] at e4
        exact absurd e4.symm hcg
  have Cg : ∀ c, C c → C (g c) := fun c hc => by
    have := Cstep (f c) (odd c hc).1
    rw [(odd c hc).2] at this
    exact this
  have sg : ∀ c, C c → s c = g c := fun c hc => by
    have := (odd (g c) (Cg c hc)).2
    rw [I.fg c (Clt c hc).1] at this
    exact this
  have ni0 : ¬ C i0 := fun z => by
    have := (hs i0 hi0 g0).2 j0 ⟨hj0, hi0f, v2⟩
    rw [sg i0 z] at this
    omega
  have p0 : 0 < p := by
    refine Nat.pos_of_ne_zero fun z => ni0 ?_
    exact (hC _).mpr ⟨0, by omega, by omega, o0⟩
  have hb := orbin (p - 1)
  generalize hbd : o (p - 1) = b at *
  have nb : ¬ C b := fun z => by
    obtain ⟨m, h1, h2, e⟩ := (hC b).mp z
    rw [← hbd] at e
    have := dist2 m (p - 1) h2 (by omega) e
    omega
  have nxb : C (g (s b)) := by
    refine (hC _).mpr ⟨p, Nat.le_refl _, pq, ?_⟩
    have := os (p - 1)
    rw [show p - 1 + 1 = p by omega, hbd] at this
    exact this
  obtain ⟨⟨d1, d2, d3⟩, d4⟩ := hs b hb.1 hb.2
  have dC : C (s b) := by
    have := (odd _ nxb).1
    rw [I.fg _ d1] at this
    exact this
  have dne : s b ≠ g b := fun z => nb (by
    have := (odd _ dC).1
    rw [z, I.fg b hb.1] at this
    exact this)
  have d5 : rk b (s b) < rk b (g b) := by
    have := sle b hb.1 hb.2
    have ne : rk b (s b) ≠ rk b (g b) := fun z => dne (h.inj b _ _ hb.1 d1 (I.lg b hb.1) z)
    omega
  have d6 := vio (s b) b d1 hb.1 d3 d5
  have d7 := (hs (s b) d1 (Clt _ dC).2).2 b ⟨hb.1, d6, d5⟩
  rw [sg _ dC] at d7
  omega
end Tan

set_option Elab.async false
set_option linter.all false
set_option maxRecDepth 100000
set_option maxHeartbeats 2000000
namespace TP
open PySem PySem.Spec PyProof.Rows L2
/-! ### tellings, plain: the order of a camper as ranks -/
def rkL (L : List (List Nat)) (i j : Nat) : Nat := if j = i then 6 else if would L i j = true then (L.getD i []).idxOf j else 7 + j
theorem idx_lt {L : List (List Nat)} (v : ValidL L) {i j : Nat} (hi : i < L.length) (hw : would L i j = true) : (L.getD i []).idxOf j < (L.getD i []).length ∧ (L.getD i []).idxOf j < 6 := by
  have hm := (would_iff.mp hw).1
  have h1 := List.idxOf_lt_length_of_mem hm
  exact ⟨h1, Nat.lt_of_lt_of_le h1 (v.len hi)⟩
theorem idx_inj {l : List Nat} {a b : Nat} (ha : a ∈ l) (hb : b ∈ l) (e : l.idxOf a = l.idxOf b) : a = b := by
  have h1 := List.idxOf_lt_length_of_mem ha
  have h2 := List.idxOf_lt_length_of_mem hb
  rw [← List.getElem_idxOf h1, ← List.getElem_idxOf h2]
  congr 1
theorem rkL_rk {L : List (List Nat)} (v : ValidL L) : Tan.Rk L.length (rkL L) 20 := by
  have h6 := v.six
  refine ⟨fun i j k hi hj hk e => ?_, fun i j hi hj => ?_⟩
  · unfold rkL at e
    by_cases j1 : j = i
    · rw [if_pos j1] at e
      by_cases k1 : k = i
      · rw [j1, k1]
      · rw [if_neg k1] at e
        by_cases k2 : would L i k = true
        · rw [if_pos k2] at e
          have := (idx_lt v hi k2).2
          omega
        · rw [if_neg k2] at e
          omega
    · rw [if_neg j1] at e
      by_cases j2 : would L i j = true
      · rw [if_pos j2] at e
        have l1 := (idx_lt v hi j2).2
        by_cases k1 : k = i
        · rw [if_pos k1] at e
          omega
        · rw [if_neg k1] at e
          by_cases k2 : would L i k = true
          · rw [if_pos k2] at e
            exact idx_inj (would_iff.mp j2).1 (would_iff.mp k2).1 e
          · rw [if_neg k2] at e
            omega
      · rw [if_neg j2] at e
        by_cases k1 : k = i
        · rw [if_pos k1] at e
          omega
        · rw [if_neg k1] at e
          by_cases k2 : would L i k = true
          · rw [if_pos k2] at e
            have := (idx_lt v hi k2).2
            omega
          · rw [if_neg k2] at e
            omega
  · unfold rkL
    by_cases j1 : j = i
    · rw [if_pos j1]; omega
    · rw [if_neg j1]
      by_cases j2 : would L i j = true
      · rw [if_pos j2]
        have := (idx_lt v hi j2).2
        omega
      · rw [if_neg j2]
        omega
theorem would_ne {L : List (List Nat)} (v : ValidL L) {i j : Nat} (hi : i < L.length) (hw : would L i j = true) : j ≠ i := fun e => by
  rw [e] at hw
  exact v.self i hi (would_iff.mp hw).1
/-- whom a camper may have: itself, or one who would share -/
def May (L : List (List Nat)) (i j : Nat) : Prop := j = i ∨ would L i j = true
theorem may_iff {L : List (List Nat)} (v : ValidL L) {i j : Nat} (hi : i < L.length) : May L i j ↔ rkL L i j ≤ 6 := by
  unfold May rkL
  by_cases j1 : j = i
  · simp [j1]
  · rw [if_neg j1]
    by_cases j2 : would L i j = true
    · rw [if_pos j2]
      have := (idx_lt v hi j2).2
      exact ⟨fun _ => by omega, fun _ => Or.inr j2⟩
    · rw [if_neg j2]
      exact ⟨fun z => z.elim (fun z => absurd z j1) (fun z => absurd z j2), fun z => by omega⟩
theorem rather_rk {L : List (List Nat)} (v : ValidL L) {i a b : Nat} (hi : i < L.length) (ha : May L i a) (hb : May L i b) : rather L i a b = decide (rkL L i a < rkL L i b) := by
  unfold rather rkL
  by_cases e1 : a = b
  · subst e1
    simp
  · by_cases a1 : a = i
    · subst a1
      have b1 : ¬ b = a := fun z => e1 z.symm
      rcases hb with hb | hb
      · exact absurd hb b1
      · have := (idx_lt v hi hb).2
        rw [if_pos (Or.inr rfl), if_pos rfl, if_neg b1, if_pos hb]
        exact (decide_eq_false (by omega)).symm
    · rcases ha with ha | ha
      · exact absurd ha a1
      · have := (idx_lt v hi ha).2
        rcases hb with hb | hb
        · subst hb
          rw [if_neg (fun z => z.elim e1 e1), if_pos rfl, if_neg e1, if_pos ha, if_pos rfl]
          exact (decide_eq_true (by omega)).symm
        · have b1 := would_ne v hi hb
          simp [e1, a1, b1, ha, hb]
end TP

set_option Elab.async false
set_option linter.all false
set_option maxRecDepth 100000
set_option maxHeartbeats 2000000
namespace TP
open PySem PySem.Spec PyProof.Rows L2
/-! ### all ways to follow one another -/
def fitsL (L : List (List Nat)) (some : List Nat) (c o : Nat) : Bool :=
  would L c o && (if c ∈ some then (decide (some.idxOf c = o) || rather L c o (some.idxOf c)) else true) && (if o < some.length ∧ some.getD o 0 ≠ c then rather L o (some.getD o 0) c else true)
def nextRow (L : List (List Nat)) (c : Nat) (some : List Nat) : List (List Nat) := ((List.range L.length).filter fun o => !decide (o ∈ some) && (decide (o = c) || fitsL L some c o)).map fun o => some ++ [o]
def nextsStep (L : List (List Nat)) (found : List (List Nat)) (c : Nat) : List (List Nat) := found.flatMap (nextRow L c)
def nextsUpto (L : List (List Nat)) (k : Nat) : List (List Nat) := (List.range k).foldl (nextsStep L) [[]]
def allNexts (L : List (List Nat)) : List (List Nat) := nextsUpto L L.length
theorem idx_map {f : Nat → Nat} {n k a : Nat} (inj : ∀ i j, i < n → j < n → f i = f j → i = j) (hk : k ≤ n) (ha : a < k) : ((List.range k).map f).idxOf (f a) = a := by
  have hm : f a ∈ (List.range k).map f := List.mem_map.mpr ⟨a, List.mem_range.mpr ha, rfl⟩
  have h1 := List.idxOf_lt_length_of_mem hm
  have h2 := List.getElem_idxOf h1
  rw [List.getElem_map, List.getElem_range] at h2
  rw [List.length_map, List.length_range] at h1
  exact inj _ _ (by omega) (by omega) h2
section
variable {L : List (List Nat)} {f g : Nat → Nat}
theorem good_may (v : ValidL L) (h : Tan.Good L.length (rkL L) f g) {i : Nat} (hi : i < L.length) : May L i (f i) ∧ May L i (g i) := by
  have h0 := fun z => h.st i i hi hi z z
  have e : rkL L i i = 6 := by unfold rkL; rw [if_pos rfl]
  rw [e] at h0
  have h1 : rkL L i (g i) ≤ 6 := Nat.le_of_not_lt h0
  exact ⟨(may_iff v hi).mpr (Nat.le_trans (h.up i hi) h1), (may_iff v hi).mpr h1⟩
theorem good_lt (v : ValidL L) (h : Tan.Good L.length (rkL L) f g) {i : Nat} (hi : i < L.length) (ne : f i ≠ g i) : rather L i (f i) (g i) = true := by
  obtain ⟨m1, m2⟩ := good_may v h hi
  rw [rather_rk v hi m1 m2]
  have := h.up i hi
  have nr : rkL L i (f i) ≠ rkL L i (g i) := fun z => ne ((rkL_rk v).inj i _ _ hi (h.toInv.lf i hi) (h.toInv.lg i hi) z)
  exact decide_eq_true (by omega)
theorem good_nexts (v : ValidL L) (h : Tan.Good L.length (rkL L) f g) : ∀ k, k ≤ L.length → (List.range k).map f ∈ nextsUpto L k
  | 0, _ => by simp [nextsUpto]
  | k + 1, hk => by
    have ih := good_nexts v h k (by omega)
    have inj : ∀ i j, i < L.length → j < L.length → f i = f j → i = j := fun i j hi hj e => h.toInv.finj hi hj e
    unfold nextsUpto at ih ⊢
    rw [List.range_succ, List.foldl_append, List.map_append]
    show _ ∈ nextsStep L _ k
    unfold nextsStep
    refine List.mem_flatMap.mpr ⟨_, ih, ?_⟩
    unfold nextRow
    refine List.mem_map.mpr ⟨f k, List.mem_filter.mpr ⟨List.mem_range.mpr (h.toInv.lf k hk), ?_⟩, rfl⟩
    have nin : f k ∉ (List.range k).map f := fun z => by
      obtain ⟨a, ha, e⟩ := List.mem_map.mp z
      have ha := List.mem_range.mp ha
      have := inj a k (by omega) hk e
      omega
    rw [decide_eq_false nin]
    by_cases e : f k = k
    · rw [decide_eq_true e]; rfl
    · rw [decide_eq_false e]
      have hw : would L k (f k) = true := (good_may v h hk).1.resolve_left e
      show fitsL L _ k (f k) = true
      unfold fitsL
      rw [hw]
      have c1 : (if k ∈ (List.range k).map f then (decide (((List.range k).map f).idxOf k = f k) || rather L k (f k) (((List.range k).map f).idxOf k)) else true) = true := by
        by_cases hm : k ∈ (List.range k).map f
        · rw [if_pos hm]
          obtain ⟨a, ha, ea⟩ := List.mem_map.mp hm
          have ha := List.mem_range.mp ha
          have hx := idx_map (a := a) inj (show k ≤ L.length by omega) ha
          rw [ea] at hx
          rw [hx]
          have eg : g k = a := by rw [← ea, h.toInv.gf a (by omega)]
          by_cases e2 : f k = g k
          · rw [decide_eq_true (by rw [← eg, e2])]; rfl
          · have := good_lt v h hk e2
            rw [eg] at this
            rw [this, Bool.or_true]
        · rw [if_neg hm]
      have c2 : (if f k < ((List.range k).map f).length ∧ ((List.range k).map f).getD (f k) 0 ≠ k then rather L (f k) (((List.range k).map f).getD (f k) 0) k else true) = true := by
        by_cases hm : f k < ((List.range k).map f).length ∧ ((List.range k).map f).getD (f k) 0 ≠ k
        · rw [if_pos hm]
          obtain ⟨h1, h2⟩ := hm
          rw [List.length_map, List.length_range] at h1
          have hx : ((List.range k).map f).getD (f k) 0 = f (f k) := by
            rw [List.getD_eq_getElem?_getD, List.getElem?_map, List.getElem?_range h1]
            rfl
          rw [hx] at h2 ⊢
          have eg : g (f k) = k := h.toInv.gf k hk
          have := good_lt v h (h.toInv.lf k hk) (by rw [eg]; exact h2)
          rw [eg] at this
          exact this
        · rw [if_neg hm]
      rw [c1, c2]
      rfl
end
end TP

set_option Elab.async false
set_option linter.all false
set_option maxRecDepth 100000
set_option maxHeartbeats 2000000
namespace TP
open PySem PySem.Spec PyProof.Rows L2
/-! ### rings: of a ring each looks at the one behind and the one ahead -/
def behindR (r : List Nat) (k : Nat) : Nat := r.getD ((k + r.length - 1) % r.length) 0
def aheadR (r : List Nat) (k : Nat) : Nat := r.getD ((k + 1) % r.length) 0
def okR (L : List (List Nat)) (r : List Nat) (k : Nat) : Bool :=
  (decide (r.getD k 0 = behindR r k) || would L (r.getD k 0) (behindR r k)) && (decide (r.length ≤ 2) || (would L (r.getD k 0) (aheadR r k) && rather L (r.getD k 0) (aheadR r k) (behindR r k)))
/-- the pairs of each and the one behind -/
def behindOf (rs : List (List Nat)) : List (Nat × Nat) := rs.flatMap fun r => (List.range r.length).map fun k => (r.getD k 0, behindR r k)
def lookB (m : List (Nat × Nat)) (x : Nat) : Nat := (m.reverse.lookup x).getD 0
def goodRings (L : List (List Nat)) (rs : List (List Nat)) : Bool :=
  (rs.all fun r => (List.range r.length).all (okR L r)) && (openPairs L).all fun p => !(rather L p.1 p.2 (lookB (behindOf rs) p.1) && rather L p.2 p.1 (lookB (behindOf rs) p.2))
/-- the ring of c: from c on, until it comes back -/
def ringGo (f : Nat → Nat) (c : Nat) : Nat → Nat → List Nat
  | 0, _ => []
  | m + 1, x => x :: if f x = c then [] else ringGo f c m (f x)
def ringOf (f : Nat → Nat) (n c : Nat) : List Nat := ringGo f c n c
def ringsStep (f : Nat → Nat) (n : Nat) (acc : List (List Nat)) (c : Nat) : List (List Nat) := if c ∈ acc.flatten then acc else acc ++ [ringOf f n c]
def ringsOf (f : Nat → Nat) (n : Nat) : List (List Nat) := (List.range n).foldl (ringsStep f n) []
/-- what a ring of a way to follow one another is -/
structure IsRing (f : Nat → Nat) (r : List Nat) : Prop where
  ne : r ≠ []
  nd : r.Nodup
  nx : ∀ k, k < r.length → aheadR r k = f (r.getD k 0)
end TP

set_option Elab.async false
set_option linter.all false
set_option maxRecDepth 100000
set_option maxHeartbeats 2000000
namespace TP
open PySem PySem.Spec PyProof.Rows L2 Tan
section
variable {f g : Nat → Nat} {n c : Nat}
theorem orb_lt (I : Inv n f g) (hc : c < n) : ∀ m, orb f c m < n
  | 0 => hc
  | m + 1 => I.lf _ (orb_lt I hc m)
theorem orb_back (I : Inv n f g) (hc : c < n) : ∀ p d, orb f c p = orb f c (p + d) → orb f c 0 = orb f c d
  | 0, d, h => by rw [Nat.zero_add] at h; exact h
  | p + 1, d, h => by
    refine orb_back I hc p d ?_
    rw [show p + 1 + d = (p + d) + 1 by omega] at h
    exact I.finj (orb_lt I hc p) (orb_lt I hc (p + d)) h
theorem orb_period (I : Inv n f g) (hc : c < n) : ∃ m, 0 < m ∧ m ≤ n ∧ orb f c m = c ∧ (∀ a b, a < m → b < m → orb f c a = orb f c b → a = b) := by
  obtain ⟨p, q, pq, e⟩ := orb_meets (orb_lt I hc)
  obtain ⟨m, ⟨h1, h2⟩, h3⟩ := exists_min (P := fun m => 0 < m ∧ orb f c m = c) (fun m => m) ⟨q - p, by omega, by
    have := orb_back I hc p (q - p) (by rw [e]; congr 1; omega)
    exact this.symm⟩
  have inj : ∀ a b, a < b → b < m → orb f c a ≠ orb f c b := fun a b l1 l2 z => by
    have := orb_back I hc a (b - a) (by rw [z]; congr 1; omega)
    have := h3 (b - a) ⟨by omega, this.symm⟩
    omega
  have inj2 : ∀ a b, a < m → b < m → orb f c a = orb f c b → a = b := fun a b l1 l2 z => by
    rcases Nat.lt_trichotomy a b with l | l | l
    · exact absurd z (inj a b l l2)
    · exact l
    · exact absurd z.symm (inj b a l l1)
  refine ⟨m, h1, ?_, h2, inj2⟩
  have nd : ((List.range m).map (orb f c)).Nodup := map_nd (range_nd m) fun x hx y hy => inj2 x y (List.mem_range.mp hx) (List.mem_range.mp hy)
  have := nd_lt (n := n) nd fun x hx => by
    obtain ⟨k, _, e⟩ := List.mem_map.mp hx
    rw [← e]
    exact orb_lt I hc k
  rwa [List.length_map, List.length_range] at this
theorem ringGo_eq {m : Nat} (hm : orb f c m = c) (hinj : ∀ a b, a < m → b < m → orb f c a = orb f c b → a = b) : ∀ d k fuel, k + d = m → 0 < d → d ≤ fuel → ringGo f c fuel (orb f c k) = (List.range d).map fun t => orb f c (k + t)
  | 0, _, _, _, h, _ => absurd h (by omega)
  | d + 1, k, 0, _, _, h => absurd h (by omega)
  | d + 1, k, s + 1, e, _, h => by
    show orb f c k :: (if f (orb f c k) = c then [] else ringGo f c s (f (orb f c k))) = _
    have e1 : f (orb f c k) = orb f c (k + 1) := rfl
    rw [e1]
    by_cases z : d = 0
    · subst z
      have : orb f c (k + 1) = c := by rw [show k + 1 = m by omega]; exact hm
      rw [if_pos this]
      rfl
    · have ne : orb f c (k + 1) ≠ c := fun q => by
        have := hinj (k + 1) 0 (by omega) (by omega) q
        omega
      rw [if_neg ne, ringGo_eq hm hinj d (k + 1) s (by omega) (by omega) (by omega)]
      rw [List.range_succ_eq_map, List.map_cons, List.map_map]
      congr 1
      refine List.map_congr_left fun t _ => ?_
      show orb f c (k + 1 + t) = orb f c (k + (t + 1))
      congr 1
      omega
/-- the ring of c as its way round -/
theorem ringOf_eq (I : Inv n f g) (hc : c < n) : ∃ m, 0 < m ∧ m ≤ n ∧ orb f c m = c ∧ (∀ a b, a < m → b < m → orb f c a = orb f c b → a = b) ∧ ringOf f n c = (List.range m).map (orb f c) := by
  obtain ⟨m, h1, h2, h3, h4⟩ := orb_period I hc
  refine ⟨m, h1, h2, h3, h4, ?_⟩
  have := ringGo_eq h3 h4 m 0 n (by omega) h1 h2
  unfold ringOf
  rw [show orb f c 0 = c from rfl] at this
  rw [this]
  refine List.map_congr_left fun t _ => ?_
  rw [Nat.zero_add]
theorem getD_map_range {u : Nat → Nat} {m k : Nat} (h : k < m) : ((List.range m).map u).getD k 0 = u k := by
  rw [List.getD_eq_getElem?_getD, List.getElem?_map, List.getElem?_range h]
  rfl
/-- a ring that goes by f and g -/
structure RingBy (n : Nat) (f g : Nat → Nat) (r : List Nat) : Prop where
  ne : r ≠ []
  nd : r.Nodup
  lt : ∀ x ∈ r, x < n
  up : ∀ k, k < r.length → aheadR r k = f (r.getD k 0)
  dn : ∀ k, k < r.length → behindR r k = g (r.getD k 0)
theorem ringOf_by (I : Inv n f g) (hc : c < n) : RingBy n f g (ringOf f n c) ∧ c ∈ ringOf f n c := by
  obtain ⟨m, h1, h2, h3, h4, e⟩ := ringOf_eq I hc
  have hl : (ringOf f n c).length = m := by rw [e, List.length_map, List.length_range]
  refine ⟨⟨fun z => ?_, ?_, fun x hx => ?_, fun k hk => ?_, fun k hk => ?_⟩, ?_⟩
  · rw [z] at hl
    simp at hl
    omega
  · rw [e]
    exact map_nd (range_nd m) fun x hx y hy => h4 x y (List.mem_range.mp hx) (List.mem_range.mp hy)
  · rw [e] at hx
    obtain ⟨k, _, ek⟩ := List.mem_map.mp hx
    rw [← ek]
    exact orb_lt I hc k
  · unfold aheadR
    rw [hl] at hk ⊢
    rw [e, getD_map_range hk, getD_map_range (Nat.mod_lt _ h1)]
    by_cases z : k + 1 = m
    · rw [z, Nat.mod_self]
      show c = f (orb f c k)
      have : f (orb f c k) = orb f c (k + 1) := rfl
      rw [this, z, h3]
    · rw [Nat.mod_eq_of_lt (by omega)]
      rfl
  · unfold behindR
    rw [hl] at hk ⊢
    rw [e, getD_map_range hk, getD_map_range (Nat.mod_lt _ h1)]
    by_cases z : k = 0
    · subst z
      rw [show 0 + m - 1 = m - 1 by omega, Nat.mod_eq_of_lt (show m - 1 < m by omega)]
      show orb f c (m - 1) = g c
      have : f (orb f c (m - 1)) = c := by
        have e2 : f (orb f c (m - 1)) = orb f c (m - 1 + 1) := rfl
        rw [e2, show m - 1 + 1 = m by omega, h3]
      rw [← I.gf _ (orb_lt I hc (m - 1)), this]
    · rw [show (k + m - 1) % m = k - 1 by
        rw [show k + m - 1 = (k - 1) + m by omega, Nat.add_mod_right, Nat.mod_eq_of_lt (by omega)]]
      rw [← I.gf _ (orb_lt I hc (k - 1))]
      congr 1
      have e2 : f (orb f c (k - 1)) = orb f c (k - 1 + 1) := rfl
      rw [e2, show k - 1 + 1 = k by omega]
  · rw [e]
    exact List.mem_map.mpr ⟨0, List.mem_range.mpr h1, rfl⟩
end
end TP

set_option Elab.async false
set_option linter.all false
set_option maxRecDepth 100000
set_option maxHeartbeats 2000000
namespace TP
open PySem PySem.Spec PyProof.Rows L2 Tan
section
variable {f g : Nat → Nat} {n c : Nat} {r : List Nat}
theorem getD_mem {k : Nat} (h : k < r.length) : r.getD k 0 ∈ r := by
  rw [List.getD_eq_getElem?_getD, List.getElem?_eq_getElem h]
  exact List.getElem_mem h
theorem mem_getD {x : Nat} (h : x ∈ r) : ∃ k, k < r.length ∧ r.getD k 0 = x := by
  obtain ⟨k, hk, e⟩ := List.mem_iff_getElem.mp h
  refine ⟨k, hk, ?_⟩
  rw [List.getD_eq_getElem?_getD, List.getElem?_eq_getElem hk]
  exact e
theorem RingBy.closed (h : RingBy n f g r) {x : Nat} (hx : x ∈ r) : f x ∈ r ∧ g x ∈ r := by
  obtain ⟨k, hk, e⟩ := mem_getD hx
  have hl : 0 < r.length := by omega
  refine ⟨?_, ?_⟩
  · rw [← e, ← h.up k hk]
    exact getD_mem (Nat.mod_lt _ hl)
  · rw [← e, ← h.dn k hk]
    exact getD_mem (Nat.mod_lt _ hl)
/-- rings that hold all campers below k, each once -/
structure Parts (n : Nat) (f g : Nat → Nat) (rs : List (List Nat)) (k : Nat) : Prop where
  by_ : ∀ r ∈ rs, RingBy n f g r
  nd : rs.flatten.Nodup
  all : ∀ c, c < k → c ∈ rs.flatten
theorem ringsOf_parts (I : Inv n f g) : ∀ k, k ≤ n → Parts n f g ((List.range k).foldl (ringsStep f n) []) k
  | 0, _ => ⟨fun r hr => by simp at hr, by simp, fun c hc => absurd hc (by omega)⟩
  | k + 1, hk => by
    have ih := ringsOf_parts I k (by omega)
    rw [List.range_succ, List.foldl_append]
    show Parts n f g (ringsStep f n _ k) (k + 1)
    generalize (List.range k).foldl (ringsStep f n) [] = rs at ih
    unfold ringsStep
    by_cases hm : k ∈ rs.flatten
    · rw [if_pos hm]
      refine ⟨ih.by_, ih.nd, fun c hc => ?_⟩
      by_cases e : c = k
      · rw [e]; exact hm
      · exact ih.all c (by omega)
    · rw [if_neg hm]
      obtain ⟨hr, hin⟩ := ringOf_by I (show k < n by omega)
      refine ⟨fun r h => ?_, ?_, fun c hc => ?_⟩
      · rcases List.mem_append.mp h with h | h
        · exact ih.by_ r h
        · rw [List.mem_singleton.mp h]; exact hr
      · rw [List.flatten_append, List.flatten_singleton]
        refine List.nodup_append.mpr ⟨ih.nd, hr.nd, fun a ha b hb e => hm ?_⟩
        subst e
        obtain ⟨r', hr', ha'⟩ := List.mem_flatten.mp ha
        obtain ⟨m, h1, h2, h3, h4, e⟩ := ringOf_eq I (show k < n by omega)
        rw [e] at hb
        obtain ⟨t, _, et⟩ := List.mem_map.mp hb
        have back : ∀ t, orb f k t ∈ r' → k ∈ r' := fun t => by
          induction t with
          | zero => exact fun z => z
          | succ t iht =>
            intro z
            have := ((ih.by_ r' hr').closed z).2
            rw [show orb f k (t + 1) = f (orb f k t) from rfl, I.gf _ (orb_lt I (show k < n by omega) t)] at this
            exact iht this
        exact List.mem_flatten.mpr ⟨r', hr', back t (by rw [et]; exact ha')⟩
      · rw [List.flatten_append, List.flatten_singleton]
        by_cases e : c = k
        · rw [e]; exact List.mem_append.mpr (Or.inr hin)
        · exact List.mem_append.mpr (Or.inl (ih.all c (by omega)))
theorem ringsOf_all (I : Inv n f g) : Parts n f g (ringsOf f n) n := ringsOf_parts I n (Nat.le_refl _)
/-! ### looking one up in the table of those behind -/
theorem look_last {m : List (Nat × Nat)} (nd : (m.map (·.1)).Nodup) {x y : Nat} (h : (x, y) ∈ m) : lookB m x = y := by
  unfold lookB
  have h2 : (x, y) ∈ m.reverse := List.mem_reverse.mpr h
  have nd2 : (m.reverse.map (·.1)).Nodup := by
    rw [List.map_reverse]
    exact List.pairwise_reverse.mpr (nd.imp fun z => z.symm)
  generalize m.reverse = l at *
  have : l.lookup x = some y := by
    induction l with
    | nil => simp at h2
    | cons a l ih =>
      obtain ⟨a1, a2⟩ := a
      rw [List.map_cons] at nd2
      have nn := List.nodup_cons.mp nd2
      rw [List.lookup_cons]
      rcases List.mem_cons.mp h2 with e | e
      · cases e
        simp
      · have ne : x ≠ a1 := fun z => nn.1 (List.mem_map.mpr ⟨(x, y), e, z⟩)
        rw [show (x == a1) = false by simpa using ne]
        exact ih e nn.2
  rw [this]
  rfl
theorem behind_fst : ∀ rs : List (List Nat), (behindOf rs).map (·.1) = rs.flatten
  | [] => rfl
  | r :: rs => by
    have ih := behind_fst rs
    unfold behindOf at ih ⊢
    rw [List.flatMap_cons, List.map_append, ih, List.flatten_cons, List.map_map]
    congr 1
    apply List.ext_getElem
    · simp
    · intro i h1 h2
      simp [List.getElem?_eq_getElem h2]
theorem look_parts {rs : List (List Nat)} {k : Nat} (h : Parts n f g rs k) {x : Nat} (hx : x ∈ rs.flatten) : lookB (behindOf rs) x = g x := by
  obtain ⟨r, hr, hx2⟩ := List.mem_flatten.mp hx
  obtain ⟨i, hi, e⟩ := mem_getD hx2
  refine look_last (by rw [behind_fst]; exact h.nd) ?_
  unfold behindOf
  refine List.mem_flatMap.mpr ⟨r, hr, List.mem_map.mpr ⟨i, List.mem_range.mpr hi, ?_⟩⟩
  rw [(h.by_ r hr).dn i hi, e]
end
end TP

set_option Elab.async false
set_option linter.all false
set_option maxRecDepth 100000
set_option maxHeartbeats 2000000
namespace TP
open PySem PySem.Spec PyProof.Rows L2 Tan
section
variable {L : List (List Nat)} {f g : Nat → Nat}
theorem getD_nd {r : List Nat} (nd : r.Nodup) {i j : Nat} (hi : i < r.length) (hj : j < r.length) (e : r.getD i 0 = r.getD j 0) : i = j := by
  rw [List.getD_eq_getElem?_getD, List.getD_eq_getElem?_getD, List.getElem?_eq_getElem hi, List.getElem?_eq_getElem hj] at e
  exact (List.getElem_inj nd).mp (Option.some.inj (by simpa using e))
theorem mod_ne {k m : Nat} (hk : k < m) (h3 : 2 < m) : (k + 1) % m ≠ (k + m - 1) % m := by
  by_cases a : k + 1 = m
  · rw [a, Nat.mod_self, show k + m - 1 = (m - 2) + m by omega, Nat.add_mod_right, Nat.mod_eq_of_lt (by omega)]
    omega
  · rw [Nat.mod_eq_of_lt (show k + 1 < m by omega)]
    by_cases b : k = 0
    · subst b
      rw [show 0 + m - 1 = m - 1 by omega, Nat.mod_eq_of_lt (by omega)]
      omega
    · rw [show k + m - 1 = (k - 1) + m by omega, Nat.add_mod_right, Nat.mod_eq_of_lt (by omega)]
      omega
theorem mod_ne2 {k m : Nat} (hk : k < m) (h3 : 1 < m) : (k + 1) % m ≠ k := by
  by_cases a : k + 1 = m
  · rw [a, Nat.mod_self]
    omega
  · rw [Nat.mod_eq_of_lt (show k + 1 < m by omega)]
    omega
theorem good_rings {rs : List (List Nat)} (v : ValidL L) (h : Good L.length (rkL L) f g) (hp : Parts L.length f g rs L.length) : goodRings L rs = true := by
  unfold goodRings
  rw [Bool.and_eq_true]
  refine ⟨List.all_eq_true.mpr fun r hr => List.all_eq_true.mpr fun k hk => ?_, List.all_eq_true.mpr fun p hpp => ?_⟩
  · have hk := List.mem_range.mp hk
    have b := hp.by_ r hr
    have hx : r.getD k 0 < L.length := b.lt _ (getD_mem hk)
    unfold okR
    have e1 := b.up k hk
    have e2 := b.dn k hk
    obtain ⟨m1, m2⟩ := good_may v h hx
    rw [Bool.and_eq_true]
    refine ⟨?_, ?_⟩
    · rw [e2]
      rcases m2 with m | m
      · rw [decide_eq_true m.symm]; rfl
      · rw [m, Bool.or_true]
    · by_cases l2 : r.length ≤ 2
      · rw [decide_eq_true l2]; rfl
      · have l3 : 2 < r.length := by omega
        have n1 : f (r.getD k 0) ≠ g (r.getD k 0) := fun z => by
          rw [← e1, ← e2] at z
          unfold aheadR behindR at z
          exact mod_ne hk l3 (getD_nd b.nd (Nat.mod_lt _ (by omega)) (Nat.mod_lt _ (by omega)) z)
        have n2 : f (r.getD k 0) ≠ r.getD k 0 := fun z => by
          rw [← e1] at z
          unfold aheadR at z
          exact mod_ne2 hk (by omega) (getD_nd b.nd (Nat.mod_lt _ (by omega)) hk z)
        rw [e1, e2, good_lt v h hx n1, m1.resolve_left n2, Bool.and_self, Bool.or_true]
  · obtain ⟨l1, l2, hw⟩ := mem_open.mp hpp
    have h1 : p.1 < L.length := by omega
    rw [look_parts hp (hp.all _ h1), look_parts hp (hp.all _ l2)]
    have hw2 : would L p.2 p.1 = true := by rw [would_symm]; exact hw
    rw [rather_rk v h1 (Or.inr hw) (good_may v h h1).2, rather_rk v l2 (Or.inr hw2) (good_may v h l2).2]
    have := h.st p.1 p.2 h1 l2
    by_cases q : rkL L p.1 p.2 < rkL L p.1 (g p.1)
    · rw [decide_eq_false (this q), Bool.and_false]; rfl
    · rw [decide_eq_false q]; rfl
end
end TP

set_option Elab.async false
set_option linter.all false
set_option maxRecDepth 100000
set_option maxHeartbeats 2000000
namespace TP
open PySem PySem.Spec PyProof.Rows L2 Tan
/-- a steady way to share: m, whom each has -/
structure SteadyM (L : List (List Nat)) (m : Nat → Nat) : Prop where
  lt : ∀ i, i < L.length → m i < L.length
  inv : ∀ i, i < L.length → m (m i) = i
  may : ∀ i, i < L.length → May L i (m i)
  st : ∀ a b, a < L.length → b < L.length → would L a b = true → ¬ (rkL L a b < rkL L a (m a) ∧ rkL L b a < rkL L b (m b))
section
variable {L : List (List Nat)} {f g : Nat → Nat} {rs : List (List Nat)}
theorem flat_pos {r r' : List Nat} {i j : Nat} (nd : rs.flatten.Nodup) (hr : r ∈ rs) (hr' : r' ∈ rs) (hi : i < r.length) (hj : j < r'.length) (e : r.getD i 0 = r'.getD j 0) : r = r' ∧ i = j := by
  have key : ∀ rs : List (List Nat), rs.flatten.Nodup → r ∈ rs → r' ∈ rs → r = r' ∧ r.Nodup := fun rs => by
    induction rs with
    | nil => intro _ h _; cases h
    | cons a rs ih =>
      intro nd h1 h2
      rw [List.flatten_cons] at nd
      have nn := List.nodup_append.mp nd
      rcases List.mem_cons.mp h1 with e1 | e1 <;> rcases List.mem_cons.mp h2 with e2 | e2
      · exact ⟨by rw [e1, e2], by rw [e1]; exact nn.1⟩
      · refine absurd e (nn.2.2 _ (by rw [← e1]; exact getD_mem hi) _ (List.mem_flatten.mpr ⟨r', e2, getD_mem hj⟩))
      · refine absurd e.symm (nn.2.2 _ (by rw [← e2]; exact getD_mem hj) _ (List.mem_flatten.mpr ⟨r, e1, getD_mem hi⟩))
      · exact ih nn.2.1 e1 e2
  obtain ⟨e1, e2⟩ := key rs nd hr hr'
  subst e1
  exact ⟨rfl, getD_nd e2 hi hj e⟩
/-- what goodRings says, of each -/
theorem rings_up (v : ValidL L) (I : Inv L.length f g) (hp : Parts L.length f g rs L.length) (hg : goodRings L rs = true) {x : Nat} (hx : x < L.length) : May L x (f x) ∧ May L x (g x) ∧ rkL L x (f x) ≤ rkL L x (g x) := by
  unfold goodRings at hg
  rw [Bool.and_eq_true] at hg
  obtain ⟨r, hr, hx2⟩ := List.mem_flatten.mp (hp.all x hx)
  obtain ⟨k, hk, e⟩ := mem_getD hx2
  have h1 := List.all_eq_true.mp (List.all_eq_true.mp hg.1 r hr) k (List.mem_range.mpr hk)
  unfold okR at h1
  rw [(hp.by_ r hr).up k hk, (hp.by_ r hr).dn k hk, e, Bool.and_eq_true, Bool.or_eq_true, Bool.or_eq_true, Bool.and_eq_true, decide_eq_true_eq, decide_eq_true_eq] at h1
  have mg : May L x (g x) := h1.1.elim (fun z => Or.inl z.symm) Or.inr
  rcases h1.2 with l2 | ⟨w1, w2⟩
  · have eq : f x = g x := by
      rw [← e, ← (hp.by_ r hr).up k hk, ← (hp.by_ r hr).dn k hk]
      unfold aheadR behindR
      congr 1
      have : r.length = 1 ∨ r.length = 2 := by omega
      rcases this with q | q
      · rw [q, Nat.mod_one, Nat.mod_one]
      · rw [q]
        have : k = 0 ∨ k = 1 := by omega
        rcases this with rfl | rfl <;> rfl
    rw [eq]
    exact ⟨mg, mg, Nat.le_refl _⟩
  · have mf : May L x (f x) := Or.inr w1
    rw [rather_rk v hx mf mg, decide_eq_true_eq] at w2
    exact ⟨mf, mg, Nat.le_of_lt w2⟩
open Classical in
theorem rings_steady (v : ValidL L) (I : Inv L.length f g) (hp : Parts L.length f g rs L.length) (hg : goodRings L rs = true) (ev : ∀ r ∈ rs, r.length ≤ 2 ∨ r.length % 2 = 0) : ∃ m, SteadyM L m := by
  have up := fun x hx => rings_up v I hp hg (x := x) hx
  have dec : ∃ E : Nat → Prop, ∀ x, E x ↔ ∃ r ∈ rs, ∃ k, k < r.length ∧ k % 2 = 0 ∧ r.getD k 0 = x := ⟨_, fun _ => Iff.rfl⟩
  obtain ⟨E, hE⟩ := dec
  have le : ∀ x, x < L.length → rkL L x (if E x then f x else g x) ≤ rkL L x (g x) := fun x hx => by
    by_cases q : E x
    · rw [if_pos q]; exact (up x hx).2.2
    · rw [if_neg q]; exact Nat.le_refl _
  have bl : ∀ a b, a < L.length → b < L.length → a < b → would L a b = true → ¬ (rkL L a b < rkL L a (g a) ∧ rkL L b a < rkL L b (g b)) := fun a b ha hb l hw ⟨q1, q2⟩ => by
    unfold goodRings at hg
    rw [Bool.and_eq_true] at hg
    have h2 := List.all_eq_true.mp hg.2 (a, b) (mem_open.mpr ⟨l, hb, hw⟩)
    dsimp only at h2
    rw [look_parts hp (hp.all _ ha), look_parts hp (hp.all _ hb), rather_rk v ha (Or.inr hw) (up a ha).2.1, rather_rk v hb (Or.inr (by rw [would_symm]; exact hw)) (up b hb).2.1, decide_eq_true q1, decide_eq_true q2] at h2
    cases h2
  refine ⟨fun x => if E x then f x else g x, fun i hi => ?_, fun i hi => ?_, fun i hi => ?_, fun a b ha hb hw ⟨q1, q2⟩ => ?_⟩
  · by_cases q : E i
    · rw [if_pos q]; exact I.lf i hi
    · rw [if_neg q]; exact I.lg i hi
  · obtain ⟨r, hr, hx2⟩ := List.mem_flatten.mp (hp.all i hi)
    obtain ⟨k, hk, e⟩ := mem_getD hx2
    have b := hp.by_ r hr
    have Ek : E i ↔ k % 2 = 0 := ⟨fun z => by
      obtain ⟨r', hr', k', hk', h1, h2⟩ := (hE i).mp z
      have := (flat_pos hp.nd hr hr' hk hk' (by rw [e, h2])).2
      rw [this]; exact h1, fun z => (hE i).mpr ⟨r, hr, k, hk, z, e⟩⟩
    have uk := b.up k hk
    have dk := b.dn k hk
    rw [e] at uk dk
    unfold aheadR at uk
    unfold behindR at dk
    have other : ∀ j, j < r.length → (E (r.getD j 0) ↔ j % 2 = 0) := fun j hj => ⟨fun z => by
      obtain ⟨r', hr', k', hk', h1, h2⟩ := (hE _).mp z
      have := (flat_pos hp.nd hr hr' hj hk' h2.symm).2
      rw [this]; exact h1, fun z => (hE _).mpr ⟨r, hr, j, hj, z, rfl⟩⟩
    have hev := ev r hr
    by_cases one : r.length = 1
    · have k0 : k = 0 := by omega
      subst k0
      have ei : E i := Ek.mpr rfl
      rw [if_pos ei]
      have fi : f i = i := by
        rw [← uk, one, Nat.mod_one, e]
      rw [fi, if_pos ei, fi]
    · have l0 : 0 < r.length := by omega
      have e2 : r.length % 2 = 0 := by omega
      by_cases q : k % 2 = 0
      · rw [if_pos (Ek.mpr q)]
        have kk : (k + 1) % r.length = k + 1 := Nat.mod_eq_of_lt (by omega)
        rw [kk] at uk
        have ne : ¬ E (f i) := by
          rw [← uk, other (k + 1) (by omega)]
          omega
        rw [if_neg ne]
        exact I.gf i hi
      · rw [if_neg (fun z => q (Ek.mp z))]
        have kk : (k + r.length - 1) % r.length = k - 1 := by
          rw [show k + r.length - 1 = (k - 1) + r.length by omega, Nat.add_mod_right, Nat.mod_eq_of_lt (by omega)]
        rw [kk] at dk
        have ne : E (g i) := by
          rw [← dk, other (k - 1) (by omega)]
          omega
        rw [if_pos ne]
        exact I.fg i hi
  · by_cases q : E i
    · rw [if_pos q]; exact (up i hi).1
    · rw [if_neg q]; exact (up i hi).2.1
  · have la := le a ha
    have lb := le b hb
    have nab := would_ne v ha hw

    rcases Nat.lt_or_gt_of_ne nab with l | l
    · exact bl b a hb ha l (by rw [would_symm]; exact hw) ⟨by omega, by omega⟩
    · exact bl a b ha hb l hw ⟨by omega, by omega⟩
end
end TP

set_option Elab.async false
set_option linter.all false
set_option maxRecDepth 100000
set_option maxHeartbeats 2000000
namespace TP
open PySem PySem.Spec PyProof.Rows L2 Tan
/-! ### pairings -/
def clash (p o : Nat × Nat) : Bool := (decide (p.1 = o.1) || decide (p.1 = o.2)) || (decide (p.2 = o.1) || decide (p.2 = o.2))
def pairStep (found : List (List (Nat × Nat))) (p : Nat × Nat) : List (List (Nat × Nat)) := found ++ (found.filter fun s => !s.any fun o => clash p o).map fun s => s ++ [p]
def pairU (L : List (List Nat)) : List (List (Nat × Nat)) := (openPairs L).foldl pairStep [[]]
def NoClash (ps : List (Nat × Nat)) : Prop := ps.Pairwise fun a b => clash b a = false
theorem pair_mem : ∀ (os ps s : List (Nat × Nat)) (acc : List (List (Nat × Nat))), ps.Sublist os → s ∈ acc → NoClash (s ++ ps) → s ++ ps ∈ os.foldl pairStep acc
  | [], ps, s, acc, h, hs, _ => by
    have : ps = [] := List.sublist_nil.mp h
    rw [this, List.append_nil]
    exact hs
  | o :: os, ps, s, acc, h, hs, hn => by
    rw [List.foldl_cons]
    cases h with
    | cons _ h => exact pair_mem os ps s _ h (List.mem_append.mpr (Or.inl hs)) hn
    | @cons_cons ps' _ _ h =>
      have e : s ++ o :: ps' = (s ++ [o]) ++ ps' := by simp
      rw [e] at hn ⊢
      refine pair_mem os ps' (s ++ [o]) _ h (List.mem_append.mpr (Or.inr (List.mem_map.mpr ⟨s, List.mem_filter.mpr ⟨hs, ?_⟩, rfl⟩))) hn
      have h2 := (List.pairwise_append.mp (List.pairwise_append.mp hn).1).2.2
      rw [Bool.not_eq_true', List.any_eq_false]
      intro x hx
      rw [h2 x hx o (List.mem_singleton.mpr rfl)]
      decide
end TP

set_option Elab.async false
set_option linter.all false
set_option maxRecDepth 100000
set_option maxHeartbeats 2000000
namespace TP
open PySem PySem.Spec PyProof.Rows L2 Tan
/-! ### all steady pairings -/
def pairings (L : List (List Nat)) : List (List (Nat × Nat)) := (pairU L).mergeSort (PySem.W.dataLe false ePs)
def noBlock (L : List (List Nat)) (ps : List (Nat × Nat)) (m : List Nat) : Bool := !(ps.any (blocks L m))
def allSteady (L : List (List Nat)) : List (List (Nat × Nat)) := (pairings L).filter fun s => noBlock L (openPairs L) (matesOf L.length s)
theorem mem_pairings {L : List (List Nat)} {s : List (Nat × Nat)} : s ∈ pairings L ↔ s ∈ pairU L := (List.mergeSort_perm _ _).mem_iff
theorem pairings_len (L : List (List Nat)) : (pairings L).length = (pairU L).length := (List.mergeSort_perm _ _).length_eq
theorem clash_false {p o : Nat × Nat} : clash p o = false ↔ p.1 ≠ o.1 ∧ p.1 ≠ o.2 ∧ p.2 ≠ o.1 ∧ p.2 ≠ o.2 := by
  unfold clash
  simp only [Bool.or_eq_false_iff, decide_eq_false_iff_not]
  exact ⟨fun ⟨⟨a, b⟩, c, d⟩ => ⟨a, b, c, d⟩, fun ⟨a, b, c, d⟩ => ⟨⟨a, b⟩, c, d⟩⟩
/-- what stands in the fold: parts of what was taken, nobody twice -/
theorem pair_fold : ∀ (os pre : List (Nat × Nat)) (acc : List (List (Nat × Nat))), (∀ s ∈ acc, s.Sublist pre ∧ NoClash s) → ∀ s ∈ os.foldl pairStep acc, s.Sublist (pre ++ os) ∧ NoClash s
  | [], pre, acc, h, s, hs => by rw [List.append_nil]; exact h s hs
  | o :: os, pre, acc, h, s, hs => by
    rw [List.foldl_cons] at hs
    have := pair_fold os (pre ++ [o]) (pairStep acc o) (fun t ht => ?_) s hs
    · rw [List.append_assoc] at this
      exact this
    · unfold pairStep at ht
      rcases List.mem_append.mp ht with ht | ht
      · exact ⟨(h t ht).1.trans (List.sublist_append_left _ _), (h t ht).2⟩
      · obtain ⟨u, hu, rfl⟩ := List.mem_map.mp ht
        obtain ⟨hu1, hu2⟩ := List.mem_filter.mp hu
        obtain ⟨h1, h2⟩ := h u hu1
        refine ⟨h1.append (List.Sublist.refl _), List.pairwise_append.mpr ⟨h2, List.pairwise_singleton _ _, fun a ha b hb => ?_⟩⟩
        rw [List.mem_singleton] at hb
        subst hb
        rw [Bool.not_eq_true', List.any_eq_false] at hu2
        simpa using hu2 a ha
theorem mem_pairU {L : List (List Nat)} {s : List (Nat × Nat)} (h : s ∈ pairU L) : s.Sublist (openPairs L) ∧ NoClash s := by
  have := pair_fold (openPairs L) [] [[]] (fun t ht => by
    rw [List.mem_singleton] at ht
    subst ht
    exact ⟨List.Sublist.refl _, List.Pairwise.nil⟩) s h
  simpa using this
theorem pairings_ok {L : List (List Nat)} {s : List (Nat × Nat)} (h : s ∈ pairings L) : OkP L s := fun p hp => by
  obtain ⟨h1, h2, h3⟩ := mem_open.mp ((mem_pairU (mem_pairings.mp h)).1.subset hp)
  exact ⟨by omega, h2, h3⟩
theorem noClash_flat : ∀ {s : List (Nat × Nat)}, NoClash s → (∀ p ∈ s, p.1 ≠ p.2) → (flatP s).Nodup
  | [], _, _ => by simp [flatP]
  | p :: s, h, hp => by
    have h2 := List.pairwise_cons.mp h
    have ih := noClash_flat h2.2 fun q hq => hp q (List.mem_cons_of_mem _ hq)
    have e : flatP (p :: s) = p.1 :: p.2 :: flatP s := rfl
    have no : ∀ x ∈ flatP s, p.1 ≠ x ∧ p.2 ≠ x := fun x hx => by
      unfold flatP at hx
      obtain ⟨q, hq, hx⟩ := List.mem_flatMap.mp hx
      obtain ⟨a, b, c, d⟩ := clash_false.mp (h2.1 q hq)
      rcases List.mem_cons.mp hx with rfl | hx
      · exact ⟨fun z => a z.symm, fun z => b z.symm⟩
      · rw [List.mem_singleton] at hx
        subst hx
        exact ⟨fun z => c z.symm, fun z => d z.symm⟩
    rw [e]
    refine List.nodup_cons.mpr ⟨fun hm => ?_, List.nodup_cons.mpr ⟨fun hm => (no _ hm).2 rfl, ih⟩⟩
    rcases List.mem_cons.mp hm with z | hm
    · exact hp p List.mem_cons_self z
    · exact (no _ hm).1 rfl
theorem pairings_nd {L : List (List Nat)} {s : List (Nat × Nat)} (h : s ∈ pairings L) : (flatP s).Nodup := by
  obtain ⟨h1, h2⟩ := mem_pairU (mem_pairings.mp h)
  exact noClash_flat h2 fun p hp => by
    have := (mem_open.mp (h1.subset hp)).1
    omega
theorem open_nodup (L : List (List Nat)) : (openPairs L).Pairwise (· ≠ ·) := by
  unfold openPairs
  rw [List.pairwise_flatMap]
  refine ⟨fun a ha => ?_, ?_⟩
  · unfold openRow
    rw [List.pairwise_map]
    refine List.Pairwise.filter _ (List.nodup_range.imp fun {x y} hxy e => hxy ?_)
    simp only [Prod.mk.injEq, true_and] at e
    omega
  · refine List.nodup_range.imp fun {a b} hab x hx y hy e => hab ?_
    unfold openRow at hx hy
    obtain ⟨_, _, rfl⟩ := List.mem_map.mp hx
    obtain ⟨_, _, rfl⟩ := List.mem_map.mp hy
    simp only [Prod.mk.injEq] at e
    exact e.1
/-! ### whom each has, by pairs of which none share a camper -/
theorem mates_look : ∀ (ps : List (Nat × Nat)) (m : List Nat), (flatP ps).Nodup → (∀ p ∈ ps, p.1 < m.length ∧ p.2 < m.length) → (∀ p ∈ ps, (ps.foldl matesStep m).getD p.1 0 = p.2 ∧ (ps.foldl matesStep m).getD p.2 0 = p.1) ∧ ∀ i, i ∉ flatP ps → (ps.foldl matesStep m).getD i 0 = m.getD i 0
  | [], m, _, _ => ⟨fun _ h => (by cases h), fun _ _ => rfl⟩
  | p :: ps, m, nd, hl => by
    have e : flatP (p :: ps) = p.1 :: p.2 :: flatP ps := rfl
    rw [e] at nd
    obtain ⟨n1, nd⟩ := List.nodup_cons.mp nd
    obtain ⟨n2, nd⟩ := List.nodup_cons.mp nd
    have hp := hl p List.mem_cons_self
    have ih := mates_look ps (matesStep m p) nd fun q hq => by rw [matesStep_len]; exact hl q (List.mem_cons_of_mem _ hq)
    rw [List.foldl_cons]
    have ne : p.1 ≠ p.2 := fun z => n1 (by rw [z]; exact List.mem_cons_self)
    have f1 : (matesStep m p).getD p.1 0 = p.2 := by
      unfold matesStep
      rw [getD_set, if_neg (fun z => ne z.1.symm), getD_set, if_pos ⟨rfl, hp.1⟩]
    have f2 : (matesStep m p).getD p.2 0 = p.1 := by
      unfold matesStep
      rw [getD_set, if_pos ⟨rfl, by rw [List.length_set]; exact hp.2⟩]
    refine ⟨fun q hq => ?_, fun i hi => ?_⟩
    · rcases List.mem_cons.mp hq with rfl | hq
      · rw [ih.2 _ (fun z => n1 (List.mem_cons_of_mem _ z)), ih.2 _ n2]
        exact ⟨f1, f2⟩
      · exact ih.1 q hq
    · rw [e] at hi
      have h1 : i ≠ p.1 := fun z => hi (by rw [z]; exact List.mem_cons_self)
      have h2 : i ≠ p.2 := fun z => hi (by rw [z]; exact List.mem_cons_of_mem _ List.mem_cons_self)
      rw [ih.2 i (fun z => hi (List.mem_cons_of_mem _ (List.mem_cons_of_mem _ z)))]
      unfold matesStep
      rw [getD_set, if_neg (fun z => h2 z.1.symm), getD_set, if_neg (fun z => h1 z.1.symm)]
theorem range_getD {n i : Nat} (h : i < n) : (List.range n).getD i 0 = i := by simp [List.getD_eq_getElem?_getD, h]
/-- a steady way stands among all steady pairings -/
theorem steady_mem {L : List (List Nat)} {m : Nat → Nat} (v : ValidL L) (h : SteadyM L m) : ∃ s ∈ allSteady L, ∀ i, i < L.length → (matesOf L.length s).getD i 0 = m i := by
  let s := (openPairs L).filter fun p => decide (m p.1 = p.2)
  have hs : ∀ p, p ∈ s ↔ p ∈ openPairs L ∧ m p.1 = p.2 := fun p => by
    show p ∈ List.filter _ _ ↔ _
    rw [List.mem_filter, decide_eq_true_eq]
  have hsub : s.Sublist (openPairs L) := List.filter_sublist
  have hnc : NoClash s := by
    have h1 : s.Pairwise (· ≠ ·) := (open_nodup L).sublist hsub
    refine List.Pairwise.imp_of_mem (fun {a b} ha hb ne => ?_) h1
    obtain ⟨oa, ea⟩ := (hs a).mp ha
    obtain ⟨ob, eb⟩ := (hs b).mp hb
    obtain ⟨a1, a2, _⟩ := mem_open.mp oa
    obtain ⟨b1, b2, _⟩ := mem_open.mp ob
    have ia := h.inv a.1 (by omega)
    have ib := h.inv b.1 (by omega)
    rw [ea] at ia
    rw [eb] at ib
    rw [clash_false]
    refine ⟨fun z => ne ?_, fun z => ?_, fun z => ?_, fun z => ne ?_⟩
    · have : b.2 = a.2 := by rw [← eb, z, ea]
      exact Prod.ext z.symm this.symm
    · have : b.2 = a.1 := by rw [← eb, z, ia]
      omega
    · have : b.1 = a.2 := by rw [← ib, z, ea]
      omega
    · have : b.1 = a.1 := by rw [← ib, z, ia]
      exact Prod.ext this.symm z.symm
  have hp : s ∈ pairU L := by
    have := pair_mem (openPairs L) s [] [[]] hsub (List.mem_singleton.mpr rfl) (by simpa using hnc)
    simpa [pairU] using this
  have hp2 : s ∈ pairings L := mem_pairings.mpr hp
  have hok := pairings_ok hp2
  have look := mates_look s (List.range L.length) (pairings_nd hp2) fun p hp => by
    rw [List.length_range]
    exact ⟨(hok p hp).1, (hok p hp).2.1⟩
  have key : ∀ i, i < L.length → (matesOf L.length s).getD i 0 = m i := fun i hi => by
    have hm := h.lt i hi
    have hi2 := h.inv i hi
    rcases h.may i hi with e | hw
    · rw [e]
      unfold matesOf
      rw [look.2 i (fun z => ?_), range_getD hi]
      unfold flatP at z
      obtain ⟨p, hp, z⟩ := List.mem_flatMap.mp z
      obtain ⟨o, ep⟩ := (hs p).mp hp
      obtain ⟨o1, o2, _⟩ := mem_open.mp o
      have ip := h.inv p.1 (by omega)
      rw [ep] at ip
      rcases List.mem_cons.mp z with z | z
      · rw [← z, e] at ep
        omega
      · rw [List.mem_singleton] at z
        rw [← z, e] at ip
        omega
    · have ne := would_ne v hi hw
      rcases Nat.lt_or_gt_of_ne ne with l | l
      · have : (m i, i) ∈ s := (hs _).mpr ⟨mem_open.mpr ⟨l, hi, by rw [would_symm]; exact hw⟩, hi2⟩
        exact (look.1 _ this).2
      · have : (i, m i) ∈ s := (hs _).mpr ⟨mem_open.mpr ⟨l, hm, hw⟩, rfl⟩
        exact (look.1 _ this).1
  refine ⟨s, List.mem_filter.mpr ⟨hp2, ?_⟩, key⟩
  unfold noBlock
  rw [Bool.not_eq_true', List.any_eq_false]
  intro p hpo
  obtain ⟨o1, o2, hw⟩ := mem_open.mp hpo
  have p1 : p.1 < L.length := by omega
  unfold blocks
  rw [key p.1 p1, key p.2 o2, rather_rk v p1 (Or.inr hw) (h.may _ p1), rather_rk v o2 (Or.inr (by rw [would_symm]; exact hw)) (h.may _ o2)]
  intro z
  rw [Bool.and_eq_true, decide_eq_true_eq, decide_eq_true_eq] at z
  exact h.st p.1 p.2 p1 o2 hw z
/-- where there are no steady pairings there are good rings, an odd one of 3 or more among them, at the way that is found -/
theorem rings_there {L : List (List Nat)} (v : ValidL L) : ∃ x ∈ allNexts L, ∃ f g, Inv L.length f g ∧ x = (List.range L.length).map f ∧ goodRings L (ringsOf f L.length) = true := by
  obtain ⟨f, g, h⟩ := tan (rkL_rk v)
  exact ⟨_, good_nexts v h L.length (Nat.le_refl _), f, g, h.toInv, rfl, good_rings v h (ringsOf_all h.toInv)⟩
end TP

set_option Elab.async false
set_option linter.all false
set_option maxRecDepth 100000
set_option maxHeartbeats 4000000
namespace TP
open PySem PySem.Spec PyProof.Rows L2
open Evl (Ex)
-- tactics of this text: what an expression is worth (jv jd jt jo jw), growth (ex), what remains (side); call, calld: what the text adds
local macro_rules | `(tactic| walk_at "ex") => `(tactic| first | exact Ex.refl _ | assumption | (refine' Ex.trans ?_ (by assumption); walk_at "ex"))
local macro_rules | `(tactic| walk_at "vis") => `(tactic| first
  | exact Or.inl rfl
  | exact Or.inr (Or.inl rfl)
  | exact Or.inr (Or.inr rfl))
local macro_rules | `(tactic| walk_at "loc") => `(tactic| first
  | exact Or.inl rfl
  | exact Or.inr rfl)
local macro_rules | `(tactic| walk_at "side") => `(tactic| first
  | assumption
  | omega
  | decide
  | exact rfl
  | (simp_all; done)
  | (simp_all; omega))
local macro_rules | `(tactic| walk_at "hu") => `(tactic| first
  | exact room65 (by assumption)
  | exact Room.units (by assumption))
local macro_rules | `(tactic| walk_at "dp") => `(tactic| first | assumption | (refine' Dx.mono ?_ (by assumption); walk_at "ex"))
local macro_rules | `(tactic| walk_at "var") => `(tactic| first
  | (apply jv_var 0; exact rfl; exact rfl; walk_at "vis"; decide; decide)
  | (apply jv_var 1; exact rfl; exact rfl; walk_at "vis"; decide; decide)
  | (apply jv_var 2; exact rfl; exact rfl; walk_at "vis"; decide; decide)
  | (apply jv_var 3; exact rfl; exact rfl; walk_at "vis"; decide; decide)
  | (apply jv_var 4; exact rfl; exact rfl; walk_at "vis"; decide; decide)
  | (apply jv_var 5; exact rfl; exact rfl; walk_at "vis"; decide; decide)
  | (apply jv_var 6; exact rfl; exact rfl; walk_at "vis"; decide; decide)
  | (apply jv_var 7; exact rfl; exact rfl; walk_at "vis"; decide; decide)
  | (apply jv_var 8; exact rfl; exact rfl; walk_at "vis"; decide; decide)
  | (apply jv_var 9; exact rfl; exact rfl; walk_at "vis"; decide; decide)
  | (apply jv_var 10; exact rfl; exact rfl; walk_at "vis"; decide; decide)
  | (apply jv_var 11; exact rfl; exact rfl; walk_at "vis"; decide; decide)
  | (apply jv_var 12; exact rfl; exact rfl; walk_at "vis"; decide; decide)
  | (apply jv_var 13; exact rfl; exact rfl; walk_at "vis"; decide; decide)
  | (apply jv_var 14; exact rfl; exact rfl; walk_at "vis"; decide; decide)
  | (apply jv_var 15; exact rfl; exact rfl; walk_at "vis"; decide; decide)
  | (apply jv_var 16; exact rfl; exact rfl; walk_at "vis"; decide; decide)
  | (apply jv_var 17; exact rfl; exact rfl; walk_at "vis"; decide; decide)
  | (apply jv_var 18; exact rfl; exact rfl; walk_at "vis"; decide; decide)
  | (apply jv_var 19; exact rfl; exact rfl; walk_at "vis"; decide; decide))
local macro_rules | `(tactic| walk_at "bm") => `(tactic| first
  | assumption)
local macro_rules | `(tactic| walk_at "call") => `(tactic| first
  | fail "call")
local macro_rules | `(tactic| walk_at "calld") => `(tactic| first
  | fail "calld")
local macro_rules | `(tactic| walk_at "kit") => `(tactic| first
  | assumption
  | exact kit_ii
  | exact kit_ib
  | exact kit_bi
  | exact kit_bb
  | exact kit_li
  | exact kit_ll
  | exact kit_tt
  | exact kit_tl
  | exact kit_lt
  | exact kit_tb)
local macro_rules | `(tactic| walk_at "ns") => `(tactic| first
  | exact fun _ _ => rfl)
local macro_rules | `(tactic| walk_at "jv") => `(tactic| first
  | exact jv_int
  | exact jv_bl
  | exact jv_non
  | exact jv_str
  | walk_at "var"
  | (apply jv_add; walk_at "jv"; walk_at "jv")
  | (apply jv_sub; walk_at "jv"; walk_at "jv")
  | (apply jv_neg; walk_at "jv")
  | (apply jv_mul; walk_at "jv"; walk_at "jv"; walk_at "mulok")
  | (apply jv_fdiv; walk_at "jv"; walk_at "jv"; walk_at "divok")
  | (apply jv_mod; walk_at "jv"; walk_at "jv"; walk_at "side")
  | (apply jv_band; walk_at "jv"; walk_at "jv")
  | (apply jv_cmp; walk_at "jo"; (first | exact rfl | exact nomark _))
  | (apply jv_chain op_le op_le; walk_at "jv"; walk_at "jv"; walk_at "jv"; with_unfolding_all rfl)
  | (apply jv_chain op_le op_lt; walk_at "jv"; walk_at "jv"; walk_at "jv"; with_unfolding_all rfl)
  | (apply jv_and; walk_at "jv"; intro hand; walk_at "jv")
  | (apply jv_or; walk_at "jv"; intro hor; walk_at "jv")
  | (apply jv_not; walk_at "jv")
  | (apply jv_one; walk_at "jv")
  | (apply jv_lenM; walk_at "bm"; walk_at "jd"; exact rfl; walk_at "ns")
  | (apply jv_len; walk_at "bm"; walk_at "jd"; exact rfl; walk_at "ns")
  | (apply jv_all; exact rfl; walk_at "bm"; walk_at "jd"; exact rfl; decide +kernel; walk_at "ns")
  | (apply jv_any; exact rfl; walk_at "bm"; walk_at "jd"; exact rfl; decide +kernel; walk_at "ns")
  | (apply jv_lenT; walk_at "bm"; walk_at "jd"; exact rfl; walk_at "ns")
  | walk_at "call"
  | (apply jv_isi; (first | exact boot_tint | exact boot_tbool | exact boot_tlist | exact boot_ttuple); walk_at "bm"; walk_at "bm"; walk_at "jd"; walk_at "kit"; exact rfl; exact rfl; exact boot_isi; walk_at "ns"; decide; decide)
  | (apply jv_lenSet; exact rfl; walk_at "bm"; walk_at "bm"; walk_at "jd"; walk_at "side"; exact rfl; exact rfl; walk_at "ns")
  | (apply jv_ifE; walk_at "jt"; intro hif; walk_at "jv"; intro hif; walk_at "jv")
  | (apply JD.toI; walk_at "jx")
  | (apply JD.toB; walk_at "jx")
  | (apply JD.toS; walk_at "jx"))
local macro_rules | `(tactic| walk_at "mulok") => `(tactic| first
  | exact Or.inr ⟨by decide, by decide⟩
  | exact Or.inl ⟨by decide, by decide⟩
  | exact Or.inl ⟨by omega, by omega⟩
  | exact Or.inr ⟨by omega, by omega⟩)
local macro_rules | `(tactic| walk_at "divok") => `(tactic| first
  | exact ⟨by decide, by decide⟩
  | exact ⟨by omega, by omega⟩)
local macro_rules | `(tactic| walk_at "jx") => `(tactic| first
  | (apply jd_ixN; walk_at "jd"; walk_at "jv"; exact fun _ _ => rfl; walk_at "side")
  | (apply jd_ixNs; walk_at "jd"; walk_at "jv"; exact fun _ _ => rfl; walk_at "side")
  | (apply jd_ixP; walk_at "jd"; walk_at "jv"; exact fun _ _ => rfl; walk_at "side")
  | (apply jd_ixPs; walk_at "jd"; walk_at "jv"; exact fun _ _ => rfl; walk_at "side")
  | (apply jd_ixI; walk_at "jd"; walk_at "jv"; exact fun _ _ => rfl; walk_at "side")
  | (apply jd_ixP1; walk_at "jd")
  | (apply jd_ixP2; walk_at "jd")
  | walk_at "calld")
local macro_rules | `(tactic| walk_at "jd") => `(tactic| first
  | (apply JV.toD; walk_at "var"; walk_at "dp")
  | walk_at "jx"
  | (apply jd_list; walk_at "jad"; exact Nat.le_of_ble_eq_true rfl)
  | (apply jd_tuple; walk_at "jad"; exact Nat.le_of_ble_eq_true rfl)
  | (apply jd_listOf; walk_at "bm"; walk_at "jd"; exact rfl; exact boot_tlist; walk_at "ns")
  | (apply JV.toD (v := V.int _); walk_at "jv"; exact Dx.int _)
  | (apply JV.toD (v := V.bl _); walk_at "jv"; exact Dx.bl _)
  | (apply JV.toD (v := V.str _); walk_at "jv"; exact Dx.str _)
  | (apply jd_ifE; walk_at "jt"; intro hif; walk_at "jd"; intro hif; walk_at "jd"))
local macro_rules | `(tactic| walk_at "jad") => `(tactic| first
  | exact jad_nil
  | (apply jad_cons; walk_at "jd"; walk_at "jad"; walk_at "ns"))
local macro_rules | `(tactic| walk_at "jo") => `(tactic| first
  | (apply jo_isN; walk_at "jv")
  | (apply jo_notN; walk_at "jv")
  | (apply jo_eqI; walk_at "jv"; walk_at "jv")
  | (apply jo_neI; walk_at "jv"; walk_at "jv")
  | (apply jo_lt; walk_at "jv"; walk_at "jv")
  | (apply jo_le; walk_at "jv"; walk_at "jv")
  | (apply jo_gt; walk_at "jv"; walk_at "jv")
  | (apply jo_ge; walk_at "jv"; walk_at "jv")
  | (apply jo_inN; walk_at "hu"; walk_at "jv"; walk_at "jd")
  | (apply jo_niN; walk_at "hu"; walk_at "jv"; walk_at "jd")
  | (apply jo_eqD; walk_at "hu"; walk_at "jd"; walk_at "jd"; walk_at "shp"; walk_at "shp")
  | (apply jo_neD; walk_at "hu"; walk_at "jd"; walk_at "jd"; walk_at "shp"; walk_at "shp"))
local macro_rules | `(tactic| walk_at "shp") => `(tactic| first
  | assumption
  | exact Shp.shaped eLL _
  | exact Shp.shaped ePs _
  | exact Shp.shaped eNs _
  | exact Shp.shaped ePss _
  | exact Shp.shaped eP _
  | exact Shp.shaped eN _
  | exact Shp.shaped eI _
  | decide)
local macro_rules | `(tactic| walk_at "jw") => `(tactic| first
  | (apply jw_one_and; walk_at "jt")
  | (apply jw_one_or; walk_at "jt")
  | (apply jw_and; walk_at "jt"; intro hand; walk_at "jw")
  | (apply jw_or; walk_at "jt"; intro hor; walk_at "jw"))
local macro_rules | `(tactic| walk_at "jt") => `(tactic| first
  | (apply jt_w; walk_at "jw")
  | (apply jt_cmp; walk_at "jo"; (first | exact rfl | exact nomark _))
  | (apply jt_not; walk_at "jt")
  | (apply jt_val; walk_at "jv"; exact fun _ => rfl)
  | (apply jt_chain op_le op_le; walk_at "jv"; walk_at "jv"; walk_at "jv"; with_unfolding_all rfl))
local macro_rules | `(tactic| walk_at "camp") => `(tactic| first | assumption | (refine' CampAt.mono ?_ (by assumption); walk_at "ex"))
local macro_rules | `(tactic| walk_at "calld") => `(tactic| first
  | (apply jd_told; assumption; walk_at "var"; walk_at "camp"; exact rfl)
  | walk_at "calld2")
local macro_rules | `(tactic| walk_at "calld2") => `(tactic| first
  | fail "calld2")
local macro_rules | `(tactic| walk_at "room") => `(tactic| first
  | assumption
  | exact Room.mono (by assumption) (by decide))
local macro_rules | `(tactic| walk_at "bm") => `(tactic| first
  | assumption
  | exact Tx.len (by assumption)
  | exact Tx.range (by assumption)
  | exact Tx.list (by assumption)
  | exact Tx.all (by assumption)
  | exact Tx.any (by assumption)
  | exact Tx.isi (by assumption)
  | exact Tx.int (by assumption)
  | exact Tx.bool (by assumption)
  | exact Tx.set (by assumption)
  | exact Tx.tup (by assumption))
local macro_rules | `(tactic| walk_at "call") => `(tactic| first
  | (apply jv_size; assumption; walk_at "var"; walk_at "camp"; exact rfl)
  | (apply jv_index; walk_at "hu"; walk_at "jd"; walk_at "jv"; walk_at "side"; walk_at "ns"; exact rfl; exact rfl; exact rfl)
  | (apply jv_would; assumption; assumption; walk_at "room"; walk_at "var"; walk_at "camp"; walk_at "jv"; walk_at "jv"; walk_at "side"; walk_at "side"; walk_at "ns"; walk_at "ns"; exact rfl; exact rfl)
  | walk_at "call2")
local macro_rules | `(tactic| walk_at "call2") => `(tactic| first
  | fail "call2")
local macro_rules | `(tactic| walk_at "call2") => `(tactic| first
  | (apply jv_rather; assumption; assumption; walk_at "room"; walk_at "var"; walk_at "camp"; walk_at "jv"; walk_at "jv"; walk_at "jv"; walk_at "side"; walk_at "side"; walk_at "ns"; walk_at "ns"; walk_at "ns"; exact rfl; exact rfl)
  | walk_at "call4")
local macro_rules | `(tactic| walk_at "call4") => `(tactic| first
  | fail "call4")
local macro_rules | `(tactic| walk_at "calld2") => `(tactic| first
  | (apply jd_open; assumption; walk_at "room"; walk_at "var"; walk_at "camp"; walk_at "side"; exact rfl; walk_at "ns"; exact rfl)
  | walk_at "calld4")
local macro_rules | `(tactic| walk_at "calld4") => `(tactic| first
  | fail "calld4")
section
variable {P : Program} {w : World} {K : PySem.W.Frag} {mg : Str → Option Value} {base : Heap} {C : Addr}
/-! ### is_steady -/
abbrev spIs (K : PySem.W.Frag) (C : Addr) : Sp := spOf (fun i : List (List Nat) × List (Nat × Nat) × List Nat => (∀ p ∈ i.2.1, p ∈ openPairs i.1) ∧ OkM i.1 i.2.2) (fun i => [kCamp K C i.1, kD (ePs i.2.1), kD (eNs i.2.2)]) (fun i => kB (noBlock i.1 i.2.1 i.2.2))
theorem ok_is {f : Addr} {fd : FuncData} (F : Fun K "is_steady" "is_steady" s_is_steady f fd) (T : Tx K mg C) (MR : Mt P w K mg base C "rather" 1 (spRather K C)) : FnOk P w K mg base CX0 2 f fd ["camp", "pairs", "mates"] (spIs K C) := by
  refine fun_ok F sc_is_steady (fun _ => rfl) ?_
  rintro cdv A outer s H vs Q E ⟨L, ps, m⟩ G hr ⟨hps, okm⟩ al h k
  obtain ⟨_, pv, mv, rfl, ⟨p, rfl, hc⟩, hp, hm⟩ := al.three
  try dsimp only at hps okm hc hp hm k ⊢
  have nd := sc_is_steady.nd
  refine b_for h (f := eP) (xs := ps) (ji_list (by walk_at "jd")) PassesOwn.never rfl (fun _ => rfl) (fun G3 H4 h4 e3 => ?_)
  refine ⟨fun pre σ' G' H' => ∃ o1 o2, σ' = [some (.ref p), some pv, some mv, o1, o2] ∧ Hs G H G' H' [] ∧ Ex G3 G' ∧ pre.any (blocks L m) = false, ?_, ?_, ?_, ?_⟩
  · exact ⟨none, none, rfl, h4, Ex.refl _, rfl⟩
  · rintro pre σ' G' H' ⟨o1, o2, rfl, hs, e, _⟩
    exact ⟨e, hs.ex⟩
  · rintro pre x post v σ' G' H' hxs ⟨o1, o2, rfl, hs, e, hno⟩ pv2
    obtain ⟨t, rfl, ht⟩ := pv2.pair
    have hx : x ∈ openPairs L := hps x (by rw [hxs]; simp)
    obtain ⟨x1, x2, hw⟩ := mem_open.mp hx
    have x3 : x.1 < L.length := by omega
    have ml : m.length = L.length := okm.1
    have r1 := rather_ok okm x3 hw
    have r2 := rather_ok okm x2 (by rw [would_symm]; exact hw)
    have m1 : x.1 < m.length := by omega
    have m2 : x.2 < m.length := by omega
    refine wg_pair (n := 3) (m := 4) rfl nd rfl (by walk_at "loc") (Or.inl rfl) rfl (by walk_at "loc") (Or.inl rfl) (SqT.of (hs.ex _ _ (e _ _ ht))) ?_ rfl rfl rfl rfl
    refine b_if (p := blocks L m x) hs (by unfold blocks; walk_at "jt") (fun hb H5 h5 => ?_) (fun hb H5 h5 => b_nil (b_nil ?_))
    · refine b_ret h5 (v := .bl false) (by walk_at "jv") (fun H' h' => k _ _ _ _ h' ?_)
      have : noBlock L ps m = false := by
        unfold noBlock
        rw [hxs, List.any_append, List.any_cons, hb]
        simp
      rw [this]
    · exact ⟨G', _, _, rfl, h5, e, by rw [List.any_append, hno, List.any_cons, hb]; rfl⟩
  · rintro σ' G' H' ⟨o1, o2, rfl, hs, e, hno⟩
    refine b_ret hs (v := .bl true) (by walk_at "jv") (fun H' h' => k _ _ _ _ h' ?_)
    unfold noBlock
    rw [hno]
    rfl
/-! ### pairings -/
theorem clash_any {x : Nat × Nat} {s : List (Nat × Nat)} : ((s.map fun o => decide (x.1 ∈ [o.1, o.2]) || decide (x.2 ∈ [o.1, o.2])).any id) = s.any fun o => clash x o := by
  rw [List.any_map]
  congr 1
  funext o
  simp [clash]
theorem pair_len : ∀ (os : List (Nat × Nat)) (acc : List (List (Nat × Nat))), (os.foldl pairStep acc).length ≤ acc.length * 2 ^ os.length
  | [], acc => by simp
  | o :: os, acc => by
    rw [List.foldl_cons, List.length_cons, Nat.pow_succ]
    have h1 := pair_len os (pairStep acc o)
    have h2 : (pairStep acc o).length ≤ 2 * acc.length := by
      unfold pairStep
      rw [List.length_append, List.length_map]
      have := List.length_filter_le (fun s => !s.any fun q => clash o q) acc
      omega
    calc _ ≤ (pairStep acc o).length * 2 ^ os.length := h1
      _ ≤ (2 * acc.length) * 2 ^ os.length := Nat.mul_le_mul_right _ h2
      _ = acc.length * (2 ^ os.length * 2) := by rw [Nat.mul_comm 2, Nat.mul_assoc, Nat.mul_comm 2]
theorem sum_le {α : Type} {f g : α → Nat} : ∀ xs : List α, (∀ x ∈ xs, f x ≤ g x) → (xs.map f).sum ≤ (xs.map g).sum
  | [], _ => Nat.le_refl _
  | x :: xs, h => by
    have h1 := h x List.mem_cons_self
    have h2 := sum_le xs fun y hy => h y (List.mem_cons_of_mem _ hy)
    rw [List.map_cons, List.map_cons, List.sum_cons, List.sum_cons]
    omega
theorem open15 {L : List (List Nat)} (h6 : L.length ≤ 6) : (openPairs L).length ≤ 15 := by
  unfold openPairs
  rw [List.length_flatMap]
  have h1 := sum_le (f := fun a => (openRow L a).length) (g := fun a => L.length - (a + 1)) (List.range L.length) fun a _ => by
    unfold openRow
    rw [List.length_map]
    have h := List.length_filter_le (fun k => would L a (a + 1 + k)) (List.range (L.length - (a + 1)))
    rw [List.length_range] at h
    exact h
  refine Nat.le_trans h1 ?_
  have h2 : ∀ n, n < 7 → ((List.range n).map fun a => n - (a + 1)).sum ≤ 15 := by decide
  exact h2 _ (by omega)
theorem pre_len {L : List (List Nat)} (h6 : L.length ≤ 6) {pre post : List (Nat × Nat)} (e : openPairs L = pre ++ post) : (pre.foldl pairStep [[]]).length ≤ 2 ^ 15 := by
  refine Nat.le_trans (pair_len pre [[]]) ?_
  have h := open15 h6
  rw [e, List.length_append] at h
  rw [List.length_singleton, Nat.one_mul]
  exact Nat.pow_le_pow_right (by decide) (by omega)
theorem pre_short {L : List (List Nat)} (h6 : L.length ≤ 6) {pre post : List (Nat × Nat)} (e : openPairs L = pre ++ post) {z : List (Nat × Nat)} (hz : z ∈ pre.foldl pairStep [[]]) : z.length ≤ 15 := by
  have h1 := (pair_fold pre [] [[]] (fun t ht => by
    rw [List.mem_singleton] at ht
    subst ht
    exact ⟨List.Sublist.refl _, List.Pairwise.nil⟩) z hz).1.length_le
  have h := open15 h6
  rw [e, List.length_append] at h
  rw [List.nil_append] at h1
  omega
abbrev spPairings (K : PySem.W.Frag) (C : Addr) : Sp := spOf (fun i : List (List Nat) => i.length ≤ 6) (fun i => [kCamp K C i]) (fun i => kD (ePss (pairings i)))
theorem ok_pairings {f : Addr} {fd : FuncData} (F : Fun K "pairings" "pairings" s_pairings f fd) (T : Tx K mg C) (hsd : mg "sorted" = none) (MO : Df P w K mg base "open_pairs" 2 (spOpen K C)) : FnOk P w K mg base CX0 3 f fd ["camp"] (spPairings K C) := by
  refine fun_ok F sc_pairings (fun _ => rfl) ?_
  rintro cdv A outer s H vs Q E L G hr hL al h k
  obtain ⟨_, rfl, ⟨p, rfl, hc⟩⟩ := al.one
  try dsimp only at hL hc k ⊢
  have nd := sc_pairings.nd
  have hu := hr.units
  have hu64 : (A.deeper (envOfC "pairings" (defScope s_pairings) s.heap.objs.size f cdv)).units + 64 < cLine := by omega
  refine b_setD (n := 1) h (d := ePss [[]]) (JD.is (d1 := .list [.list []]) (by walk_at "jd") rfl) nd rfl (by walk_at "loc") rfl (Or.inl rfl) (fun G1 H1 fv h1 e1 hf1 => ?_)
  refine b_for h1 (f := eP) (xs := openPairs L) (ji_list (by walk_at "jd")) PassesOwn.never rfl (fun _ => rfl) (fun G2 H2 h2 e2 => ?_)
  refine ⟨fun pre σ' G' H' => ∃ fv o2 o3 o4, σ' = [some (.ref p), some fv, o2, o3, o4, none] ∧ Hs G H G' H' [] ∧ Ex G2 G' ∧ Dx G' fv (ePss (pre.foldl pairStep [[]])), ?_, ?_, ?_, ?_⟩
  · exact ⟨fv, none, none, none, rfl, h2, Ex.refl _, hf1.mono e2⟩
  · rintro pre σ' G' H' ⟨fv, o2, o3, o4, rfl, hs, e, _⟩
    exact ⟨e, hs.ex⟩
  · rintro pre x post v σ' G' H' hxs ⟨fv, o2, o3, o4, rfl, hs, e, hd⟩ pv2
    have hl1 := pre_len hL hxs
    have hxv : Dx G' v (eP x) := pv2.mono e
    generalize hF : pre.foldl pairStep [[]] = found at *
    refine wg_name (n := 2) nd rfl (by walk_at "loc") (Or.inl rfl) ?_
    refine b_setN (n := 3) hs nd rfl (by walk_at "loc") (Or.inl rfl) (fun H3 l h3 => ?_)
    refine b_for h3 (f := ePs) (xs := found) (ji_list (by walk_at "jd")) PassesOwn.never rfl (fun _ => rfl) (fun G4 H4 h4 e4 => ?_)
    refine ⟨fun pr σ' G5 H' => ∃ ws o4, σ' = [some (.ref p), some fv, some v, some (.ref l), o4, none] ∧ Hs G H G5 H' [(l, .lst ws)] ∧ Ex G4 G5 ∧ DxAll G5 ws (((pr.filter fun s => !s.any fun o => clash x o).map fun s => s ++ [x]).map ePs), ?_, ?_, ?_, ?_⟩
    · exact ⟨[], o4, rfl, h4, Ex.refl _, .nil⟩
    · rintro pr σ' G5 H' ⟨ws, o4, rfl, hs, e, _⟩
      exact ⟨e, hs.ex⟩
    · rintro pr z po u σ' G5 H5 hzs ⟨ws, o4, rfl, hs5, e5, hd5⟩ pu
      have hzv : Dx G5 u (ePs z) := pu.mono e5
      have hxv5 : Dx G5 v (eP x) := hxv.mono (e4.trans e5)
      have hwl : ws.length ≤ 2 ^ 15 := by
        have a1 := hd5.length
        rw [List.length_map, List.length_map] at a1
        have a2 := List.length_filter_le (fun s => !s.any fun o => clash x o) pr
        have a3 := congrArg List.length hzs
        rw [List.length_append] at a3
        omega
      have hzl : z.length ≤ 15 := by
        have hz : z ∈ found := by rw [hzs]; simp
        rw [← hF] at hz
        exact pre_short hL hxs hz
      refine wg_name (n := 4) nd rfl (by walk_at "loc") (Or.inl rfl) ?_
      refine' b_if (p := !z.any fun o => clash x o) hs5 (jt_not (jt_val (JV.is (jv_any rfl T.any (bs := z.map fun o => (decide (x.1 = o.1) || decide (x.1 = o.2)) || (decide (x.2 = o.1) || decide (x.2 = o.2))) (JD.is (JN.toD (jn_lc (n := 5) (f0 := eP) (xs := z) (f := fun o => .bool ((decide (x.1 = o.1) || decide (x.1 = o.2)) || (decide (x.2 = o.1) || decide (x.2 = o.2)))) (ji_list (by walk_at "jd")) (by omega) rfl nd rfl (fun _ _ _ _ _ => ⟨by walk_at "loc", by walk_at "loc"⟩) (by first | kernel_rfl | rfl) (fun _ => rfl) ?body)) ?eqm) rfl (by decide +kernel) (by walk_at "ns")) ?eqa) (fun _ => rfl))) (fun hb H6 h6 => ?yes) (fun hb H6 h6 => b_nil (b_nil ⟨G5, ws, _, rfl, h6, e5, ?no⟩))
      case body =>
        intro s h C cl fp y hy G2 u e3 pu
        refine JV.toD (v := .bl _) (jv_or (jv_cmp (jo_inP (by walk_at "jv") (by walk_at "jd")) rfl) (fun _ => jv_one (jv_cmp (jo_inP (by walk_at "jv") (by walk_at "jd")) rfl))) (.bl _)
      case eqm => rw [List.map_map]; rfl
      case eqa =>
        rw [List.any_map]
        rfl
      case yes =>
        refine b_append (n := 3) (d := ePs (z ++ [x])) h6 rfl rfl (by walk_at "vis") (JD.is (JN.toD (jn_cat (ds := z.map eP) (ds2 := [eP x]) (by walk_at "jd") (by walk_at "jd") (by rw [List.length_map, List.length_singleton]; omega))) (by show PyData.list (z.map eP ++ [eP x]) = PyData.list ((z ++ [x]).map eP); rw [List.map_append]; rfl)) (by omega) rfl rfl (by walk_at "ns") rfl rfl rfl rfl (fun G7 H7 v7 h7 e7 d7 => b_nil (b_nil ⟨G7, _, _, rfl, h7, e5.trans e7, ?_⟩))
        rw [List.filter_append, List.filter_cons, if_pos hb, List.filter_nil, List.map_append, List.map_append]
        exact (hd5.mono e7).snoc d7
      case no =>
        rw [List.filter_append, List.filter_cons, if_neg (by rw [hb]; decide), List.filter_nil, List.append_nil]
        exact hd5
    · rintro σ' G5 H5 ⟨ws, o4, rfl, hs5, e5, hd5⟩
      obtain ⟨hf, e6⟩ := hs5.fix
      have hm : Dx (upd G5 l (.lst ws)) (.ref l) (ePss ((found.filter fun s => !s.any fun o => clash x o).map fun s => s ++ [x])) := .lst upd_same (hd5.mono e6)
      have hml : ((found.filter fun s => !s.any fun o => clash x o).map fun s => s ++ [x]).length ≤ 2 ^ 15 := by
        rw [List.length_map]
        exact Nat.le_trans (List.length_filter_le _ _) hl1
      refine b_setD (n := 1) hf (d := ePss (pairStep found x)) (JD.is (JN.toD (jn_cat (ds := found.map ePs) (ds2 := ((found.filter fun s => !s.any fun o => clash x o).map fun s => s ++ [x]).map ePs) (by walk_at "jd") (by walk_at "jd") (by rw [List.length_map, List.length_map]; omega))) (by rw [← List.map_append]; rfl)) nd rfl (by walk_at "loc") rfl (Or.inl rfl) (fun G7 H7 v7 h7 e7 d7 => b_nil ⟨G7, v7, _, _, _, rfl, h7, ((e.trans e4).trans (e5.trans e6)).trans e7, ?_⟩)
      rw [List.foldl_append, hF]
      exact d7
  · rintro σ' G' H' ⟨fv, o2, o3, o4, rfl, hs, e, hd⟩
    refine b_retD hs (d := ePss (pairings L)) (JN.toD (jn_sortedPs (ns := pairU L) hsd ?_ hu64 rfl (by walk_at "ns"))) (fun G2 H3 v h3 pv => k _ _ _ _ h3 pv)
    have : Dx G' fv (ePss (pairU L)) := hd
    walk_at "jd"
end
end TP

set_option Elab.async false
set_option linter.all false
set_option maxRecDepth 100000
set_option maxHeartbeats 4000000
namespace TP
open PySem PySem.Spec PyProof.Rows L2
open Evl (Ex)
-- tactics of this text: what an expression is worth (jv jd jt jo jw), growth (ex), what remains (side); call, calld: what the text adds
local macro_rules | `(tactic| walk_at "ex") => `(tactic| first | exact Ex.refl _ | assumption | (refine' Ex.trans ?_ (by assumption); walk_at "ex"))
local macro_rules | `(tactic| walk_at "vis") => `(tactic| first
  | exact Or.inl rfl
  | exact Or.inr (Or.inl rfl)
  | exact Or.inr (Or.inr rfl))
local macro_rules | `(tactic| walk_at "loc") => `(tactic| first
  | exact Or.inl rfl
  | exact Or.inr rfl)
local macro_rules | `(tactic| walk_at "side") => `(tactic| first
  | assumption
  | omega
  | decide
  | exact rfl
  | (simp_all; done)
  | (simp_all; omega))
local macro_rules | `(tactic| walk_at "hu") => `(tactic| first
  | exact room65 (by assumption)
  | exact Room.units (by assumption))
local macro_rules | `(tactic| walk_at "dp") => `(tactic| first | assumption | (refine' Dx.mono ?_ (by assumption); walk_at "ex"))
local macro_rules | `(tactic| walk_at "var") => `(tactic| first
  | (apply jv_var 0; exact rfl; exact rfl; walk_at "vis"; decide; decide)
  | (apply jv_var 1; exact rfl; exact rfl; walk_at "vis"; decide; decide)
  | (apply jv_var 2; exact rfl; exact rfl; walk_at "vis"; decide; decide)
  | (apply jv_var 3; exact rfl; exact rfl; walk_at "vis"; decide; decide)
  | (apply jv_var 4; exact rfl; exact rfl; walk_at "vis"; decide; decide)
  | (apply jv_var 5; exact rfl; exact rfl; walk_at "vis"; decide; decide)
  | (apply jv_var 6; exact rfl; exact rfl; walk_at "vis"; decide; decide)
  | (apply jv_var 7; exact rfl; exact rfl; walk_at "vis"; decide; decide)
  | (apply jv_var 8; exact rfl; exact rfl; walk_at "vis"; decide; decide)
  | (apply jv_var 9; exact rfl; exact rfl; walk_at "vis"; decide; decide)
  | (apply jv_var 10; exact rfl; exact rfl; walk_at "vis"; decide; decide)
  | (apply jv_var 11; exact rfl; exact rfl; walk_at "vis"; decide; decide)
  | (apply jv_var 12; exact rfl; exact rfl; walk_at "vis"; decide; decide)
  | (apply jv_var 13; exact rfl; exact rfl; walk_at "vis"; decide; decide)
  | (apply jv_var 14; exact rfl; exact rfl; walk_at "vis"; decide; decide)
  | (apply jv_var 15; exact rfl; exact rfl; walk_at "vis"; decide; decide)
  | (apply jv_var 16; exact rfl; exact rfl; walk_at "vis"; decide; decide)
  | (apply jv_var 17; exact rfl; exact rfl; walk_at "vis"; decide; decide)
  | (apply jv_var 18; exact rfl; exact rfl; walk_at "vis"; decide; decide)
  | (apply jv_var 19; exact rfl; exact rfl; walk_at "vis"; decide; decide))
local macro_rules | `(tactic| walk_at "bm") => `(tactic| first
  | assumption)
local macro_rules | `(tactic| walk_at "call") => `(tactic| first
  | fail "call")
local macro_rules | `(tactic| walk_at "calld") => `(tactic| first
  | fail "calld")
local macro_rules | `(tactic| walk_at "kit") => `(tactic| first
  | assumption
  | exact kit_ii
  | exact kit_ib
  | exact kit_bi
  | exact kit_bb
  | exact kit_li
  | exact kit_ll
  | exact kit_tt
  | exact kit_tl
  | exact kit_lt
  | exact kit_tb)
local macro_rules | `(tactic| walk_at "ns") => `(tactic| first
  | exact fun _ _ => rfl)
local macro_rules | `(tactic| walk_at "jv") => `(tactic| first
  | exact jv_int
  | exact jv_bl
  | exact jv_non
  | exact jv_str
  | walk_at "var"
  | (apply jv_add; walk_at "jv"; walk_at "jv")
  | (apply jv_sub; walk_at "jv"; walk_at "jv")
  | (apply jv_neg; walk_at "jv")
  | (apply jv_mul; walk_at "jv"; walk_at "jv"; walk_at "mulok")
  | (apply jv_fdiv; walk_at "jv"; walk_at "jv"; walk_at "divok")
  | (apply jv_mod; walk_at "jv"; walk_at "jv"; walk_at "side")
  | (apply jv_band; walk_at "jv"; walk_at "jv")
  | (apply jv_cmp; walk_at "jo"; (first | exact rfl | exact nomark _))
  | (apply jv_chain op_le op_le; walk_at "jv"; walk_at "jv"; walk_at "jv"; with_unfolding_all rfl)
  | (apply jv_chain op_le op_lt; walk_at "jv"; walk_at "jv"; walk_at "jv"; with_unfolding_all rfl)
  | (apply jv_and; walk_at "jv"; intro hand; walk_at "jv")
  | (apply jv_or; walk_at "jv"; intro hor; walk_at "jv")
  | (apply jv_not; walk_at "jv")
  | (apply jv_one; walk_at "jv")
  | (apply jv_lenM; walk_at "bm"; walk_at "jd"; exact rfl; walk_at "ns")
  | (apply jv_len; walk_at "bm"; walk_at "jd"; exact rfl; walk_at "ns")
  | (apply jv_all; exact rfl; walk_at "bm"; walk_at "jd"; exact rfl; decide +kernel; walk_at "ns")
  | (apply jv_any; exact rfl; walk_at "bm"; walk_at "jd"; exact rfl; decide +kernel; walk_at "ns")
  | (apply jv_lenT; walk_at "bm"; walk_at "jd"; exact rfl; walk_at "ns")
  | walk_at "call"
  | (apply jv_isi; (first | exact boot_tint | exact boot_tbool | exact boot_tlist | exact boot_ttuple); walk_at "bm"; walk_at "bm"; walk_at "jd"; walk_at "kit"; exact rfl; exact rfl; exact boot_isi; walk_at "ns"; decide; decide)
  | (apply jv_lenSet; exact rfl; walk_at "bm"; walk_at "bm"; walk_at "jd"; walk_at "side"; exact rfl; exact rfl; walk_at "ns")
  | (apply jv_ifE; walk_at "jt"; intro hif; walk_at "jv"; intro hif; walk_at "jv")
  | (apply JD.toI; walk_at "jx")
  | (apply JD.toB; walk_at "jx")
  | (apply JD.toS; walk_at "jx"))
local macro_rules | `(tactic| walk_at "mulok") => `(tactic| first
  | exact Or.inr ⟨by decide, by decide⟩
  | exact Or.inl ⟨by decide, by decide⟩
  | exact Or.inl ⟨by omega, by omega⟩
  | exact Or.inr ⟨by omega, by omega⟩)
local macro_rules | `(tactic| walk_at "divok") => `(tactic| first
  | exact ⟨by decide, by decide⟩
  | exact ⟨by omega, by omega⟩)
local macro_rules | `(tactic| walk_at "jx") => `(tactic| first
  | (apply jd_ixN; walk_at "jd"; walk_at "jv"; exact fun _ _ => rfl; walk_at "side")
  | (apply jd_ixNs; walk_at "jd"; walk_at "jv"; exact fun _ _ => rfl; walk_at "side")
  | (apply jd_ixP; walk_at "jd"; walk_at "jv"; exact fun _ _ => rfl; walk_at "side")
  | (apply jd_ixPs; walk_at "jd"; walk_at "jv"; exact fun _ _ => rfl; walk_at "side")
  | (apply jd_ixI; walk_at "jd"; walk_at "jv"; exact fun _ _ => rfl; walk_at "side")
  | (apply jd_ixP1; walk_at "jd")
  | (apply jd_ixP2; walk_at "jd")
  | walk_at "calld")
local macro_rules | `(tactic| walk_at "jd") => `(tactic| first
  | (apply JV.toD; walk_at "var"; walk_at "dp")
  | walk_at "jx"
  | (apply jd_list; walk_at "jad"; exact Nat.le_of_ble_eq_true rfl)
  | (apply jd_tuple; walk_at "jad"; exact Nat.le_of_ble_eq_true rfl)
  | (apply jd_listOf; walk_at "bm"; walk_at "jd"; exact rfl; exact boot_tlist; walk_at "ns")
  | (apply JV.toD (v := V.int _); walk_at "jv"; exact Dx.int _)
  | (apply JV.toD (v := V.bl _); walk_at "jv"; exact Dx.bl _)
  | (apply JV.toD (v := V.str _); walk_at "jv"; exact Dx.str _)
  | (apply jd_ifE; walk_at "jt"; intro hif; walk_at "jd"; intro hif; walk_at "jd"))
local macro_rules | `(tactic| walk_at "jad") => `(tactic| first
  | exact jad_nil
  | (apply jad_cons; walk_at "jd"; walk_at "jad"; walk_at "ns"))
local macro_rules | `(tactic| walk_at "jo") => `(tactic| first
  | (apply jo_isN; walk_at "jv")
  | (apply jo_notN; walk_at "jv")
  | (apply jo_eqI; walk_at "jv"; walk_at "jv")
  | (apply jo_neI; walk_at "jv"; walk_at "jv")
  | (apply jo_lt; walk_at "jv"; walk_at "jv")
  | (apply jo_le; walk_at "jv"; walk_at "jv")
  | (apply jo_gt; walk_at "jv"; walk_at "jv")
  | (apply jo_ge; walk_at "jv"; walk_at "jv")
  | (apply jo_inN; walk_at "hu"; walk_at "jv"; walk_at "jd")
  | (apply jo_niN; walk_at "hu"; walk_at "jv"; walk_at "jd")
  | (apply jo_eqD; walk_at "hu"; walk_at "jd"; walk_at "jd"; walk_at "shp"; walk_at "shp")
  | (apply jo_neD; walk_at "hu"; walk_at "jd"; walk_at "jd"; walk_at "shp"; walk_at "shp"))
local macro_rules | `(tactic| walk_at "shp") => `(tactic| first
  | assumption
  | exact Shp.shaped eLL _
  | exact Shp.shaped ePs _
  | exact Shp.shaped eNs _
  | exact Shp.shaped ePss _
  | exact Shp.shaped eP _
  | exact Shp.shaped eN _
  | exact Shp.shaped eI _
  | decide)
local macro_rules | `(tactic| walk_at "jw") => `(tactic| first
  | (apply jw_one_and; walk_at "jt")
  | (apply jw_one_or; walk_at "jt")
  | (apply jw_and; walk_at "jt"; intro hand; walk_at "jw")
  | (apply jw_or; walk_at "jt"; intro hor; walk_at "jw"))
local macro_rules | `(tactic| walk_at "jt") => `(tactic| first
  | (apply jt_w; walk_at "jw")
  | (apply jt_cmp; walk_at "jo"; (first | exact rfl | exact nomark _))
  | (apply jt_not; walk_at "jt")
  | (apply jt_val; walk_at "jv"; exact fun _ => rfl)
  | (apply jt_chain op_le op_le; walk_at "jv"; walk_at "jv"; walk_at "jv"; with_unfolding_all rfl))
local macro_rules | `(tactic| walk_at "camp") => `(tactic| first | assumption | (refine' CampAt.mono ?_ (by assumption); walk_at "ex"))
local macro_rules | `(tactic| walk_at "calld") => `(tactic| first
  | (apply jd_told; assumption; walk_at "var"; walk_at "camp"; exact rfl)
  | walk_at "calld2")
local macro_rules | `(tactic| walk_at "calld2") => `(tactic| first
  | fail "calld2")
local macro_rules | `(tactic| walk_at "room") => `(tactic| first
  | assumption
  | exact Room.mono (by assumption) (by decide))
local macro_rules | `(tactic| walk_at "bm") => `(tactic| first
  | assumption
  | exact Tx.len (by assumption)
  | exact Tx.range (by assumption)
  | exact Tx.list (by assumption)
  | exact Tx.all (by assumption)
  | exact Tx.any (by assumption)
  | exact Tx.isi (by assumption)
  | exact Tx.int (by assumption)
  | exact Tx.bool (by assumption)
  | exact Tx.set (by assumption)
  | exact Tx.tup (by assumption))
local macro_rules | `(tactic| walk_at "call") => `(tactic| first
  | (apply jv_size; assumption; walk_at "var"; walk_at "camp"; exact rfl)
  | (apply jv_index; walk_at "hu"; walk_at "jd"; walk_at "jv"; walk_at "side"; walk_at "ns"; exact rfl; exact rfl; exact rfl)
  | (apply jv_would; assumption; assumption; walk_at "room"; walk_at "var"; walk_at "camp"; walk_at "jv"; walk_at "jv"; walk_at "side"; walk_at "side"; walk_at "ns"; walk_at "ns"; exact rfl; exact rfl)
  | walk_at "call2")
local macro_rules | `(tactic| walk_at "call2") => `(tactic| first
  | fail "call2")
local macro_rules | `(tactic| walk_at "call2") => `(tactic| first
  | (apply jv_rather; assumption; assumption; walk_at "room"; walk_at "var"; walk_at "camp"; walk_at "jv"; walk_at "jv"; walk_at "jv"; walk_at "side"; walk_at "side"; walk_at "ns"; walk_at "ns"; walk_at "ns"; exact rfl; exact rfl)
  | walk_at "call4")
local macro_rules | `(tactic| walk_at "call4") => `(tactic| first
  | fail "call4")
local macro_rules | `(tactic| walk_at "calld2") => `(tactic| first
  | (apply jd_open; assumption; walk_at "room"; walk_at "var"; walk_at "camp"; walk_at "side"; exact rfl; walk_at "ns"; exact rfl)
  | walk_at "calld4")
local macro_rules | `(tactic| walk_at "calld4") => `(tactic| first
  | fail "calld4")
section
variable {X : Cx} {σ : L2.St} {e o a b c : Expr} {es : List Expr} {G : Hp} {pos : Pos} {x : Str} {C p : Addr} {L : List (List Nat)} {ps : List (Nat × Nat)} {m : List Nat}
theorem jd_pairings {ap : Pos} (M : Df X.prog X.w X.K X.mg X.base "pairings" 3 (spPairings X.K C)) (hr : Room 3 X.A) (ho : JV X σ o G (.ref p)) (hc : CampAt X.K C G p L) (hL : L.length ≤ 6) (hg : Gl X "pairings") (na : NoStar o)
    (hpl : (backTo pos (starEach [] X.env)).any (·.1) = false) : JD X σ (.Call (.Name "pairings" ap) [o] [] pos) G (ePss (pairings L)) :=
  (jp_call M hr hg L hL (jal_cons (ho.toP ⟨p, rfl, hc⟩) mo_Camp (fun _ _ => jal_nil) na) na (by decide) hpl).toD
theorem jv_is {ap : Pos} (M : Df X.prog X.w X.K X.mg X.base "is_steady" 2 (spIs X.K C)) (hr : Room 2 X.A) (ho : JV X σ o G (.ref p)) (hc : CampAt X.K C G p L) (ha : JD X σ a G (ePs ps)) (hb : JD X σ b G (eNs m)) (hps : ∀ p ∈ ps, p ∈ openPairs L) (hm : OkM L m) (hg : Gl X "is_steady") (no : NoStar o) (na : NoStar a) (nb : NoStar b)
    (hpl : (backTo pos (starEach [a, b] X.env)).any (·.1) = false) : JV X σ (.Call (.Name "is_steady" ap) [o, a, b] [] pos) G (.bl (noBlock L ps m)) :=
  (jp_call M hr hg (L, ps, m) ⟨hps, hm⟩ (jal_cons (ho.toP ⟨p, rfl, hc⟩) mo_Camp (fun _ e => jal_cons (ha.mono e).toP mo_D (fun _ e2 => jal_cons (hb.mono (e.trans e2)).toP mo_D (fun _ _ => jal_nil) nb) na) no) no (by decide) hpl).toB
end
theorem pairings_le {L : List (List Nat)} (h6 : L.length ≤ 6) : (pairings L).length ≤ 2 ^ 15 := by
  rw [pairings_len]
  exact pre_len (post := []) h6 (List.append_nil _).symm
theorem pairings_short {L : List (List Nat)} (h6 : L.length ≤ 6) {s : List (Nat × Nat)} (h : s ∈ pairings L) : s.length ≤ 15 :=
  pre_short (post := []) h6 (List.append_nil _).symm (mem_pairings.mp h)
section
variable {P : Program} {w : World} {K : PySem.W.Frag} {mg : Str → Option Value} {base : Heap} {C : Addr}
abbrev spAll (K : PySem.W.Frag) (C : Addr) : Sp := spOf (fun i : List (List Nat) => i.length ≤ 6) (fun i => [kCamp K C i]) (fun i => kD (ePss (allSteady i)))
theorem ok_all {f : Addr} {fd : FuncData} (F : Fun K "all_steady" "all_steady" s_all_steady f fd) (T : Tx K mg C) (MO : Df P w K mg base "open_pairs" 2 (spOpen K C)) (MP : Df P w K mg base "pairings" 3 (spPairings K C)) (MI : Df P w K mg base "is_steady" 2 (spIs K C)) (MM : Df P w K mg base "mates_of" 1 (spMates K C)) : FnOk P w K mg base CX0 4 f fd ["camp"] (spAll K C) := by
  refine fun_ok F sc_all_steady (fun _ => rfl) ?_
  rintro cdv A outer s H vs Q E L G hr hL al h k
  obtain ⟨_, rfl, ⟨p, rfl, hc⟩⟩ := al.one
  try dsimp only at hL hc k ⊢
  have nd := sc_all_steady.nd
  refine b_setD (n := 1) h (d := ePs (openPairs L)) (by walk_at "jd") nd rfl (by walk_at "loc") rfl (Or.inl rfl) (fun G1 H1 pv h1 e1 hp => ?_)
  refine b_retD h1 (d := ePss (allSteady L)) (JN.toD (jn_lcT (n := 2) (f0 := ePs) (xs := pairings L) (p := fun s => noBlock L (openPairs L) (matesOf L.length s)) (f := ePs) (ji_list (jd_pairings MP (hr.mono (by decide)) (by walk_at "var") (by walk_at "camp") hL rfl (by walk_at "ns") rfl)) (Nat.lt_of_le_of_lt (pairings_le hL) (by decide)) rfl nd rfl (fun _ _ _ _ _ => ⟨by walk_at "loc", by walk_at "loc"⟩) (by first | kernel_rfl | rfl) (fun _ => rfl) ?_ ?_)) (fun G2 H3 v h3 pv => k _ _ _ _ h3 pv)
  · intro s h C cl fp y hy G2 u e3 pu
    have ok := pairings_ok hy
    refine jt_val (jv_is MI (hr.mono (by decide)) (by walk_at "var") (by walk_at "camp") (by walk_at "jd") (JN.toD (jn_mates MM (hr.mono (by decide)) (by walk_at "var") (by walk_at "camp") (by walk_at "jd") hL (fun q hq => ⟨(ok q hq).1, (ok q hq).2.1⟩) rfl (by walk_at "ns") (by walk_at "ns") rfl)) (fun _ h => h) (okM_mates ok) rfl (by walk_at "ns") (by walk_at "ns") (by walk_at "ns") rfl) (fun _ => rfl)
  · intro s h C cl fp y hy hn G2 u e3 pu
    walk_at "jd"
/-! ### fits -/
/-- nexts that are given: each may be had -/
def NxtOk (L : List (List Nat)) (s : List Nat) : Prop := s.length ≤ L.length ∧ ∀ i, i < s.length → s.getD i 0 < L.length ∧ (s.getD i 0 = i ∨ would L i (s.getD i 0) = true)
abbrev spFits (K : PySem.W.Frag) (C : Addr) : Sp := spOf (fun i : List (List Nat) × List Nat × Nat × Nat => NxtOk i.1 i.2.1 ∧ i.2.2.1 < i.1.length ∧ i.2.2.2 < i.1.length) (fun i => [kCamp K C i.1, kD (eNs i.2.1), kI i.2.2.1, kI i.2.2.2]) (fun i => kB (fitsL i.1 i.2.1 i.2.2.1 i.2.2.2))
theorem ok_fits {f : Addr} {fd : FuncData} (F : Fun K "fits" "fits" s_fits f fd) (T : Tx K mg C) (MW : Mt P w K mg base C "would" 1 (spWould K C)) (MR : Mt P w K mg base C "rather" 1 (spRather K C)) : FnOk P w K mg base CX0 2 f fd ["camp", "some", "camper", "other"] (spFits K C) := by
  refine fun_ok F sc_fits (fun _ => rfl) ?_
  rintro cdv A outer s H vs Q E ⟨L, sm, c, o⟩ G hr ⟨hok, hc0, ho0⟩ al h k
  obtain ⟨_, sv, _, _, rfl, ⟨p, rfl, hc⟩, hs, rfl, rfl⟩ := al.four
  try dsimp only at hok hc0 ho0 hc hs k ⊢
  have nd := sc_fits.nd
  refine b_if (p := !would L c o) h (by walk_at "jt") (fun hb H1 h1 => ?_) (fun hb H1 h1 => b_nil ?_)
  · refine b_ret h1 (v := .bl false) (by walk_at "jv") (fun H' h' => k _ _ _ _ h' ?_)
    rw [Bool.not_eq_true'] at hb
    unfold fitsL
    rw [hb]
    rfl
  have hw : would L c o = true := by simpa using hb
  have tail : ∀ (o4 : Option V) (H1 : Hp), Hs G H G H1 [] → (if c ∈ sm then (decide (sm.idxOf c = o) || rather L c o (sm.idxOf c)) else true) = true → wSs (cxOf CX0 P w K mg base n_fits "fits" (defScope s_fits) f cdv A outer s H E).nox ((defBody s_fits).drop 2) { nx := fun _ H' => Q .non H', rt := Q } [some (.ref p), some sv, some (.int (c : Int)), some (.int (o : Int)), o4] H1 := fun o4 H1 h1 hq => by
    have e2 : (would L c o && (if c ∈ sm then (decide (sm.idxOf c = o) || rather L c o (sm.idxOf c)) else true)) = true := by rw [hw, hq]; rfl
    refine b_if (p := decide ((o : Int) < (sm.length : Int)) && !decide ((sm.getD o 0 : Int) = (c : Int))) h1 (jt_w (jw_and (by walk_at "jt") (fun hl => jw_one_and ?_))) (fun hb H2 h2 => ?_) (fun hb H2 h2 => b_nil ?_)
    · have hl2 : o < sm.length := by simpa using hl
      walk_at "jt"
    · simp only [Bool.and_eq_true, decide_eq_true_eq, Bool.not_eq_true', decide_eq_false_iff_not, Int.ofNat_inj, Int.ofNat_lt] at hb
      obtain ⟨hl2, hne⟩ := hb
      have hm := hok.2 o hl2
      have hin : ¬ sm.getD o 0 = c → ¬ sm.getD o 0 = o → ¬ c = o → sm.getD o 0 ∈ L.getD o [] ∧ c ∈ L.getD o [] := fun _ z _ => ⟨(would_iff.mp (hm.2.resolve_left z)).1, (would_iff.mp hw).2⟩
      refine b_ret h2 (v := .bl (rather L o (sm.getD o 0) c)) (by walk_at "jv") (fun H' h' => k _ _ _ _ h' ?_)
      unfold fitsL
      rw [e2, if_pos ⟨hl2, hne⟩]
      rfl
    · refine b_ret h2 (v := .bl true) (by walk_at "jv") (fun H' h' => k _ _ _ _ h' ?_)
      unfold fitsL
      rw [e2, if_neg]
      · rfl
      · rintro ⟨z1, z2⟩
        rw [decide_eq_true (show (o : Int) < (sm.length : Int) by omega), decide_eq_false (fun z => z2 (by omega))] at hb
        cases hb
  refine b_ifK (p := decide (c ∈ sm)) (fun s g h' => ∃ o4, s = [some (.ref p), some sv, some (.int (c : Int)), some (.int (o : Int)), o4] ∧ Hs G H G h' [] ∧ (if c ∈ sm then (decide (sm.idxOf c = o) || rather L c o (sm.idxOf c)) else true) = true) h1 h1.ex (by walk_at "jt") (fun hb H2 h2 _ => ?_) (fun hb H2 h2 _ => ?_) ?_
  · have hcm : c ∈ sm := by simpa using hb
    refine b_setV (n := 4) (v := .int ((sm.idxOf c : Nat) : Int)) h2 (by walk_at "jv") nd rfl (by walk_at "loc") rfl (Or.inl rfl) (fun H3 h3 => ?_)
    have hi : sm.idxOf c < sm.length := List.idxOf_lt_length_iff.mpr hcm
    have hg : sm.getD (sm.idxOf c) 0 = c := by rw [List.getD_eq_getElem?_getD, List.getElem?_eq_getElem hi, Option.getD_some, List.getElem_idxOf hi]
    have hm := hok.2 _ hi
    rw [hg] at hm
    have hin : ¬ o = sm.idxOf c → ¬ o = c → ¬ sm.idxOf c = c → o ∈ L.getD c [] ∧ sm.idxOf c ∈ L.getD c [] := fun _ _ z => ⟨(would_iff.mp hw).1, (would_iff.mp (hm.2.resolve_left (fun q => z q.symm))).2⟩
    refine b_if (p := !decide ((sm.idxOf c : Int) = o) && !rather L c o (sm.idxOf c)) h3 (by walk_at "jt") (fun hb H4 h4 => ?_) (fun hb H4 h4 => b_nil (b_nil ?_))
    · refine b_ret h4 (v := .bl false) (by walk_at "jv") (fun H' h' => k _ _ _ _ h' ?_)
      simp only [Bool.and_eq_true, Bool.not_eq_true', decide_eq_false_iff_not, Int.ofNat_inj] at hb
      unfold fitsL
      rw [if_pos hcm, decide_eq_false hb.1, hb.2, hw]
      rfl
    · refine ⟨G, _, rfl, h4, ?_⟩
      rw [if_pos hcm]
      cases q : decide (sm.idxOf c = o) with
      | true => rfl
      | false =>
        rw [decide_eq_false_iff_not] at q
        rw [decide_eq_false (fun z => q (by omega))] at hb
        simpa using hb
  · have hcm : ¬ c ∈ sm := by simpa using hb
    exact b_nil ⟨G, none, rfl, h2, by rw [if_neg hcm]⟩
  · rintro σ' G' H' ⟨o4, rfl, h2, hq⟩
    exact tail o4 H' h2 hq
end
end TP

set_option Elab.async false
set_option linter.all false
set_option maxRecDepth 100000
set_option maxHeartbeats 4000000
namespace TP
open PySem PySem.Spec PyProof.Rows L2
open Evl (Ex)
-- tactics of this text: what an expression is worth (jv jd jt jo jw), growth (ex), what remains (side); call, calld: what the text adds
local macro_rules | `(tactic| walk_at "ex") => `(tactic| first | exact Ex.refl _ | assumption | (refine' Ex.trans ?_ (by assumption); walk_at "ex"))
local macro_rules | `(tactic| walk_at "vis") => `(tactic| first
  | exact Or.inl rfl
  | exact Or.inr (Or.inl rfl)
  | exact Or.inr (Or.inr rfl))
local macro_rules | `(tactic| walk_at "loc") => `(tactic| first
  | exact Or.inl rfl
  | exact Or.inr rfl)
local macro_rules | `(tactic| walk_at "side") => `(tactic| first
  | assumption
  | omega
  | decide
  | exact rfl
  | (simp_all; done)
  | (simp_all; omega))
local macro_rules | `(tactic| walk_at "hu") => `(tactic| first
  | exact room65 (by assumption)
  | exact Room.units (by assumption))
local macro_rules | `(tactic| walk_at "dp") => `(tactic| first | assumption | (refine' Dx.mono ?_ (by assumption); walk_at "ex"))
local macro_rules | `(tactic| walk_at "var") => `(tactic| first
  | (apply jv_var 0; exact rfl; exact rfl; walk_at "vis"; decide; decide)
  | (apply jv_var 1; exact rfl; exact rfl; walk_at "vis"; decide; decide)
  | (apply jv_var 2; exact rfl; exact rfl; walk_at "vis"; decide; decide)
  | (apply jv_var 3; exact rfl; exact rfl; walk_at "vis"; decide; decide)
  | (apply jv_var 4; exact rfl; exact rfl; walk_at "vis"; decide; decide)
  | (apply jv_var 5; exact rfl; exact rfl; walk_at "vis"; decide; decide)
  | (apply jv_var 6; exact rfl; exact rfl; walk_at "vis"; decide; decide)
  | (apply jv_var 7; exact rfl; exact rfl; walk_at "vis"; decide; decide)
  | (apply jv_var 8; exact rfl; exact rfl; walk_at "vis"; decide; decide)
  | (apply jv_var 9; exact rfl; exact rfl; walk_at "vis"; decide; decide)
  | (apply jv_var 10; exact rfl; exact rfl; walk_at "vis"; decide; decide)
  | (apply jv_var 11; exact rfl; exact rfl; walk_at "vis"; decide; decide)
  | (apply jv_var 12; exact rfl; exact rfl; walk_at "vis"; decide; decide)
  | (apply jv_var 13; exact rfl; exact rfl; walk_at "vis"; decide; decide)
  | (apply jv_var 14; exact rfl; exact rfl; walk_at "vis"; decide; decide)
  | (apply jv_var 15; exact rfl; exact rfl; walk_at "vis"; decide; decide)
  | (apply jv_var 16; exact rfl; exact rfl; walk_at "vis"; decide; decide)
  | (apply jv_var 17; exact rfl; exact rfl; walk_at "vis"; decide; decide)
  | (apply jv_var 18; exact rfl; exact rfl; walk_at "vis"; decide; decide)
  | (apply jv_var 19; exact rfl; exact rfl; walk_at "vis"; decide; decide))
local macro_rules | `(tactic| walk_at "bm") => `(tactic| first
  | assumption)
local macro_rules | `(tactic| walk_at "call") => `(tactic| first
  | fail "call")
local macro_rules | `(tactic| walk_at "calld") => `(tactic| first
  | fail "calld")
local macro_rules | `(tactic| walk_at "kit") => `(tactic| first
  | assumption
  | exact kit_ii
  | exact kit_ib
  | exact kit_bi
  | exact kit_bb
  | exact kit_li
  | exact kit_ll
  | exact kit_tt
  | exact kit_tl
  | exact kit_lt
  | exact kit_tb)
local macro_rules | `(tactic| walk_at "ns") => `(tactic| first
  | exact fun _ _ => rfl)
local macro_rules | `(tactic| walk_at "jv") => `(tactic| first
  | exact jv_int
  | exact jv_bl
  | exact jv_non
  | exact jv_str
  | walk_at "var"
  | (apply jv_add; walk_at "jv"; walk_at "jv")
  | (apply jv_sub; walk_at "jv"; walk_at "jv")
  | (apply jv_neg; walk_at "jv")
  | (apply jv_mul; walk_at "jv"; walk_at "jv"; walk_at "mulok")
  | (apply jv_fdiv; walk_at "jv"; walk_at "jv"; walk_at "divok")
  | (apply jv_mod; walk_at "jv"; walk_at "jv"; walk_at "side")
  | (apply jv_band; walk_at "jv"; walk_at "jv")
  | (apply jv_cmp; walk_at "jo"; (first | exact rfl | exact nomark _))
  | (apply jv_chain op_le op_le; walk_at "jv"; walk_at "jv"; walk_at "jv"; with_unfolding_all rfl)
  | (apply jv_chain op_le op_lt; walk_at "jv"; walk_at "jv"; walk_at "jv"; with_unfolding_all rfl)
  | (apply jv_and; walk_at "jv"; intro hand; walk_at "jv")
  | (apply jv_or; walk_at "jv"; intro hor; walk_at "jv")
  | (apply jv_not; walk_at "jv")
  | (apply jv_one; walk_at "jv")
  | (apply jv_lenM; walk_at "bm"; walk_at "jd"; exact rfl; walk_at "ns")
  | (apply jv_len; walk_at "bm"; walk_at "jd"; exact rfl; walk_at "ns")
  | (apply jv_all; exact rfl; walk_at "bm"; walk_at "jd"; exact rfl; decide +kernel; walk_at "ns")
  | (apply jv_any; exact rfl; walk_at "bm"; walk_at "jd"; exact rfl; decide +kernel; walk_at "ns")
  | (apply jv_lenT; walk_at "bm"; walk_at "jd"; exact rfl; walk_at "ns")
  | walk_at "call"
  | (apply jv_isi; (first | exact boot_tint | exact boot_tbool | exact boot_tlist | exact boot_ttuple); walk_at "bm"; walk_at "bm"; walk_at "jd"; walk_at "kit"; exact rfl; exact rfl; exact boot_isi; walk_at "ns"; decide; decide)
  | (apply jv_lenSet; exact rfl; walk_at "bm"; walk_at "bm"; walk_at "jd"; walk_at "side"; exact rfl; exact rfl; walk_at "ns")
  | (apply jv_ifE; walk_at "jt"; intro hif; walk_at "jv"; intro hif; walk_at "jv")
  | (apply JD.toI; walk_at "jx")
  | (apply JD.toB; walk_at "jx")
  | (apply JD.toS; walk_at "jx"))
local macro_rules | `(tactic| walk_at "mulok") => `(tactic| first
  | exact Or.inr ⟨by decide, by decide⟩
  | exact Or.inl ⟨by decide, by decide⟩
  | exact Or.inl ⟨by omega, by omega⟩
  | exact Or.inr ⟨by omega, by omega⟩)
local macro_rules | `(tactic| walk_at "divok") => `(tactic| first
  | exact ⟨by decide, by decide⟩
  | exact ⟨by omega, by omega⟩)
local macro_rules | `(tactic| walk_at "jx") => `(tactic| first
  | (apply jd_ixN; walk_at "jd"; walk_at "jv"; exact fun _ _ => rfl; walk_at "side")
  | (apply jd_ixNs; walk_at "jd"; walk_at "jv"; exact fun _ _ => rfl; walk_at "side")
  | (apply jd_ixP; walk_at "jd"; walk_at "jv"; exact fun _ _ => rfl; walk_at "side")
  | (apply jd_ixPs; walk_at "jd"; walk_at "jv"; exact fun _ _ => rfl; walk_at "side")
  | (apply jd_ixI; walk_at "jd"; walk_at "jv"; exact fun _ _ => rfl; walk_at "side")
  | (apply jd_ixP1; walk_at "jd")
  | (apply jd_ixP2; walk_at "jd")
  | walk_at "calld")
local macro_rules | `(tactic| walk_at "jd") => `(tactic| first
  | (apply JV.toD; walk_at "var"; walk_at "dp")
  | walk_at "jx"
  | (apply jd_list; walk_at "jad"; exact Nat.le_of_ble_eq_true rfl)
  | (apply jd_tuple; walk_at "jad"; exact Nat.le_of_ble_eq_true rfl)
  | (apply jd_listOf; walk_at "bm"; walk_at "jd"; exact rfl; exact boot_tlist; walk_at "ns")
  | (apply JV.toD (v := V.int _); walk_at "jv"; exact Dx.int _)
  | (apply JV.toD (v := V.bl _); walk_at "jv"; exact Dx.bl _)
  | (apply JV.toD (v := V.str _); walk_at "jv"; exact Dx.str _)
  | (apply jd_ifE; walk_at "jt"; intro hif; walk_at "jd"; intro hif; walk_at "jd"))
local macro_rules | `(tactic| walk_at "jad") => `(tactic| first
  | exact jad_nil
  | (apply jad_cons; walk_at "jd"; walk_at "jad"; walk_at "ns"))
local macro_rules | `(tactic| walk_at "jo") => `(tactic| first
  | (apply jo_isN; walk_at "jv")
  | (apply jo_notN; walk_at "jv")
  | (apply jo_eqI; walk_at "jv"; walk_at "jv")
  | (apply jo_neI; walk_at "jv"; walk_at "jv")
  | (apply jo_lt; walk_at "jv"; walk_at "jv")
  | (apply jo_le; walk_at "jv"; walk_at "jv")
  | (apply jo_gt; walk_at "jv"; walk_at "jv")
  | (apply jo_ge; walk_at "jv"; walk_at "jv")
  | (apply jo_inN; walk_at "hu"; walk_at "jv"; walk_at "jd")
  | (apply jo_niN; walk_at "hu"; walk_at "jv"; walk_at "jd")
  | (apply jo_eqD; walk_at "hu"; walk_at "jd"; walk_at "jd"; walk_at "shp"; walk_at "shp")
  | (apply jo_neD; walk_at "hu"; walk_at "jd"; walk_at "jd"; walk_at "shp"; walk_at "shp"))
local macro_rules | `(tactic| walk_at "shp") => `(tactic| first
  | assumption
  | exact Shp.shaped eLL _
  | exact Shp.shaped ePs _
  | exact Shp.shaped eNs _
  | exact Shp.shaped ePss _
  | exact Shp.shaped eP _
  | exact Shp.shaped eN _
  | exact Shp.shaped eI _
  | decide)
local macro_rules | `(tactic| walk_at "jw") => `(tactic| first
  | (apply jw_one_and; walk_at "jt")
  | (apply jw_one_or; walk_at "jt")
  | (apply jw_and; walk_at "jt"; intro hand; walk_at "jw")
  | (apply jw_or; walk_at "jt"; intro hor; walk_at "jw"))
local macro_rules | `(tactic| walk_at "jt") => `(tactic| first
  | (apply jt_w; walk_at "jw")
  | (apply jt_cmp; walk_at "jo"; (first | exact rfl | exact nomark _))
  | (apply jt_not; walk_at "jt")
  | (apply jt_val; walk_at "jv"; exact fun _ => rfl)
  | (apply jt_chain op_le op_le; walk_at "jv"; walk_at "jv"; walk_at "jv"; with_unfolding_all rfl))
local macro_rules | `(tactic| walk_at "camp") => `(tactic| first | assumption | (refine' CampAt.mono ?_ (by assumption); walk_at "ex"))
local macro_rules | `(tactic| walk_at "calld") => `(tactic| first
  | (apply jd_told; assumption; walk_at "var"; walk_at "camp"; exact rfl)
  | walk_at "calld2")
local macro_rules | `(tactic| walk_at "calld2") => `(tactic| first
  | fail "calld2")
local macro_rules | `(tactic| walk_at "room") => `(tactic| first
  | assumption
  | exact Room.mono (by assumption) (by decide))
local macro_rules | `(tactic| walk_at "bm") => `(tactic| first
  | assumption
  | exact Tx.len (by assumption)
  | exact Tx.range (by assumption)
  | exact Tx.list (by assumption)
  | exact Tx.all (by assumption)
  | exact Tx.any (by assumption)
  | exact Tx.isi (by assumption)
  | exact Tx.int (by assumption)
  | exact Tx.bool (by assumption)
  | exact Tx.set (by assumption)
  | exact Tx.tup (by assumption))
local macro_rules | `(tactic| walk_at "call") => `(tactic| first
  | (apply jv_size; assumption; walk_at "var"; walk_at "camp"; exact rfl)
  | (apply jv_index; walk_at "hu"; walk_at "jd"; walk_at "jv"; walk_at "side"; walk_at "ns"; exact rfl; exact rfl; exact rfl)
  | (apply jv_would; assumption; assumption; walk_at "room"; walk_at "var"; walk_at "camp"; walk_at "jv"; walk_at "jv"; walk_at "side"; walk_at "side"; walk_at "ns"; walk_at "ns"; exact rfl; exact rfl)
  | walk_at "call2")
local macro_rules | `(tactic| walk_at "call2") => `(tactic| first
  | fail "call2")
local macro_rules | `(tactic| walk_at "call2") => `(tactic| first
  | (apply jv_rather; assumption; assumption; walk_at "room"; walk_at "var"; walk_at "camp"; walk_at "jv"; walk_at "jv"; walk_at "jv"; walk_at "side"; walk_at "side"; walk_at "ns"; walk_at "ns"; walk_at "ns"; exact rfl; exact rfl)
  | walk_at "call4")
local macro_rules | `(tactic| walk_at "call4") => `(tactic| first
  | fail "call4")
local macro_rules | `(tactic| walk_at "calld2") => `(tactic| first
  | (apply jd_open; assumption; walk_at "room"; walk_at "var"; walk_at "camp"; walk_at "side"; exact rfl; walk_at "ns"; exact rfl)
  | walk_at "calld4")
local macro_rules | `(tactic| walk_at "calld4") => `(tactic| first
  | fail "calld4")
section
variable {X : Cx} {σ : L2.St} {e o a b c : Expr} {es : List Expr} {G : Hp} {pos : Pos} {x : Str} {C p : Addr} {L : List (List Nat)} {ps : List (Nat × Nat)} {m : List Nat}
theorem jv_fits {ca ot : Nat} {ap : Pos} (M : Df X.prog X.w X.K X.mg X.base "fits" 2 (spFits X.K C)) (hr : Room 2 X.A) (ho : JV X σ o G (.ref p)) (hc : CampAt X.K C G p L) (ha : JD X σ a G (eNs m)) (hb : JV X σ b G (.int (ca : Int))) (hd : JV X σ c G (.int (ot : Int))) (hm : NxtOk L m) (h1 : ca < L.length) (h2 : ot < L.length) (hg : Gl X "fits") (no : NoStar o) (na : NoStar a) (nb : NoStar b) (nc : NoStar c)
    (hpl : (backTo pos (starEach [a, b, c] X.env)).any (·.1) = false) : JV X σ (.Call (.Name "fits" ap) [o, a, b, c] [] pos) G (.bl (fitsL L m ca ot)) :=
  (jp_call M hr hg (L, m, ca, ot) ⟨hm, h1, h2⟩ (jal_cons (ho.toP ⟨p, rfl, hc⟩) mo_Camp (fun _ e => jal_cons (ha.mono e).toP mo_D (fun _ e2 => jal_cons (hb.mono (e.trans e2)).toPV mo_V (fun _ e3 => jal_cons (hd.mono ((e.trans e2).trans e3)).toPV mo_V (fun _ _ => jal_nil) nc) nb) na) no) no (by decide) hpl).toB
end
local macro_rules | `(tactic| walk_at "call4") => `(tactic| first
  | (apply jv_fits; assumption; walk_at "room"; walk_at "var"; walk_at "camp"; walk_at "jd"; walk_at "jv"; walk_at "jv"; walk_at "side"; walk_at "side"; walk_at "side"; exact rfl; walk_at "ns"; walk_at "ns"; walk_at "ns"; walk_at "ns"; exact rfl))
/-! ### pure facts -/
theorem range_pre {n : Nat} {pre post : List Nat} {x : Nat} (h : List.range n = pre ++ x :: post) : pre = List.range x ∧ x < n := by
  have hl := congrArg List.length h
  rw [List.length_range, List.length_append, List.length_cons] at hl
  have h1 : (List.range n)[pre.length]? = some x := by rw [h]; simp
  rw [List.getElem?_range (by omega)] at h1
  have e : pre.length = x := by simpa using h1
  refine ⟨?_, by omega⟩
  have h2 : (List.range n).take pre.length = pre := by rw [h]; simp
  rw [← h2, e, List.take_range]
  congr 1
  omega
structure NxtAt (L : List (List Nat)) (k : Nat) (s : List Nat) : Prop where
  len : s.length = k
  nd : s.Nodup
  ok : NxtOk L s
theorem getD_snocN (s : List Nat) (o i : Nat) : (s ++ [o]).getD i 0 = if i = s.length then o else s.getD i 0 := by
  rw [List.getD_eq_getElem?_getD, List.getD_eq_getElem?_getD, List.getElem?_append]
  by_cases h : i < s.length
  · rw [if_pos h, if_neg (by omega)]
  · rw [if_neg h]
    by_cases h2 : i = s.length
    · rw [if_pos h2, h2]
      simp
    · rw [if_neg h2, List.getElem?_eq_none (by simp; omega), List.getElem?_eq_none (by omega)]
theorem NxtAt.snoc {L : List (List Nat)} {k : Nat} {s : List Nat} (h : NxtAt L k s) (hk : k < L.length) {o : Nat} (ho : o < L.length) (hn : o ∉ s) (hq : o = k ∨ fitsL L s k o = true) : NxtAt L (k + 1) (s ++ [o]) := by
  refine ⟨by rw [List.length_append, h.len]; rfl, ?_, ?_, fun i hi => ?_⟩
  · rw [List.nodup_append]
    refine ⟨h.nd, by simp, fun a ha b hb e => hn ?_⟩
    rw [List.mem_singleton] at hb
    rw [← hb, ← e]
    exact ha
  · rw [List.length_append, h.len, List.length_singleton]; omega
  · rw [getD_snocN]
    rw [List.length_append, List.length_singleton] at hi
    by_cases e : i = s.length
    · rw [if_pos e]
      refine ⟨ho, ?_⟩
      rw [e, h.len]
      refine hq.imp id fun z => ?_
      unfold fitsL at z
      rw [Bool.and_eq_true, Bool.and_eq_true] at z
      exact z.1.1
    · rw [if_neg e]
      exact h.ok.2 i (by omega)
theorem nexts_at {L : List (List Nat)} : ∀ k, k ≤ L.length → ∀ s ∈ nextsUpto L k, NxtAt L k s
  | 0, _, s, hs => by
    unfold nextsUpto at hs
    rw [List.range_zero, List.foldl_nil, List.mem_singleton] at hs
    subst hs
    exact ⟨rfl, List.nodup_nil, Nat.zero_le _, fun i hi => absurd hi (Nat.not_lt_zero _)⟩
  | k + 1, hk, s, hs => by
    unfold nextsUpto at hs
    rw [List.range_succ, List.foldl_append] at hs
    obtain ⟨t, ht, hs⟩ := List.mem_flatMap.mp (show s ∈ nextsStep L (nextsUpto L k) k from hs)
    have ih := nexts_at k (by omega) t ht
    unfold nextRow at hs
    obtain ⟨o, ho, rfl⟩ := List.mem_map.mp hs
    obtain ⟨h1, h2⟩ := List.mem_filter.mp ho
    simp only [Bool.and_eq_true, Bool.or_eq_true, Bool.not_eq_true', decide_eq_true_eq, decide_eq_false_iff_not] at h2
    exact ih.snoc (by omega) (List.mem_range.mp h1) h2.1 h2.2
theorem nextRow_len (L : List (List Nat)) (c : Nat) (s : List Nat) : (nextRow L c s).length ≤ L.length := by
  unfold nextRow
  rw [List.length_map]
  exact Nat.le_trans (List.length_filter_le _ _) (by rw [List.length_range]; exact Nat.le_refl _)
theorem nexts_len {L : List (List Nat)} (h6 : L.length ≤ 6) : ∀ k, (nextsUpto L k).length ≤ 6 ^ k
  | 0 => by simp [nextsUpto]
  | k + 1 => by
    unfold nextsUpto
    rw [List.range_succ, List.foldl_append]
    show (nextsStep L (nextsUpto L k) k).length ≤ _
    have h1 := len_flatMap (f := nextRow L k) (n := 6) (nextsUpto L k) fun s _ => Nat.le_trans (nextRow_len L k s) h6
    rw [Nat.pow_succ]
    exact Nat.le_trans h1 (Nat.mul_le_mul_right _ (nexts_len h6 k))
section
variable {P : Program} {w : World} {K : PySem.W.Frag} {mg : Str → Option Value} {base : Heap} {C : Addr}
abbrev spNexts (K : PySem.W.Frag) (C : Addr) : Sp := spOf (fun i : List (List Nat) => i.length ≤ 6) (fun i => [kCamp K C i]) (fun i => kD (eLL (allNexts i)))
theorem ok_nexts {f : Addr} {fd : FuncData} (F : Fun K "all_nexts" "all_nexts" s_all_nexts f fd) (T : Tx K mg C) (MF : Df P w K mg base "fits" 2 (spFits K C)) : FnOk P w K mg base CX0 3 f fd ["camp"] (spNexts K C) := by
  refine fun_ok F sc_all_nexts (fun _ => rfl) ?_
  rintro cdv A outer s H vs Q E L G hr hL al h k
  obtain ⟨_, rfl, ⟨p, rfl, hc⟩⟩ := al.one
  try dsimp only at hL hc k ⊢
  have nd := sc_all_nexts.nd
  refine b_setD (n := 1) h (d := eLL [[]]) (JD.is (d1 := .list [.list []]) (by walk_at "jd") rfl) nd rfl (by walk_at "loc") rfl (Or.inl rfl) (fun G1 H1 fv h1 e1 hf1 => ?_)
  refine b_for h1 (f := eN) (xs := List.range L.length) (ji_range1 T.range (by walk_at "jv") (by omega) rfl (by walk_at "ns")) PassesOwn.never rfl (fun _ => rfl) (fun G2 H2 h2 e2 => ?_)
  refine ⟨fun pre σ' G' H' => ∃ fv o2 o3 o4 o5, σ' = [some (.ref p), some fv, o2, o3, o4, o5] ∧ Hs G H G' H' [] ∧ Ex G2 G' ∧ Dx G' fv (eLL (pre.foldl (nextsStep L) [[]])), ?_, ?_, ?_, ?_⟩
  · exact ⟨fv, none, none, none, none, rfl, h2, Ex.refl _, hf1.mono e2⟩
  · rintro pre σ' G' H' ⟨fv, o2, o3, o4, o5, rfl, hs, e, _⟩
    exact ⟨e, hs.ex⟩
  · rintro pre x post v σ' G' H' hxs ⟨fv, o2, o3, o4, o5, rfl, hs, e, hd⟩ pv2
    cases pv2
    obtain ⟨epre, hx⟩ := range_pre hxs
    have hF : pre.foldl (nextsStep L) [[]] = nextsUpto L x := by rw [epre]; rfl
    rw [hF] at hd
    have hat := nexts_at (L := L) x (by omega)
    have hfl : (nextsUpto L x).length ≤ 6 ^ 5 := Nat.le_trans (nexts_len hL x) (Nat.pow_le_pow_right (by decide) (by omega))
    refine wg_name (n := 2) nd rfl (by walk_at "loc") (Or.inl rfl) ?_
    refine b_setN (n := 3) hs nd rfl (by walk_at "loc") (Or.inl rfl) (fun H3 l h3 => ?_)
    refine b_for h3 (f := eNs) (xs := nextsUpto L x) (ji_list (by walk_at "jd")) PassesOwn.never rfl (fun _ => rfl) (fun G4 H4 h4 e4 => ?_)
    refine ⟨fun pr σ' G5 H' => ∃ ws o4 o5, σ' = [some (.ref p), some fv, some (.int (x : Int)), some (.ref l), o4, o5] ∧ Hs G H G5 H' [(l, .lst ws)] ∧ Ex G4 G5 ∧ DxAll G5 ws ((pr.flatMap (nextRow L x)).map eNs), ?_, ?_, ?_, ?_⟩
    · exact ⟨[], o4, o5, rfl, h4, Ex.refl _, .nil⟩
    · rintro pr σ' G5 H' ⟨ws, o4, o5, rfl, hs, e, _⟩
      exact ⟨e, hs.ex⟩
    · rintro pr z po u σ' G5 H5 hzs ⟨ws, o4, o5, rfl, hs5, e5, hd5⟩ pu
      have hzm : z ∈ nextsUpto L x := by rw [hzs]; simp
      have hza := hat z hzm
      have hok := hza.ok
      have hzv : Dx G5 u (eNs z) := pu.mono e5
      have hwl : ws.length ≤ 6 ^ 5 * 6 := by
        have a1 := hd5.length
        rw [List.length_map] at a1
        have a2 := len_flatMap (f := nextRow L x) (n := 6) pr fun s _ => Nat.le_trans (nextRow_len L x s) hL
        have a3 := congrArg List.length hzs
        rw [List.length_append] at a3
        have a4 : pr.length * 6 ≤ 6 ^ 5 * 6 := Nat.mul_le_mul_right _ (by omega)
        omega
      refine wg_name (n := 4) nd rfl (by walk_at "loc") (Or.inl rfl) ?_
      refine b_for hs5 (f := eN) (xs := List.range L.length) (ji_range1 T.range (by walk_at "jv") (by omega) rfl (by walk_at "ns")) PassesOwn.never rfl (fun _ => rfl) (fun G6 H6 h6 e6 => ?_)
      refine ⟨fun pq σ' G7 H' => ∃ us o5, σ' = [some (.ref p), some fv, some (.int (x : Int)), some (.ref l), some u, o5] ∧ Hs G H G7 H' [(l, .lst (ws ++ us))] ∧ Ex G6 G7 ∧ DxAll G7 us (((pq.filter fun o => !decide (o ∈ z) && (decide (o = x) || fitsL L z x o)).map fun o => z ++ [o]).map eNs), ?_, ?_, ?_, ?_⟩
      · exact ⟨[], o5, rfl, by rw [List.append_nil]; exact h6, Ex.refl _, .nil⟩
      · rintro pq σ' G7 H' ⟨us, o5, rfl, hs, e, _⟩
        exact ⟨e, hs.ex⟩
      · rintro pq y qo vy σ' G7 H7 hys ⟨us, o5, rfl, hs7, e7, hd7⟩ py
        cases py
        have hy : y < L.length := (range_pre hys).2
        have hul : us.length ≤ 6 := by
          have a1 := hd7.length
          rw [List.length_map, List.length_map] at a1
          have a2 := List.length_filter_le (fun o => !decide (o ∈ z) && (decide (o = x) || fitsL L z x o)) pq
          have a3 := congrArg List.length hys
          rw [List.length_append, List.length_range] at a3
          omega
        have hzl : z.length ≤ 6 := by rw [hza.len]; omega
        refine wg_name (n := 5) nd rfl (by walk_at "loc") (Or.inl rfl) ?_
        refine b_if (p := !decide (y ∈ z) && (decide ((y : Int) = (x : Int)) || fitsL L z x y)) hs7 (by walk_at "jt") (fun hb H8 h8 => ?_) (fun hb H8 h8 => b_nil (b_nil ⟨G7, us, _, rfl, h8, e7, ?_⟩))
        · have hb2 : (!decide (y ∈ z) && (decide (y = x) || fitsL L z x y)) = true := by rw [← show decide ((y : Int) = (x : Int)) = decide (y = x) from by simp only [Int.ofNat_inj]]; exact hb
          refine b_append (n := 3) (d := eNs (z ++ [y])) h8 rfl rfl (by walk_at "vis") (JD.is (JN.toD (jn_cat (ds := z.map eN) (ds2 := [eN y]) (by walk_at "jd") (by walk_at "jd") (by rw [List.length_map, List.length_singleton]; omega))) (by show PyData.list (z.map eN ++ [eN y]) = PyData.list ((z ++ [y]).map eN); rw [List.map_append]; rfl)) (by rw [List.length_append]; omega) rfl rfl (by walk_at "ns") rfl rfl rfl rfl (fun G9 H9 v9 h9 e9 d9 => b_nil (b_nil ⟨G9, us ++ [v9], _, rfl, by rw [← List.append_assoc]; exact h9, e7.trans e9, ?_⟩))
          rw [List.filter_append, List.filter_cons, if_pos hb2, List.filter_nil, List.map_append, List.map_append]
          exact (hd7.mono e9).snoc d9
        · have hb2 : (!decide (y ∈ z) && (decide (y = x) || fitsL L z x y)) = false := by rw [← show decide ((y : Int) = (x : Int)) = decide (y = x) from by simp only [Int.ofNat_inj]]; exact hb
          rw [List.filter_append, List.filter_cons, if_neg (by rw [hb2]; decide), List.filter_nil, List.append_nil]
          exact hd7
      · rintro σ' G7 H7 ⟨us, o5, rfl, hs7, e7, hd7⟩
        refine b_nil ⟨G7, ws ++ us, _, _, rfl, hs7, e5.trans (e6.trans e7), ?_⟩
        rw [List.flatMap_append, List.map_append]
        refine (hd5.mono (e6.trans e7)).append ?_
        rw [List.flatMap_cons, List.flatMap_nil, List.append_nil]
        exact hd7
    · rintro σ' G5 H5 ⟨ws, o4, o5, rfl, hs5, e5, hd5⟩
      obtain ⟨hf, e6⟩ := hs5.fix
      have hm : Dx (upd G5 l (.lst ws)) (.ref l) (eLL (nextsStep L (nextsUpto L x) x)) := .lst upd_same (hd5.mono e6)
      refine b_setD (n := 1) hf (d := eLL (nextsStep L (nextsUpto L x) x)) (by walk_at "jd") nd rfl (by walk_at "loc") rfl (Or.inl rfl) (fun G7 H7 v7 h7 e7 d7 => b_nil ⟨G7, v7, _, _, _, _, rfl, h7, ((e.trans e4).trans (e5.trans e6)).trans e7, ?_⟩)
      rw [List.foldl_append, hF]
      exact d7
  · rintro σ' G' H' ⟨fv, o2, o3, o4, o5, rfl, hs, e, hd⟩
    refine b_retD hs (d := eLL (allNexts L)) ?_ (fun G2 H3 v h3 pv => k _ _ _ _ h3 pv)
    have : Dx G' fv (eLL (allNexts L)) := hd
    walk_at "jd"
end
end TP

set_option Elab.async false
set_option linter.all false
set_option maxRecDepth 100000
set_option maxHeartbeats 4000000
namespace TP
open PySem PySem.Spec PyProof.Rows L2
open Evl (Ex)
-- tactics of this text: what an expression is worth (jv jd jt jo jw), growth (ex), what remains (side); call, calld: what the text adds
local macro_rules | `(tactic| walk_at "ex") => `(tactic| first | exact Ex.refl _ | assumption | (refine' Ex.trans ?_ (by assumption); walk_at "ex"))
local macro_rules | `(tactic| walk_at "vis") => `(tactic| first
  | exact Or.inl rfl
  | exact Or.inr (Or.inl rfl)
  | exact Or.inr (Or.inr rfl))
local macro_rules | `(tactic| walk_at "loc") => `(tactic| first
  | exact Or.inl rfl
  | exact Or.inr rfl)
local macro_rules | `(tactic| walk_at "side") => `(tactic| first
  | assumption
  | omega
  | decide
  | exact rfl
  | (simp_all; done)
  | (simp_all; omega))
local macro_rules | `(tactic| walk_at "hu") => `(tactic| first
  | exact room65 (by assumption)
  | exact Room.units (by assumption))
local macro_rules | `(tactic| walk_at "dp") => `(tactic| first | assumption | (refine' Dx.mono ?_ (by assumption); walk_at "ex"))
local macro_rules | `(tactic| walk_at "var") => `(tactic| first
  | (apply jv_var 0; exact rfl; exact rfl; walk_at "vis"; decide; decide)
  | (apply jv_var 1; exact rfl; exact rfl; walk_at "vis"; decide; decide)
  | (apply jv_var 2; exact rfl; exact rfl; walk_at "vis"; decide; decide)
  | (apply jv_var 3; exact rfl; exact rfl; walk_at "vis"; decide; decide)
  | (apply jv_var 4; exact rfl; exact rfl; walk_at "vis"; decide; decide)
  | (apply jv_var 5; exact rfl; exact rfl; walk_at "vis"; decide; decide)
  | (apply jv_var 6; exact rfl; exact rfl; walk_at "vis"; decide; decide)
  | (apply jv_var 7; exact rfl; exact rfl; walk_at "vis"; decide; decide)
  | (apply jv_var 8; exact rfl; exact rfl; walk_at "vis"; decide; decide)
  | (apply jv_var 9; exact rfl; exact rfl; walk_at "vis"; decide; decide)
  | (apply jv_var 10; exact rfl; exact rfl; walk_at "vis"; decide; decide)
  | (apply jv_var 11; exact rfl; exact rfl; walk_at "vis"; decide; decide)
  | (apply jv_var 12; exact rfl; exact rfl; walk_at "vis"; decide; decide)
  | (apply jv_var 13; exact rfl; exact rfl; walk_at "vis"; decide; decide)
  | (apply jv_var 14; exact rfl; exact rfl; walk_at "vis"; decide; decide)
  | (apply jv_var 15; exact rfl; exact rfl; walk_at "vis"; decide; decide)
  | (apply jv_var 16; exact rfl; exact rfl; walk_at "vis"; decide; decide)
  | (apply jv_var 17; exact rfl; exact rfl; walk_at "vis"; decide; decide)
  | (apply jv_var 18; exact rfl; exact rfl; walk_at "vis"; decide; decide)
  | (apply jv_var 19; exact rfl; exact rfl; walk_at "vis"; decide; decide))
local macro_rules | `(tactic| walk_at "bm") => `(tactic| first
  | assumption)
local macro_rules | `(tactic| walk_at "call") => `(tactic| first
  | fail "call")
local macro_rules | `(tactic| walk_at "calld") => `(tactic| first
  | fail "calld")
local macro_rules | `(tactic| walk_at "kit") => `(tactic| first
  | assumption
  | exact kit_ii
  | exact kit_ib
  | exact kit_bi
  | exact kit_bb
  | exact kit_li
  | exact kit_ll
  | exact kit_tt
  | exact kit_tl
  | exact kit_lt
  | exact kit_tb)
local macro_rules | `(tactic| walk_at "ns") => `(tactic| first
  | exact fun _ _ => rfl)
local macro_rules | `(tactic| walk_at "jv") => `(tactic| first
  | exact jv_int
  | exact jv_bl
  | exact jv_non
  | exact jv_str
  | walk_at "var"
  | (apply jv_add; walk_at "jv"; walk_at "jv")
  | (apply jv_sub; walk_at "jv"; walk_at "jv")
  | (apply jv_neg; walk_at "jv")
  | (apply jv_mul; walk_at "jv"; walk_at "jv"; walk_at "mulok")
  | (apply jv_fdiv; walk_at "jv"; walk_at "jv"; walk_at "divok")
  | (apply jv_mod; walk_at "jv"; walk_at "jv"; walk_at "side")
  | (apply jv_band; walk_at "jv"; walk_at "jv")
  | (apply jv_cmp; walk_at "jo"; (first | exact rfl | exact nomark _))
  | (apply jv_chain op_le op_le; walk_at "jv"; walk_at "jv"; walk_at "jv"; with_unfolding_all rfl)
  | (apply jv_chain op_le op_lt; walk_at "jv"; walk_at "jv"; walk_at "jv"; with_unfolding_all rfl)
  | (apply jv_and; walk_at "jv"; intro hand; walk_at "jv")
  | (apply jv_or; walk_at "jv"; intro hor; walk_at "jv")
  | (apply jv_not; walk_at "jv")
  | (apply jv_one; walk_at "jv")
  | (apply jv_lenM; walk_at "bm"; walk_at "jd"; exact rfl; walk_at "ns")
  | (apply jv_len; walk_at "bm"; walk_at "jd"; exact rfl; walk_at "ns")
  | (apply jv_all; exact rfl; walk_at "bm"; walk_at "jd"; exact rfl; decide +kernel; walk_at "ns")
  | (apply jv_any; exact rfl; walk_at "bm"; walk_at "jd"; exact rfl; decide +kernel; walk_at "ns")
  | (apply jv_lenT; walk_at "bm"; walk_at "jd"; exact rfl; walk_at "ns")
  | walk_at "call"
  | (apply jv_isi; (first | exact boot_tint | exact boot_tbool | exact boot_tlist | exact boot_ttuple); walk_at "bm"; walk_at "bm"; walk_at "jd"; walk_at "kit"; exact rfl; exact rfl; exact boot_isi; walk_at "ns"; decide; decide)
  | (apply jv_lenSet; exact rfl; walk_at "bm"; walk_at "bm"; walk_at "jd"; walk_at "side"; exact rfl; exact rfl; walk_at "ns")
  | (apply jv_ifE; walk_at "jt"; intro hif; walk_at "jv"; intro hif; walk_at "jv")
  | (apply JD.toI; walk_at "jx")
  | (apply JD.toB; walk_at "jx")
  | (apply JD.toS; walk_at "jx"))
local macro_rules | `(tactic| walk_at "mulok") => `(tactic| first
  | exact Or.inr ⟨by decide, by decide⟩
  | exact Or.inl ⟨by decide, by decide⟩
  | exact Or.inl ⟨by omega, by omega⟩
  | exact Or.inr ⟨by omega, by omega⟩)
local macro_rules | `(tactic| walk_at "divok") => `(tactic| first
  | exact ⟨by decide, by decide⟩
  | exact ⟨by omega, by omega⟩)
local macro_rules | `(tactic| walk_at "jx") => `(tactic| first
  | (apply jd_ixN; walk_at "jd"; walk_at "jv"; exact fun _ _ => rfl; walk_at "side")
  | (apply jd_ixNs; walk_at "jd"; walk_at "jv"; exact fun _ _ => rfl; walk_at "side")
  | (apply jd_ixP; walk_at "jd"; walk_at "jv"; exact fun _ _ => rfl; walk_at "side")
  | (apply jd_ixPs; walk_at "jd"; walk_at "jv"; exact fun _ _ => rfl; walk_at "side")
  | (apply jd_ixI; walk_at "jd"; walk_at "jv"; exact fun _ _ => rfl; walk_at "side")
  | (apply jd_ixP1; walk_at "jd")
  | (apply jd_ixP2; walk_at "jd")
  | walk_at "calld")
local macro_rules | `(tactic| walk_at "jd") => `(tactic| first
  | (apply JV.toD; walk_at "var"; walk_at "dp")
  | walk_at "jx"
  | (apply jd_list; walk_at "jad"; exact Nat.le_of_ble_eq_true rfl)
  | (apply jd_tuple; walk_at "jad"; exact Nat.le_of_ble_eq_true rfl)
  | (apply jd_listOf; walk_at "bm"; walk_at "jd"; exact rfl; exact boot_tlist; walk_at "ns")
  | (apply JV.toD (v := V.int _); walk_at "jv"; exact Dx.int _)
  | (apply JV.toD (v := V.bl _); walk_at "jv"; exact Dx.bl _)
  | (apply JV.toD (v := V.str _); walk_at "jv"; exact Dx.str _)
  | (apply jd_ifE; walk_at "jt"; intro hif; walk_at "jd"; intro hif; walk_at "jd"))
local macro_rules | `(tactic| walk_at "jad") => `(tactic| first
  | exact jad_nil
  | (apply jad_cons; walk_at "jd"; walk_at "jad"; walk_at "ns"))
local macro_rules | `(tactic| walk_at "jo") => `(tactic| first
  | (apply jo_isN; walk_at "jv")
  | (apply jo_notN; walk_at "jv")
  | (apply jo_eqI; walk_at "jv"; walk_at "jv")
  | (apply jo_neI; walk_at "jv"; walk_at "jv")
  | (apply jo_lt; walk_at "jv"; walk_at "jv")
  | (apply jo_le; walk_at "jv"; walk_at "jv")
  | (apply jo_gt; walk_at "jv"; walk_at "jv")
  | (apply jo_ge; walk_at "jv"; walk_at "jv")
  | (apply jo_inN; walk_at "hu"; walk_at "jv"; walk_at "jd")
  | (apply jo_niN; walk_at "hu"; walk_at "jv"; walk_at "jd")
  | (apply jo_eqD; walk_at "hu"; walk_at "jd"; walk_at "jd"; walk_at "shp"; walk_at "shp")
  | (apply jo_neD; walk_at "hu"; walk_at "jd"; walk_at "jd"; walk_at "shp"; walk_at "shp"))
local macro_rules | `(tactic| walk_at "shp") => `(tactic| first
  | assumption
  | exact Shp.shaped eLL _
  | exact Shp.shaped ePs _
  | exact Shp.shaped eNs _
  | exact Shp.shaped ePss _
  | exact Shp.shaped eP _
  | exact Shp.shaped eN _
  | exact Shp.shaped eI _
  | decide)
local macro_rules | `(tactic| walk_at "jw") => `(tactic| first
  | (apply jw_one_and; walk_at "jt")
  | (apply jw_one_or; walk_at "jt")
  | (apply jw_and; walk_at "jt"; intro hand; walk_at "jw")
  | (apply jw_or; walk_at "jt"; intro hor; walk_at "jw"))
local macro_rules | `(tactic| walk_at "jt") => `(tactic| first
  | (apply jt_w; walk_at "jw")
  | (apply jt_cmp; walk_at "jo"; (first | exact rfl | exact nomark _))
  | (apply jt_not; walk_at "jt")
  | (apply jt_val; walk_at "jv"; exact fun _ => rfl)
  | (apply jt_chain op_le op_le; walk_at "jv"; walk_at "jv"; walk_at "jv"; with_unfolding_all rfl))
local macro_rules | `(tactic| walk_at "camp") => `(tactic| first | assumption | (refine' CampAt.mono ?_ (by assumption); walk_at "ex"))
local macro_rules | `(tactic| walk_at "calld") => `(tactic| first
  | (apply jd_told; assumption; walk_at "var"; walk_at "camp"; exact rfl)
  | walk_at "calld2")
local macro_rules | `(tactic| walk_at "calld2") => `(tactic| first
  | fail "calld2")
local macro_rules | `(tactic| walk_at "room") => `(tactic| first
  | assumption
  | exact Room.mono (by assumption) (by decide))
local macro_rules | `(tactic| walk_at "bm") => `(tactic| first
  | assumption
  | exact Tx.len (by assumption)
  | exact Tx.range (by assumption)
  | exact Tx.list (by assumption)
  | exact Tx.all (by assumption)
  | exact Tx.any (by assumption)
  | exact Tx.isi (by assumption)
  | exact Tx.int (by assumption)
  | exact Tx.bool (by assumption)
  | exact Tx.set (by assumption)
  | exact Tx.tup (by assumption))
local macro_rules | `(tactic| walk_at "call") => `(tactic| first
  | (apply jv_size; assumption; walk_at "var"; walk_at "camp"; exact rfl)
  | (apply jv_index; walk_at "hu"; walk_at "jd"; walk_at "jv"; walk_at "side"; walk_at "ns"; exact rfl; exact rfl; exact rfl)
  | (apply jv_would; assumption; assumption; walk_at "room"; walk_at "var"; walk_at "camp"; walk_at "jv"; walk_at "jv"; walk_at "side"; walk_at "side"; walk_at "ns"; walk_at "ns"; exact rfl; exact rfl)
  | walk_at "call2")
local macro_rules | `(tactic| walk_at "call2") => `(tactic| first
  | fail "call2")
local macro_rules | `(tactic| walk_at "call2") => `(tactic| first
  | (apply jv_rather; assumption; assumption; walk_at "room"; walk_at "var"; walk_at "camp"; walk_at "jv"; walk_at "jv"; walk_at "jv"; walk_at "side"; walk_at "side"; walk_at "ns"; walk_at "ns"; walk_at "ns"; exact rfl; exact rfl)
  | walk_at "call4")
local macro_rules | `(tactic| walk_at "call4") => `(tactic| first
  | fail "call4")
local macro_rules | `(tactic| walk_at "calld2") => `(tactic| first
  | (apply jd_open; assumption; walk_at "room"; walk_at "var"; walk_at "camp"; walk_at "side"; exact rfl; walk_at "ns"; exact rfl)
  | walk_at "calld4")
local macro_rules | `(tactic| walk_at "calld4") => `(tactic| first
  | fail "calld4")
/-! ### items from the end -/
theorem atI_behind {r : List Nat} {k : Nat} (hk : k < r.length) : L2.atI (r.map eN) ((k : Int) - 1) = some (eN (behindR r k)) := by
  rw [atI_map]
  unfold L2.atI ixN behindR
  by_cases h : k = 0
  · subst h
    rw [if_neg (by omega), if_pos (by omega)]
    have e1 : (((0 : Nat) : Int) - 1 + (r.length : Int)).toNat = r.length - 1 := by omega
    have e2 : (0 + r.length - 1) % r.length = r.length - 1 := by rw [Nat.zero_add]; exact Nat.mod_eq_of_lt (by omega)
    rw [e1, e2]
    simp only [Option.bind_some]
    rw [List.getElem?_eq_getElem (by omega), List.getD_eq_getElem?_getD, List.getElem?_eq_getElem (by omega)]
    rfl
  · rw [if_pos (by omega), if_pos (by omega)]
    have e1 : ((k : Int) - 1).toNat = k - 1 := by omega
    have e2 : (k + r.length - 1) % r.length = k - 1 := by
      rw [show k + r.length - 1 = (k - 1) + r.length by omega, Nat.add_mod_right]
      exact Nat.mod_eq_of_lt (by omega)
    rw [e1, e2]
    simp only [Option.bind_some]
    rw [List.getElem?_eq_getElem (by omega), List.getD_eq_getElem?_getD, List.getElem?_eq_getElem (by omega)]
    rfl
theorem atI_ahead {r : List Nat} {k : Nat} (hk : k < r.length) : L2.atI (r.map eN) ((k : Int) + 1 - (r.length : Int)) = some (eN (aheadR r k)) := by
  rw [atI_map]
  unfold L2.atI ixN aheadR
  by_cases h : k + 1 = r.length
  · rw [if_pos (by omega), if_pos (by omega)]
    have e1 : ((k : Int) + 1 - (r.length : Int)).toNat = 0 := by omega
    have e2 : (k + 1) % r.length = 0 := by rw [h]; exact Nat.mod_self _
    rw [e1, e2]
    simp only [Option.bind_some]
    rw [List.getElem?_eq_getElem (by omega), List.getD_eq_getElem?_getD, List.getElem?_eq_getElem (by omega)]
    rfl
  · rw [if_neg (by omega), if_pos (by omega)]
    have e1 : ((k : Int) + 1 - (r.length : Int) + (r.length : Int)).toNat = k + 1 := by omega
    have e2 : (k + 1) % r.length = k + 1 := Nat.mod_eq_of_lt (by omega)
    rw [e1, e2]
    simp only [Option.bind_some]
    rw [List.getElem?_eq_getElem (by omega), List.getD_eq_getElem?_getD, List.getElem?_eq_getElem (by omega)]
    rfl
theorem atI_last {r : List Nat} (h : r ≠ []) : L2.atI (r.map eN) (-1) = some (eN (r.getD (r.length - 1) 0)) := by
  have hl : 0 < r.length := List.length_pos_iff.mpr h
  have := atI_behind (r := r) (k := 0) hl
  unfold behindR at this
  rw [Nat.zero_add, Nat.mod_eq_of_lt (show r.length - 1 < r.length by omega)] at this
  exact this
section
variable {X : Cx} {σ : L2.St} {e o a b c : Expr} {es : List Expr} {G : Hp} {pos : Pos} {x : Str} {C p : Addr} {L : List (List Nat)} {r : List Nat} {k : Nat}
theorem jv_behind (ha : JD X σ a G (eNs r)) (hb : JV X σ b G (.int ((k : Int) - 1))) (hk : k < r.length) (hs : PlainIx b) : JV X σ (.Subscript a b pos) G (.int (behindR r k : Nat)) := JD.toI (jd_ix ha hb (atI_behind hk) hs)
theorem jv_ahead (ha : JD X σ a G (eNs r)) (hb : JV X σ b G (.int ((k : Int) + 1 - (r.length : Int)))) (hk : k < r.length) (hs : PlainIx b) : JV X σ (.Subscript a b pos) G (.int (aheadR r k : Nat)) := JD.toI (jd_ix ha hb (atI_ahead hk) hs)
theorem jv_last (ha : JD X σ a G (eNs r)) (hb : JV X σ b G (.int (-1))) (hk : r ≠ []) (hs : PlainIx b) : JV X σ (.Subscript a b pos) G (.int (r.getD (r.length - 1) 0 : Nat)) := JD.toI (jd_ix ha hb (atI_last hk) hs)
end
theorem lookup_snoc {m : List (Nat × Nat)} {a b x : Nat} : (m ++ [(a, b)]).reverse.lookup x = if a = x then some b else m.reverse.lookup x := by
  rw [List.reverse_append, List.reverse_singleton, List.singleton_append, List.lookup_cons]
  by_cases h : a = x
  · subst h
    simp
  · have : (x == a) = false := beq_eq_false_iff_ne.mpr fun z => h z.symm
    simp [this, h]
section
variable {P : Program} {w : World} {K : PySem.W.Frag} {mg : Str → Option Value} {base : Heap} {C : Addr}
/-! ### behind_of -/
def kDict (f : Nat → Option Nat) : Hp → V → Prop := fun G v => DictAt G v f
def bRow (r : List Nat) (j : Nat) : List (Nat × Nat) := (List.range j).map fun k => (r.getD k 0, behindR r k)
abbrev spBehind : Sp := spOf (fun i : List (List Nat) => i.flatten.length ≤ 1000) (fun i => [kD (eLL i)]) (fun i => kDict fun x => (behindOf i).reverse.lookup x)
theorem behindOf_len (rs : List (List Nat)) : (behindOf rs).length = rs.flatten.length := by
  rw [← behind_fst rs, List.length_map]
theorem ok_behind {f : Addr} {fd : FuncData} (F : Fun K "behind_of" "behind_of" s_behind_of f fd) (T : Tx K mg C) : FnOk P w K mg base CX0 1 f fd ["rings"] spBehind := by
  refine fun_ok F sc_behind_of (fun _ => rfl) ?_
  rintro cdv A outer s H vs Q E rs G hr hl al h k
  obtain ⟨rv, rfl, hrv⟩ := al.one
  try dsimp only at hl hrv k ⊢
  have nd := sc_behind_of.nd
  have hu := hr.units
  have hu1 : (A.deeper (envOfC "behind_of" (defScope s_behind_of) s.heap.objs.size f cdv)).units + 1 < cLine := by omega
  refine b_setDict (n := 1) h nd rfl (by walk_at "loc") rfl (Or.inl rfl) (fun H1 l h1 => ?_)
  refine b_for h1 (f := eNs) (xs := rs) (ji_list (by walk_at "jd")) PassesOwn.never rfl (fun _ => rfl) (fun G2 H2 h2 e2 => ?_)
  refine ⟨fun pre σ' G' H' => ∃ kvs o2 o3, σ' = [some rv, some (.ref l), o2, o3] ∧ Hs G H G' H' [(l, .dK kvs)] ∧ Ex G2 G' ∧ kvs.length ≤ (behindOf pre).length ∧ ∀ x : Nat, valV kvs (Sum.inl (x : Int)) = ((behindOf pre).reverse.lookup x).map fun y => V.int (y : Int), ?_, ?_, ?_, ?_⟩
  · exact ⟨[], none, none, rfl, h2, Ex.refl _, Nat.zero_le _, fun x => rfl⟩
  · rintro pre σ' G' H' ⟨kvs, o2, o3, rfl, hs, e, _⟩
    exact ⟨e, hs.ex⟩
  · rintro pre r post v σ' G' H' hxs ⟨kvs, o2, o3, rfl, hs, e, hkl, hkv⟩ pv
    have hrd : Dx G' v (eNs r) := pv.mono e
    have htot : (behindOf pre).length + r.length ≤ 1000 := by
      have h1 := behindOf_len pre
      have h2 := congrArg (fun l => l.flatten.length) hxs
      simp only [List.flatten_append, List.flatten_cons, List.length_append] at h2
      omega
    refine wg_name (n := 2) nd rfl (by walk_at "loc") (Or.inl rfl) ?_
    refine b_for hs (f := eN) (xs := List.range r.length) (ji_range1 T.range (by walk_at "jv") (by omega) rfl (by walk_at "ns")) PassesOwn.never rfl (fun _ => rfl) (fun G4 H4 h4 e4 => ?_)
    refine ⟨fun pr σ' G5 H' => ∃ kvs o3, σ' = [some rv, some (.ref l), some v, o3] ∧ Hs G H G5 H' [(l, .dK kvs)] ∧ Ex G4 G5 ∧ kvs.length ≤ (behindOf pre).length + pr.length ∧ ∀ x : Nat, valV kvs (Sum.inl (x : Int)) = ((behindOf pre ++ bRow r pr.length).reverse.lookup x).map fun y => V.int (y : Int), ?_, ?_, ?_, ?_⟩
    · refine ⟨kvs, o3, rfl, h4, Ex.refl _, hkl, fun x => ?_⟩
      have : bRow r ([] : List Nat).length = [] := rfl
      rw [this, List.append_nil]
      exact hkv x
    · rintro pr σ' G5 H' ⟨kvs, o3, rfl, hs, e, _⟩
      exact ⟨e, hs.ex⟩
    · rintro pr j po u σ' G5 H5 hjs ⟨kvs5, o3, rfl, hs5, e5, hkl5, hkv5⟩ pu
      cases pu
      obtain ⟨epr, hj⟩ := range_pre hjs
      have hprl : pr.length = j := by rw [epr, List.length_range]
      have hrd5 : Dx G5 v (eNs r) := hrd.mono (e4.trans e5)
      refine wg_name (n := 3) nd rfl (by walk_at "loc") (Or.inl rfl) ?_
      refine b_putDict (n := 1) (m := r.getD j 0) (y := behindR r j) hu1 hs5 (jv_behind (by walk_at "jd") (by walk_at "jv") hj (fun _ _ => rfl)) rfl rfl (by walk_at "vis") (by walk_at "jv") (by omega) rfl rfl rfl rfl rfl (pg_sub pe_w pe_w (set_dict hu1)) (fun H6 h6 => b_nil ⟨G5, _, _, rfl, h6, e5, ?_, fun x => ?_⟩)
      · have := length_putK kvs5 (Sum.inl ((r.getD j 0 : Nat) : Int)) (V.int (behindR r j : Nat))
        rw [List.length_append, List.length_singleton]
        omega
      · have eb : bRow r (pr ++ [j]).length = bRow r pr.length ++ [(r.getD j 0, behindR r j)] := by
          rw [List.length_append, List.length_singleton, hprl]
          unfold bRow
          rw [List.range_succ, List.map_append]
          rfl
        rw [valV_put, eb, ← List.append_assoc, lookup_snoc]
        by_cases q : r.getD j 0 = x
        · rw [if_pos (by rw [q]), if_pos q]
          rfl
        · rw [if_neg (fun z => q (by have := Sum.inl.inj z; omega)), if_neg q]
          exact hkv5 x
    · rintro σ' G5 H5 ⟨kvs5, o3, rfl, hs5, e5, hkl5, hkv5⟩
      have eb : behindOf (pre ++ [r]) = behindOf pre ++ bRow r r.length := by
        unfold behindOf bRow
        rw [List.flatMap_append, List.flatMap_cons, List.flatMap_nil, List.append_nil]
      rw [List.length_range] at hkl5 hkv5
      refine b_nil ⟨G5, kvs5, _, _, rfl, hs5, e.trans (e4.trans e5), ?_, ?_⟩
      · rw [eb, List.length_append]
        unfold bRow
        rw [List.length_map, List.length_range]
        exact hkl5
      · rw [eb]
        exact hkv5
  · rintro σ' G' H' ⟨kvs, o2, o3, rfl, hs, e, hkl, hkv⟩
    obtain ⟨hf, e4⟩ := hs.fix
    exact b_retOwn (n := 1) rfl rfl (by walk_at "vis") rfl rfl (k _ _ _ _ hf ⟨l, kvs, rfl, upd_same, hkv⟩)
/-! ### rings_of -/
abbrev spRingsOf : Sp := spOf (fun i : (Nat → Nat) × (Nat → Nat) × Nat => Tan.Inv i.2.2 i.1 i.2.1 ∧ i.2.2 ≤ 6) (fun i => [kD (eNs ((List.range i.2.2).map i.1))]) (fun i => kD (eLL (ringsOf i.1 i.2.2)))
theorem ok_ringsof {f : Addr} {fd : FuncData} (F : Fun K "rings_of" "rings_of" s_rings_of f fd) (T : Tx K mg C) : FnOk P w K mg base CX0 1 f fd ["nexts"] spRingsOf := by
  refine fun_ok F sc_rings_of (fun _ => rfl) ?_
  rintro cdv A outer s H vs Q E ⟨fn, gn, n⟩ G hr ⟨I, h6⟩ al h k
  obtain ⟨nv, rfl, hnv⟩ := al.one
  try dsimp only at I h6 hnv k ⊢
  have nd := sc_rings_of.nd
  have hu := hr.units
  have hnl : ((List.range n).map fn).length = n := by rw [List.length_map, List.length_range]
  have hng : ∀ i, i < n → ((List.range n).map fn).getD i 0 = fn i := fun i hi => getD_map_range hi
  refine b_setN (n := 1) h nd rfl (by walk_at "loc") (Or.inl rfl) (fun H1 l h1 => ?_)
  refine b_setN (n := 2) h1 nd rfl (by walk_at "loc") (Or.inl rfl) (fun H2 m h2 => ?_)
  refine b_for h2 (f := eN) (xs := List.range n) (JI.is (ji_range1 (n := n) T.range (JV.is (show JV _ _ _ G (.int (((List.range n).map fn).length : Int)) from by walk_at "jv") (by rw [hnl])) (by omega) rfl (by walk_at "ns")) rfl) PassesOwn.never rfl (fun _ => rfl) (fun G2 H3 h3 e2 => ?_)
  refine ⟨fun pre σ' G' H' => ∃ ws us o3 o4, σ' = [some nv, some (.ref l), some (.ref m), o3, o4] ∧ Hs G H G' H' [(m, .lst us), (l, .lst ws)] ∧ Ex G2 G' ∧ DxAll G' ws ((pre.foldl (ringsStep fn n) []).map eNs) ∧ DxAll G' us ((pre.foldl (ringsStep fn n) []).flatten.map eN), ?_, ?_, ?_, ?_⟩
  · exact ⟨[], [], none, none, rfl, h3, Ex.refl _, .nil, .nil⟩
  · rintro pre σ' G' H' ⟨ws, us, o3, o4, rfl, hs, e, _⟩
    exact ⟨e, hs.ex⟩
  · rintro pre x post v σ' G' H' hxs ⟨ws, us, o3, o4, rfl, hs, e, hd, hdm⟩ pv
    cases pv
    obtain ⟨epre, hx⟩ := range_pre hxs
    have hparts := ringsOf_parts I x (by omega)
    rw [← epre] at hparts
    have est : (pre ++ [x]).foldl (ringsStep fn n) [] = ringsStep fn n (pre.foldl (ringsStep fn n) []) x := by rw [List.foldl_append]; rfl
    generalize hF : pre.foldl (ringsStep fn n) [] = rs at *
    have hflat : rs.flatten.length ≤ n := nodup_bound n _ hparts.nd fun y hy => by
      obtain ⟨r, hr, hy⟩ := List.mem_flatten.mp hy
      exact (hparts.by_ r hr).lt y hy
    have hrl : rs.length ≤ n := by
      have : ∀ rs : List (List Nat), (∀ r ∈ rs, r ≠ []) → rs.length ≤ rs.flatten.length := fun rs => by
        induction rs with
        | nil => intro _; exact Nat.le_refl _
        | cons r rs ih =>
          intro hh
          have h1 := ih fun q hq => hh q (List.mem_cons_of_mem _ hq)
          have h2 := List.length_pos_iff.mpr (hh r List.mem_cons_self)
          rw [List.length_cons, List.flatten_cons, List.length_append]
          omega
      exact Nat.le_trans (this rs fun r hr => (hparts.by_ r hr).ne) hflat
    refine wg_name (n := 3) nd rfl (by walk_at "loc") (Or.inl rfl) ?_
    obtain ⟨eg, e5⟩ := hs.seen
    have hmx : Dx (upd G' m (.lst us)) (.ref m) (eNs rs.flatten) := .lst upd_same (hdm.mono e5)
    refine b_ifG (p := !decide (x ∈ rs.flatten)) hs eg (by walk_at "jt") (fun hb H4 h4 => ?_) (fun hb H4 h4 => b_nil (b_nil ⟨G', ws, us, _, _, rfl, h4, e, ?_, ?_⟩))
    · have hxn : x ∉ rs.flatten := by simpa using hb
      obtain ⟨per, p1, p2, p3, p4, p5⟩ := ringOf_eq I hx
      have estep : ringsStep fn n rs x = rs ++ [ringOf fn n x] := by unfold ringsStep; rw [if_neg hxn]
      refine b_setNw (n := 4) h4 (jn_list (ds := [eN x]) (by walk_at "jad") (Nat.le_of_ble_eq_true rfl)) nd rfl (by walk_at "loc") rfl (Or.inl rfl) (fun G5 H5 rg zs h5 e6 hz => ?_)
      refine b_while PassesOwn.never (fun mm σ' Gs H6 => ∃ G6 zs j, Gs = upd G6 rg (.lst zs) ∧ σ' = [some nv, some (.ref l), some (.ref m), some (.int (x : Int)), some (.ref rg)] ∧ Hs G H G6 H6 [(rg, .lst zs), (m, .lst us), (l, .lst ws)] ∧ Ex G5 G6 ∧ j + 1 + mm = per ∧ DxAll G6 zs (((List.range (j + 1)).map (Tan.orb fn x)).map eN)) (m0 := per - 1) (G := upd G5 rg (.lst zs)) ⟨G5, zs, 0, rfl, rfl, h5, Ex.refl _, by omega, hz⟩ ?_
      rintro mm σ' Gs H6 ⟨G6, zs, j, rfl, rfl, hs6, e7, hj, hz6⟩
      obtain ⟨eg6, e8⟩ := hs6.seen
      have hlen : ((List.range (j + 1)).map (Tan.orb fn x)).length = j + 1 := by rw [List.length_map, List.length_range]
      have hlast : ((List.range (j + 1)).map (Tan.orb fn x)).getD (((List.range (j + 1)).map (Tan.orb fn x)).length - 1) 0 = Tan.orb fn x j := by rw [hlen]; exact getD_map_range (by omega)
      have hne : (List.range (j + 1)).map (Tan.orb fn x) ≠ [] := fun z => by rw [z] at hlen; simp at hlen
      have hrx : Dx (upd G6 rg (.lst zs)) (.ref rg) (eNs ((List.range (j + 1)).map (Tan.orb fn x))) := .lst upd_same (hz6.mono e8)
      have hnx : Dx (upd G6 rg (.lst zs)) nv (eNs ((List.range n).map fn)) := hnv.mono (((e2.trans e).trans (e6.trans e7)).trans e8)
      have ho := orb_lt I hx j
      have hzl : zs.length = j + 1 := by rw [hz6.length, List.length_map, hlen]
      refine ⟨eg6, !decide (((fn (Tan.orb fn x j) : Nat) : Int) = (x : Int)), ?_, fun hb6 H7 e9 => ?_, fun hb6 H7 e9 => ?_⟩
      · exact JT.is (jt_cmp (jo_neI (JD.toI (jd_ixN (n := Tan.orb fn x j) (by walk_at "jd") (JV.is (jv_last (by walk_at "jd") (JV.is (jv_neg jv_int) rfl) hne (fun _ _ => rfl)) (by rw [hlast])) (fun _ _ => rfl) (by rw [hnl]; exact ho))) (by walk_at "jv")) rfl) (by rw [hng _ ho])
      · have hmm : 0 < mm := by
          rcases Nat.eq_zero_or_pos mm with z | z
          · subst z
            have : fn (Tan.orb fn x j) = x := by rw [← hj] at p3; exact p3
            rw [this] at hb6
            simp at hb6
          · exact z
        have h7 := hs6.flat e9
        refine b_exprW rfl (we_append (n := 4) rfl rfl (by walk_at "vis") ⟨zs, h7.at0⟩ (JV.run (JD.toI (jd_ixN (n := Tan.orb fn x j) (by walk_at "jd") (JV.is (jv_last (by walk_at "jd") (JV.is (jv_neg jv_int) rfl) hne (fun _ _ => rfl)) (by rw [hlast])) (fun _ _ => rfl) (by rw [hnl]; exact ho))) H7 (eg6.trans e9) _ (fun H8 e10 => ⟨zs, (h7.flat e10).at0, by omega, b_nil ⟨mm - 1, upd G6 rg (.lst (zs ++ [V.int ((((List.range n).map fn).getD (Tan.orb fn x j) 0 : Nat) : Int)])), by omega, G6, _, j + 1, rfl, rfl, (h7.flat e10).put0, e7, by omega, ?_⟩⟩)) rfl rfl (by walk_at "ns") rfl rfl rfl)
        rw [hng _ ho, List.range_succ, List.map_append, List.map_append]
        exact hz6.snoc (.int _)
      · have hper : j + 1 = per := by
          have hfx : fn (Tan.orb fn x j) = x := by
            have : ((fn (Tan.orb fn x j) : Nat) : Int) = (x : Int) := by simpa using hb6
            omega
          rcases Nat.lt_or_ge (j + 1) per with z | z
          · have := p4 (j + 1) 0 z p1 hfx
            omega
          · omega
        rw [hper, ← p5] at hz6 hrx
        have h7 := hs6.flat e9
        obtain ⟨hf, e10⟩ := h7.fix
        have hrlen : (ringOf fn n x).length ≤ n := by rw [p5, List.length_map, List.length_range]; exact p2
        have hul : us.length ≤ n := by rw [hdm.length, List.length_map]; exact hflat
        have hwl : ws.length ≤ n := by rw [hd.length, List.length_map]; exact hrl
        refine b_extend (n := 2) hf (ds := (ringOf fn n x).map eN) rfl rfl (by walk_at "vis") (by walk_at "jd") (by rw [List.length_map]; omega) rfl rfl (by walk_at "ns") rfl rfl rfl rfl (fun G8 H8 vs8 h8 e11 hv8 => ?_)
        refine b_append (n := 1) h8.swap (d := eNs (ringOf fn n x)) rfl rfl (by walk_at "vis") (by walk_at "jd") (by omega) rfl rfl (by walk_at "ns") rfl rfl rfl rfl (fun G9 H9 v9 h9 e12 d9 => b_nil (b_nil ⟨G9, ws ++ [v9], us ++ vs8, _, _, rfl, h9.swap, (((e.trans (e6.trans e7)).trans e10).trans e11).trans e12, ?_, ?_⟩))
        · rw [est, estep, List.map_append]
          exact (hd.mono ((((e6.trans e7).trans e10).trans e11).trans e12)).snoc d9
        · rw [est, estep, List.flatten_append, List.map_append]
          refine (hdm.mono ((((e6.trans e7).trans e10).trans e11).trans e12)).append ?_
          rw [List.flatten_cons, List.flatten_nil, List.append_nil]
          exact hv8.mono e12
    · rw [est]
      have hxn : x ∈ rs.flatten := by simpa using hb
      unfold ringsStep
      rw [if_pos hxn]
      exact hd
    · rw [est]
      have hxn : x ∈ rs.flatten := by simpa using hb
      unfold ringsStep
      rw [if_pos hxn]
      exact hdm
  · rintro σ' G' H' ⟨ws, us, o3, o4, rfl, hs, e, hd, hdm⟩
    obtain ⟨hf, e4⟩ := hs.swap.fix
    exact b_retOwn (n := 1) rfl rfl (by walk_at "vis") rfl rfl (k _ _ _ _ hf (.lst upd_same (hd.mono e4)))
end
end TP

set_option Elab.async false
set_option linter.all false
set_option maxRecDepth 100000
set_option maxHeartbeats 4000000
namespace TP
open PySem PySem.Spec PyProof.Rows L2
open Evl (Ex)
-- tactics of this text: what an expression is worth (jv jd jt jo jw), growth (ex), what remains (side); call, calld: what the text adds
local macro_rules | `(tactic| walk_at "ex") => `(tactic| first | exact Ex.refl _ | assumption | (refine' Ex.trans ?_ (by assumption); walk_at "ex"))
local macro_rules | `(tactic| walk_at "vis") => `(tactic| first
  | exact Or.inl rfl
  | exact Or.inr (Or.inl rfl)
  | exact Or.inr (Or.inr rfl))
local macro_rules | `(tactic| walk_at "loc") => `(tactic| first
  | exact Or.inl rfl
  | exact Or.inr rfl)
local macro_rules | `(tactic| walk_at "side") => `(tactic| first
  | assumption
  | omega
  | decide
  | exact rfl
  | (simp_all; done)
  | (simp_all; omega))
local macro_rules | `(tactic| walk_at "hu") => `(tactic| first
  | exact room65 (by assumption)
  | exact Room.units (by assumption))
local macro_rules | `(tactic| walk_at "dp") => `(tactic| first | assumption | (refine' Dx.mono ?_ (by assumption); walk_at "ex"))
local macro_rules | `(tactic| walk_at "var") => `(tactic| first
  | (apply jv_var 0; exact rfl; exact rfl; walk_at "vis"; decide; decide)
  | (apply jv_var 1; exact rfl; exact rfl; walk_at "vis"; decide; decide)
  | (apply jv_var 2; exact rfl; exact rfl; walk_at "vis"; decide; decide)
  | (apply jv_var 3; exact rfl; exact rfl; walk_at "vis"; decide; decide)
  | (apply jv_var 4; exact rfl; exact rfl; walk_at "vis"; decide; decide)
  | (apply jv_var 5; exact rfl; exact rfl; walk_at "vis"; decide; decide)
  | (apply jv_var 6; exact rfl; exact rfl; walk_at "vis"; decide; decide)
  | (apply jv_var 7; exact rfl; exact rfl; walk_at "vis"; decide; decide)
  | (apply jv_var 8; exact rfl; exact rfl; walk_at "vis"; decide; decide)
  | (apply jv_var 9; exact rfl; exact rfl; walk_at "vis"; decide; decide)
  | (apply jv_var 10; exact rfl; exact rfl; walk_at "vis"; decide; decide)
  | (apply jv_var 11; exact rfl; exact rfl; walk_at "vis"; decide; decide)
  | (apply jv_var 12; exact rfl; exact rfl; walk_at "vis"; decide; decide)
  | (apply jv_var 13; exact rfl; exact rfl; walk_at "vis"; decide; decide)
  | (apply jv_var 14; exact rfl; exact rfl; walk_at "vis"; decide; decide)
  | (apply jv_var 15; exact rfl; exact rfl; walk_at "vis"; decide; decide)
  | (apply jv_var 16; exact rfl; exact rfl; walk_at "vis"; decide; decide)
  | (apply jv_var 17; exact rfl; exact rfl; walk_at "vis"; decide; decide)
  | (apply jv_var 18; exact rfl; exact rfl; walk_at "vis"; decide; decide)
  | (apply jv_var 19; exact rfl; exact rfl; walk_at "vis"; decide; decide))
local macro_rules | `(tactic| walk_at "bm") => `(tactic| first
  | assumption)
local macro_rules | `(tactic| walk_at "call") => `(tactic| first
  | fail "call")
local macro_rules | `(tactic| walk_at "calld") => `(tactic| first
  | fail "calld")
local macro_rules | `(tactic| walk_at "kit") => `(tactic| first
  | assumption
  | exact kit_ii
  | exact kit_ib
  | exact kit_bi
  | exact kit_bb
  | exact kit_li
  | exact kit_ll
  | exact kit_tt
  | exact kit_tl
  | exact kit_lt
  | exact kit_tb)
local macro_rules | `(tactic| walk_at "ns") => `(tactic| first
  | exact fun _ _ => rfl)
local macro_rules | `(tactic| walk_at "jv") => `(tactic| first
  | exact jv_int
  | exact jv_bl
  | exact jv_non
  | exact jv_str
  | walk_at "var"
  | (apply jv_add; walk_at "jv"; walk_at "jv")
  | (apply jv_sub; walk_at "jv"; walk_at "jv")
  | (apply jv_neg; walk_at "jv")
  | (apply jv_mul; walk_at "jv"; walk_at "jv"; walk_at "mulok")
  | (apply jv_fdiv; walk_at "jv"; walk_at "jv"; walk_at "divok")
  | (apply jv_mod; walk_at "jv"; walk_at "jv"; walk_at "side")
  | (apply jv_band; walk_at "jv"; walk_at "jv")
  | (apply jv_cmp; walk_at "jo"; (first | exact rfl | exact nomark _))
  | (apply jv_chain op_le op_le; walk_at "jv"; walk_at "jv"; walk_at "jv"; with_unfolding_all rfl)
  | (apply jv_chain op_le op_lt; walk_at "jv"; walk_at "jv"; walk_at "jv"; with_unfolding_all rfl)
  | (apply jv_and; walk_at "jv"; intro hand; walk_at "jv")
  | (apply jv_or; walk_at "jv"; intro hor; walk_at "jv")
  | (apply jv_not; walk_at "jv")
  | (apply jv_one; walk_at "jv")
  | (apply jv_lenM; walk_at "bm"; walk_at "jd"; exact rfl; walk_at "ns")
  | (apply jv_len; walk_at "bm"; walk_at "jd"; exact rfl; walk_at "ns")
  | (apply jv_all; exact rfl; walk_at "bm"; walk_at "jd"; exact rfl; decide +kernel; walk_at "ns")
  | (apply jv_any; exact rfl; walk_at "bm"; walk_at "jd"; exact rfl; decide +kernel; walk_at "ns")
  | (apply jv_lenT; walk_at "bm"; walk_at "jd"; exact rfl; walk_at "ns")
  | walk_at "call"
  | (apply jv_isi; (first | exact boot_tint | exact boot_tbool | exact boot_tlist | exact boot_ttuple); walk_at "bm"; walk_at "bm"; walk_at "jd"; walk_at "kit"; exact rfl; exact rfl; exact boot_isi; walk_at "ns"; decide; decide)
  | (apply jv_lenSet; exact rfl; walk_at "bm"; walk_at "bm"; walk_at "jd"; walk_at "side"; exact rfl; exact rfl; walk_at "ns")
  | (apply jv_ifE; walk_at "jt"; intro hif; walk_at "jv"; intro hif; walk_at "jv")
  | (apply JD.toI; walk_at "jx")
  | (apply JD.toB; walk_at "jx")
  | (apply JD.toS; walk_at "jx"))
local macro_rules | `(tactic| walk_at "mulok") => `(tactic| first
  | exact Or.inr ⟨by decide, by decide⟩
  | exact Or.inl ⟨by decide, by decide⟩
  | exact Or.inl ⟨by omega, by omega⟩
  | exact Or.inr ⟨by omega, by omega⟩)
local macro_rules | `(tactic| walk_at "divok") => `(tactic| first
  | exact ⟨by decide, by decide⟩
  | exact ⟨by omega, by omega⟩)
local macro_rules | `(tactic| walk_at "jx") => `(tactic| first
  | (apply jd_ixN; walk_at "jd"; walk_at "jv"; exact fun _ _ => rfl; walk_at "side")
  | (apply jd_ixNs; walk_at "jd"; walk_at "jv"; exact fun _ _ => rfl; walk_at "side")
  | (apply jd_ixP; walk_at "jd"; walk_at "jv"; exact fun _ _ => rfl; walk_at "side")
  | (apply jd_ixPs; walk_at "jd"; walk_at "jv"; exact fun _ _ => rfl; walk_at "side")
  | (apply jd_ixI; walk_at "jd"; walk_at "jv"; exact fun _ _ => rfl; walk_at "side")
  | (apply jd_ixP1; walk_at "jd")
  | (apply jd_ixP2; walk_at "jd")
  | walk_at "calld")
local macro_rules | `(tactic| walk_at "jd") => `(tactic| first
  | (apply JV.toD; walk_at "var"; walk_at "dp")
  | walk_at "jx"
  | (apply jd_list; walk_at "jad"; exact Nat.le_of_ble_eq_true rfl)
  | (apply jd_tuple; walk_at "jad"; exact Nat.le_of_ble_eq_true rfl)
  | (apply jd_listOf; walk_at "bm"; walk_at "jd"; exact rfl; exact boot_tlist; walk_at "ns")
  | (apply JV.toD (v := V.int _); walk_at "jv"; exact Dx.int _)
  | (apply JV.toD (v := V.bl _); walk_at "jv"; exact Dx.bl _)
  | (apply JV.toD (v := V.str _); walk_at "jv"; exact Dx.str _)
  | (apply jd_ifE; walk_at "jt"; intro hif; walk_at "jd"; intro hif; walk_at "jd"))
local macro_rules | `(tactic| walk_at "jad") => `(tactic| first
  | exact jad_nil
  | (apply jad_cons; walk_at "jd"; walk_at "jad"; walk_at "ns"))
local macro_rules | `(tactic| walk_at "jo") => `(tactic| first
  | (apply jo_isN; walk_at "jv")
  | (apply jo_notN; walk_at "jv")
  | (apply jo_eqI; walk_at "jv"; walk_at "jv")
  | (apply jo_neI; walk_at "jv"; walk_at "jv")
  | (apply jo_lt; walk_at "jv"; walk_at "jv")
  | (apply jo_le; walk_at "jv"; walk_at "jv")
  | (apply jo_gt; walk_at "jv"; walk_at "jv")
  | (apply jo_ge; walk_at "jv"; walk_at "jv")
  | (apply jo_inN; walk_at "hu"; walk_at "jv"; walk_at "jd")
  | (apply jo_niN; walk_at "hu"; walk_at "jv"; walk_at "jd")
  | (apply jo_eqD; walk_at "hu"; walk_at "jd"; walk_at "jd"; walk_at "shp"; walk_at "shp")
  | (apply jo_neD; walk_at "hu"; walk_at "jd"; walk_at "jd"; walk_at "shp"; walk_at "shp"))
local macro_rules | `(tactic| walk_at "shp") => `(tactic| first
  | assumption
  | exact Shp.shaped eLL _
  | exact Shp.shaped ePs _
  | exact Shp.shaped eNs _
  | exact Shp.shaped ePss _
  | exact Shp.shaped eP _
  | exact Shp.shaped eN _
  | exact Shp.shaped eI _
  | decide)
local macro_rules | `(tactic| walk_at "jw") => `(tactic| first
  | (apply jw_one_and; walk_at "jt")
  | (apply jw_one_or; walk_at "jt")
  | (apply jw_and; walk_at "jt"; intro hand; walk_at "jw")
  | (apply jw_or; walk_at "jt"; intro hor; walk_at "jw"))
local macro_rules | `(tactic| walk_at "jt") => `(tactic| first
  | (apply jt_w; walk_at "jw")
  | (apply jt_cmp; walk_at "jo"; (first | exact rfl | exact nomark _))
  | (apply jt_not; walk_at "jt")
  | (apply jt_val; walk_at "jv"; exact fun _ => rfl)
  | (apply jt_chain op_le op_le; walk_at "jv"; walk_at "jv"; walk_at "jv"; with_unfolding_all rfl))
local macro_rules | `(tactic| walk_at "camp") => `(tactic| first | assumption | (refine' CampAt.mono ?_ (by assumption); walk_at "ex"))
local macro_rules | `(tactic| walk_at "calld") => `(tactic| first
  | (apply jd_told; assumption; walk_at "var"; walk_at "camp"; exact rfl)
  | walk_at "calld2")
local macro_rules | `(tactic| walk_at "calld2") => `(tactic| first
  | fail "calld2")
local macro_rules | `(tactic| walk_at "room") => `(tactic| first
  | assumption
  | exact Room.mono (by assumption) (by decide))
local macro_rules | `(tactic| walk_at "bm") => `(tactic| first
  | assumption
  | exact Tx.len (by assumption)
  | exact Tx.range (by assumption)
  | exact Tx.list (by assumption)
  | exact Tx.all (by assumption)
  | exact Tx.any (by assumption)
  | exact Tx.isi (by assumption)
  | exact Tx.int (by assumption)
  | exact Tx.bool (by assumption)
  | exact Tx.set (by assumption)
  | exact Tx.tup (by assumption))
local macro_rules | `(tactic| walk_at "call") => `(tactic| first
  | (apply jv_size; assumption; walk_at "var"; walk_at "camp"; exact rfl)
  | (apply jv_index; walk_at "hu"; walk_at "jd"; walk_at "jv"; walk_at "side"; walk_at "ns"; exact rfl; exact rfl; exact rfl)
  | (apply jv_would; assumption; assumption; walk_at "room"; walk_at "var"; walk_at "camp"; walk_at "jv"; walk_at "jv"; walk_at "side"; walk_at "side"; walk_at "ns"; walk_at "ns"; exact rfl; exact rfl)
  | walk_at "call2")
local macro_rules | `(tactic| walk_at "call2") => `(tactic| first
  | fail "call2")
local macro_rules | `(tactic| walk_at "call2") => `(tactic| first
  | (apply jv_rather; assumption; assumption; walk_at "room"; walk_at "var"; walk_at "camp"; walk_at "jv"; walk_at "jv"; walk_at "jv"; walk_at "side"; walk_at "side"; walk_at "ns"; walk_at "ns"; walk_at "ns"; exact rfl; exact rfl)
  | walk_at "call4")
local macro_rules | `(tactic| walk_at "call4") => `(tactic| first
  | fail "call4")
local macro_rules | `(tactic| walk_at "calld2") => `(tactic| first
  | (apply jd_open; assumption; walk_at "room"; walk_at "var"; walk_at "camp"; walk_at "side"; exact rfl; walk_at "ns"; exact rfl)
  | walk_at "calld4")
local macro_rules | `(tactic| walk_at "calld4") => `(tactic| first
  | fail "calld4")
section
variable {X : Cx} {σ : L2.St} {e o a b c : Expr} {es : List Expr} {G : Hp} {pos : Pos} {x y : Str} {C p : Addr} {L : List (List Nat)} {rs : List (List Nat)} {rest : List Stmt} {D : Ends} {G0 H0 H : Hp} {os : List (Addr × HO)}
/-- x, y = (a, b) -/
theorem b_par {i j : Nat} {px py pt q : Pos} {kt k2 pt2} {va vb : V} (h : Hs G0 H0 G H os) (ha : JV X σ a G va) (hb : JV X σ b G vb) (hc : X.calm = true) (hN : X.N.Nodup) (hi : X.N[i]? = some x) (hj : X.N[j]? = some y) (hij : i ≠ j)
    (hx : X.env.scope.names.lookup x = some .local) (hy : X.env.scope.names.lookup y = some .local) (na : NoStar a) (nb : NoStar b)
    (hw : swappedStores [.Tuple [.Name x px, .Name y py] kt pt] (.Tuple [a, b] k2 pt2) X.env = pure (some [x, y]))
    (hs : swapsWithSole [.Tuple [.Name x px, .Name y py] kt pt] (.Tuple [a, b] k2 pt2) q.line X.env = pure false)
    (k : ∀ H', Hs G0 H0 G H' os → wSs X rest D ((σ.set i (some va)).set j (some vb)) H') : wSs X (.Assign [.Tuple [.Name x px, .Name y py] kt pt] (.Tuple [a, b] k2 pt2) q :: rest) D σ H :=
  b_cons ⟨_, ps_par hc hN hi hj hij hx hy (pa_cons pe_w (pa_cons pe_w pa_nil (nb _ _)) (na _ _)) hw hs, ha H h.ex _ fun H1 e1 => hb H1 (h.flat e1).ex _ fun H2 e2 => ⟨va, vb, rfl, k H2 (h.flat (e1.trans e2))⟩⟩
theorem jp_behind {ap : Pos} (M : Df X.prog X.w X.K X.mg X.base "behind_of" 1 spBehind) (hr : Room 1 X.A) (ha : JD X σ a G (eLL rs)) (hl : rs.flatten.length ≤ 1000) (hg : Gl X "behind_of") (na : NoStar a)
    (hpl : (backTo pos (starEach [] X.env)).any (·.1) = false) : JP X σ (.Call (.Name "behind_of" ap) [a] [] pos) G (kDict fun x => (behindOf rs).reverse.lookup x) :=
  jp_call M hr hg rs hl (jal_cons ha.toP mo_D (fun _ _ => jal_nil) na) na (by decide) hpl
end
local macro_rules | `(tactic| walk_at "call4") => `(tactic| first
  | (apply jv_ixDict; assumption; walk_at "var"; assumption; walk_at "jv"; assumption; exact fun _ _ => rfl))
/-! ### pure facts -/
theorem lookup_mem {x : Nat} : ∀ {m : List (Nat × Nat)}, x ∈ m.map (·.1) → ∃ y, m.lookup x = some y ∧ (x, y) ∈ m
  | [], h => by simp at h
  | (a, b) :: m, h => by
    rw [List.lookup_cons]
    by_cases q : x = a
    · subst q
      exact ⟨b, by simp, List.mem_cons_self⟩
    · have : (x == a) = false := beq_eq_false_iff_ne.mpr q
      rw [List.map_cons, List.mem_cons] at h
      obtain ⟨y, h1, h2⟩ := lookup_mem (h.resolve_left q)
      exact ⟨y, by rw [this]; exact h1, List.mem_cons_of_mem _ h2⟩
theorem mem_behind {rs : List (List Nat)} {x y : Nat} (h : (x, y) ∈ behindOf rs) : ∃ r ∈ rs, ∃ k, k < r.length ∧ r.getD k 0 = x ∧ behindR r k = y := by
  unfold behindOf at h
  obtain ⟨r, hr, h⟩ := List.mem_flatMap.mp h
  obtain ⟨k, hk, e⟩ := List.mem_map.mp h
  rw [Prod.mk.injEq] at e
  exact ⟨r, hr, k, List.mem_range.mp hk, e.1, e.2⟩
theorem behind_mem {r : List Nat} {k : Nat} (hk : k < r.length) : behindR r k ∈ r := getD_mem (Nat.mod_lt _ (by omega))
theorem ahead_mem {r : List Nat} {k : Nat} (hk : k < r.length) : aheadR r k ∈ r := getD_mem (Nat.mod_lt _ (by omega))
/-- all campers in rings -/
structure Whole (n : Nat) (rs : List (List Nat)) : Prop where
  lt : ∀ x ∈ rs.flatten, x < n
  all : ∀ x, x < n → x ∈ rs.flatten
  len : rs.flatten.length ≤ 1000
theorem look_ok {L : List (List Nat)} {rs : List (List Nat)} (hw : Whole L.length rs) (hok : (rs.all fun r => (List.range r.length).all (okR L r)) = true) {x : Nat} (hx : x < L.length) : ∃ y, (behindOf rs).reverse.lookup x = some y ∧ lookB (behindOf rs) x = y ∧ (y = x ∨ would L x y = true) := by
  have h1 : x ∈ (behindOf rs).reverse.map (·.1) := by
    rw [List.map_reverse, List.mem_reverse, behind_fst]
    exact hw.all x hx
  obtain ⟨y, h2, h3⟩ := lookup_mem h1
  refine ⟨y, h2, by unfold lookB; rw [h2]; rfl, ?_⟩
  obtain ⟨r, hr, k, hk, e1, e2⟩ := mem_behind (List.mem_reverse.mp h3)
  have := List.all_eq_true.mp (List.all_eq_true.mp hok r hr) k (List.mem_range.mpr hk)
  unfold okR at this
  rw [e1, e2, Bool.and_eq_true, Bool.or_eq_true, decide_eq_true_eq] at this
  exact this.1.imp (fun z => z.symm) id
section
variable {P : Program} {w : World} {K : PySem.W.Frag} {mg : Str → Option Value} {base : Heap} {C : Addr}
abbrev spGood (K : PySem.W.Frag) (C : Addr) : Sp := spOf (fun i : List (List Nat) × List (List Nat) => i.1.length ≤ 6 ∧ Whole i.1.length i.2) (fun i => [kCamp K C i.1, kD (eLL i.2)]) (fun i => kB (goodRings i.1 i.2))
theorem ok_good {f : Addr} {fd : FuncData} (F : Fun K "good_rings" "good_rings" s_good_rings f fd) (T : Tx K mg C) (MW : Mt P w K mg base C "would" 1 (spWould K C)) (MR : Mt P w K mg base C "rather" 1 (spRather K C)) (MO : Df P w K mg base "open_pairs" 2 (spOpen K C)) (MB : Df P w K mg base "behind_of" 1 spBehind) : FnOk P w K mg base CX0 3 f fd ["camp", "rings"] (spGood K C) := by
  refine fun_ok F sc_good_rings (fun _ => rfl) ?_
  rintro cdv A outer s H vs Q E ⟨L, rs⟩ G hr ⟨hL, hwh⟩ al h k
  obtain ⟨_, rv, rfl, ⟨p, rfl, hc⟩, hrv⟩ := al.two
  try dsimp only at hL hwh hc hrv k ⊢
  have nd := sc_good_rings.nd
  have hu := hr.units
  have hu1 : (A.deeper (envOfC "good_rings" (defScope s_good_rings) s.heap.objs.size f cdv)).units + 1 < cLine := by omega
  refine b_for h (f := eNs) (xs := rs) (ji_list (by walk_at "jd")) PassesOwn.never rfl (fun _ => rfl) (fun G2 H2 h2 e2 => ?_)
  refine ⟨fun pre σ' G' H' => ∃ o2 o3 o4 o5 o6, σ' = [some (.ref p), some rv, o2, o3, o4, o5, o6, none, none, none] ∧ Hs G H G' H' [] ∧ Ex G2 G' ∧ (pre.all fun r => (List.range r.length).all (okR L r)) = true, ?_, ?_, ?_, ?_⟩
  · exact ⟨none, none, none, none, none, rfl, h2, Ex.refl _, rfl⟩
  · rintro pre σ' G' H' ⟨o2, o3, o4, o5, o6, rfl, hs, e, _⟩
    exact ⟨e, hs.ex⟩
  · rintro pre r post v σ' G' H' hxs ⟨o2, o3, o4, o5, o6, rfl, hs, e, hall⟩ pv
    have hrm : r ∈ rs := by rw [hxs]; simp
    have hrlt : ∀ x ∈ r, x < L.length := fun x hx => hwh.lt x (List.mem_flatten.mpr ⟨r, hrm, hx⟩)
    have hrd : Dx G' v (eNs r) := pv.mono e
    have hrl : r.length ≤ 1000 := by
      have h1 := hwh.len
      rw [hxs] at h1
      simp only [List.flatten_append, List.flatten_cons, List.length_append] at h1
      omega
    refine wg_name (n := 2) nd rfl (by walk_at "loc") (Or.inl rfl) ?_
    refine b_for hs (f := eN) (xs := List.range r.length) (ji_range1 T.range (by walk_at "jv") (by omega) rfl (by walk_at "ns")) PassesOwn.never rfl (fun _ => rfl) (fun G4 H4 h4 e4 => ?_)
    refine ⟨fun pr σ' G5 H' => ∃ o3 o4 o5 o6, σ' = [some (.ref p), some rv, some v, o3, o4, o5, o6, none, none, none] ∧ Hs G H G5 H' [] ∧ Ex G4 G5 ∧ pr.all (okR L r) = true, ?_, ?_, ?_, ?_⟩
    · exact ⟨o3, o4, o5, o6, rfl, h4, Ex.refl _, rfl⟩
    · rintro pr σ' G5 H' ⟨o3, o4, o5, o6, rfl, hs, e, _⟩
      exact ⟨e, hs.ex⟩
    · rintro pr j po u σ' G5 H5 hjs ⟨o3, o4, o5, o6, rfl, hs5, e5, hall5⟩ pu
      cases pu
      obtain ⟨epr, hj⟩ := range_pre hjs
      have hrd5 : Dx G5 v (eNs r) := hrd.mono (e4.trans e5)
      have l1 : r.getD j 0 < L.length := hrlt _ (getD_mem hj)
      have l2 : behindR r j < L.length := hrlt _ (behind_mem hj)
      have l3 : aheadR r j < L.length := hrlt _ (ahead_mem hj)
      have bad : okR L r j = false → goodRings L rs = false := fun z => by
        unfold goodRings
        have : (rs.all fun r => (List.range r.length).all (okR L r)) = false := by
          rw [List.all_eq_false]
          refine ⟨r, hrm, ?_⟩
          rw [Bool.not_eq_true, List.all_eq_false]
          exact ⟨j, List.mem_range.mpr hj, by rw [z]; decide⟩
        rw [this]
        rfl
      refine wg_name (n := 3) nd rfl (by walk_at "loc") (Or.inl rfl) ?_
      refine b_par (i := 4) (j := 5) hs5 (va := .int (r.getD j 0 : Nat)) (vb := .int (behindR r j : Nat)) (by walk_at "jv") (jv_behind (by walk_at "jd") (by walk_at "jv") hj (fun _ _ => rfl)) rfl nd rfl rfl (by decide) rfl rfl (by walk_at "ns") (by walk_at "ns") (by kernel_rfl) (by kernel_rfl) (fun H6 h6 => ?_)
      refine b_setV (n := 6) (v := .int (aheadR r j : Nat)) h6 (jv_ahead (by walk_at "jd") (by walk_at "jv") hj (fun _ _ => rfl)) nd rfl (by walk_at "loc") rfl (Or.inl rfl) (fun H7 h7 => ?_)
      generalize hA : aheadR r j = af at *
      generalize hB : behindR r j = be at *
      generalize hE : r.getD j 0 = he at *
      have eok : okR L r j = ((decide (he = be) || would L he be) && (decide (r.length ≤ 2) || (would L he af && rather L he af be))) := by unfold okR; rw [hA, hB, hE]
      refine b_if (p := !decide ((he : Int) = (be : Int)) && !would L he be) h7 (by walk_at "jt") (fun hb H8 h8 => ?_) (fun hb H8 h8 => b_nil ?_)
      · refine b_ret h8 (v := .bl false) (by walk_at "jv") (fun H' h' => k _ _ _ _ h' ?_)
        rw [Bool.and_eq_true, Bool.not_eq_true', Bool.not_eq_true', decide_eq_false_iff_not, Int.ofNat_inj] at hb
        rw [bad (by rw [eok, decide_eq_false hb.1, hb.2]; rfl)]
      have hbe : be = he ∨ would L he be = true := by
        by_cases z : he = be
        · exact Or.inl z.symm
        · rw [decide_eq_false (fun q => z (by omega))] at hb
          exact Or.inr (by simpa using hb)
      have hbt : (decide (he = be) || would L he be) = true := by
        rcases hbe with z | z
        · rw [decide_eq_true z.symm]; rfl
        · rw [z, Bool.or_true]
      refine' b_if (p := decide ((2 : Int) < (r.length : Int)) && (!would L he af || !rather L he af be)) h8 (jt_w (jw_and ?t1 (fun _ => jw_one_and (jt_w (jw_or ?t2 (fun hwa => jw_one_or (by
        have hwa2 : would L he af = true := by simpa using hwa
        have hin : ¬ af = be → ¬ af = he → ¬ be = he → af ∈ L.getD he [] ∧ be ∈ L.getD he [] := fun _ _ z => ⟨(would_iff.mp hwa2).1, (would_iff.mp (hbe.resolve_left z)).1⟩
        walk_at "jt"))))))) (fun hb9 H9 h9 => ?yes) (fun hb9 H9 h9 => b_nil (b_nil ⟨G5, _, _, _, _, rfl, h9, e5, ?no⟩))
      case t1 => walk_at "jt"
      case t2 => walk_at "jt"
      case yes =>
        refine b_ret h9 (v := .bl false) (by walk_at "jv") (fun H' h' => k _ _ _ _ h' ?_)
        rw [Bool.and_eq_true, decide_eq_true_eq] at hb9
        rw [bad (by
          rw [eok, hbt, decide_eq_false (show ¬ r.length ≤ 2 by omega), Bool.false_or, Bool.true_and]
          cases q1 : would L he af with
          | false => rfl
          | true =>
            cases q2 : rather L he af be with
            | false => rfl
            | true => rw [q1, q2] at hb9; exact absurd hb9.2 (by decide))]
      case no =>
        rw [List.all_append, hall5, List.all_cons, List.all_nil, Bool.and_true, Bool.true_and, eok, hbt, Bool.true_and]
        by_cases z : r.length ≤ 2
        · rw [decide_eq_true z]; rfl
        · rw [decide_eq_true (show (2 : Int) < (r.length : Int) by omega), Bool.true_and] at hb9
          rw [decide_eq_false z, Bool.false_or]
          cases q1 : would L he af <;> cases q2 : rather L he af be <;> rw [q1, q2] at hb9 <;> first | rfl | exact absurd hb9 (by decide)
    · rintro σ' G5 H5 ⟨o3, o4, o5, o6, rfl, hs5, e5, hall5⟩
      refine b_nil ⟨G5, _, _, _, _, _, rfl, hs5, e.trans (e4.trans e5), ?_⟩
      rw [List.all_append, hall, List.all_cons, hall5]
      rfl
  · rintro σ' G' H' ⟨o2, o3, o4, o5, o6, rfl, hs, e, hall⟩
    refine b_setP (n := 7) hs (jp_behind MB (hr.mono (by decide)) (by walk_at "jd") hwh.len rfl (by walk_at "ns") rfl) nd rfl (by walk_at "loc") rfl (Or.inl rfl) (fun G3 H3 bv h3 e3 hbv => ?_)
    refine b_for h3 (f := eP) (xs := openPairs L) (ji_list (by walk_at "jd")) PassesOwn.never rfl (fun _ => rfl) (fun G4 H4 h4 e4 => ?_)
    refine ⟨fun pre σ' G' H' => ∃ o8 o9, σ' = [some (.ref p), some rv, o2, o3, o4, o5, o6, some bv, o8, o9] ∧ Hs G H G' H' [] ∧ Ex G4 G' ∧ (pre.all fun p => !(rather L p.1 p.2 (lookB (behindOf rs) p.1) && rather L p.2 p.1 (lookB (behindOf rs) p.2))) = true, ?_, ?_, ?_, ?_⟩
    · exact ⟨none, none, rfl, h4, Ex.refl _, rfl⟩
    · rintro pre σ' G' H' ⟨o8, o9, rfl, hs, e, _⟩
      exact ⟨e, hs.ex⟩
    · rintro pre x post v σ' G5 H5 hxs ⟨o8, o9, rfl, hs5, e5, hall5⟩ pv2
      obtain ⟨t, rfl, ht⟩ := pv2.pair
      have hx : x ∈ openPairs L := by rw [hxs]; simp
      obtain ⟨x1, x2, hw⟩ := mem_open.mp hx
      have x3 : x.1 < L.length := by omega
      obtain ⟨y1, a1, a2, a3⟩ := look_ok hwh hall x3
      obtain ⟨y2, b1, b2, b3⟩ := look_ok hwh hall x2
      have hbv5 : DictAt G5 bv (fun x => (behindOf rs).reverse.lookup x) := DictAt.mono (e4.trans e5) hbv
      refine wg_pair (n := 8) (m := 9) rfl nd rfl (by walk_at "loc") (Or.inl rfl) rfl (by walk_at "loc") (Or.inl rfl) (SqT.of (hs5.ex _ _ (e5 _ _ ht))) ?_ rfl rfl rfl rfl
      have r1 : ¬ x.2 = y1 → ¬ x.2 = x.1 → ¬ y1 = x.1 → x.2 ∈ L.getD x.1 [] ∧ y1 ∈ L.getD x.1 [] := fun _ _ z => ⟨(would_iff.mp hw).1, (would_iff.mp (a3.resolve_left z)).1⟩
      have r2 : ¬ x.1 = y2 → ¬ x.1 = x.2 → ¬ y2 = x.2 → x.1 ∈ L.getD x.2 [] ∧ y2 ∈ L.getD x.2 [] := fun _ _ z => ⟨(would_iff.mp hw).2, (would_iff.mp (b3.resolve_left z)).1⟩
      refine' b_if (p := rather L x.1 x.2 y1 && rather L x.2 x.1 y2) hs5 ?tt (fun hb H6 h6 => ?yes) (fun hb H6 h6 => b_nil (b_nil ⟨G5, _, _, rfl, h6, e5, ?no⟩))
      case tt => walk_at "jt"
      case yes =>
        refine b_ret h6 (v := .bl false) (by walk_at "jv") (fun H' h' => k _ _ _ _ h' ?_)
        have : goodRings L rs = false := by
          unfold goodRings
          rw [hall, Bool.true_and, List.all_eq_false]
          exact ⟨x, hx, by rw [a2, b2, hb]; decide⟩
        rw [this]
      case no =>
        rw [List.all_append, hall5, List.all_cons, a2, b2, hb]
        rfl
    · rintro σ' G5 H5 ⟨o8, o9, rfl, hs5, e5, hall5⟩
      refine b_ret hs5 (v := .bl true) (by walk_at "jv") (fun H' h' => k _ _ _ _ h' ?_)
      unfold goodRings
      rw [hall, hall5]
      rfl
end
end TP

set_option Elab.async false
set_option linter.all false
set_option maxRecDepth 100000
set_option maxHeartbeats 4000000
namespace TP
open PySem PySem.Spec PyProof.Rows L2
open Evl (Ex)
-- tactics of this text: what an expression is worth (jv jd jt jo jw), growth (ex), what remains (side); call, calld: what the text adds
local macro_rules | `(tactic| walk_at "ex") => `(tactic| first | exact Ex.refl _ | assumption | (refine' Ex.trans ?_ (by assumption); walk_at "ex"))
local macro_rules | `(tactic| walk_at "vis") => `(tactic| first
  | exact Or.inl rfl
  | exact Or.inr (Or.inl rfl)
  | exact Or.inr (Or.inr rfl))
local macro_rules | `(tactic| walk_at "loc") => `(tactic| first
  | exact Or.inl rfl
  | exact Or.inr rfl)
local macro_rules | `(tactic| walk_at "side") => `(tactic| first
  | assumption
  | omega
  | decide
  | exact rfl
  | (simp_all; done)
  | (simp_all; omega))
local macro_rules | `(tactic| walk_at "hu") => `(tactic| first
  | exact room65 (by assumption)
  | exact Room.units (by assumption))
local macro_rules | `(tactic| walk_at "dp") => `(tactic| first | assumption | (refine' Dx.mono ?_ (by assumption); walk_at "ex"))
local macro_rules | `(tactic| walk_at "var") => `(tactic| first
  | (apply jv_var 0; exact rfl; exact rfl; walk_at "vis"; decide; decide)
  | (apply jv_var 1; exact rfl; exact rfl; walk_at "vis"; decide; decide)
  | (apply jv_var 2; exact rfl; exact rfl; walk_at "vis"; decide; decide)
  | (apply jv_var 3; exact rfl; exact rfl; walk_at "vis"; decide; decide)
  | (apply jv_var 4; exact rfl; exact rfl; walk_at "vis"; decide; decide)
  | (apply jv_var 5; exact rfl; exact rfl; walk_at "vis"; decide; decide)
  | (apply jv_var 6; exact rfl; exact rfl; walk_at "vis"; decide; decide)
  | (apply jv_var 7; exact rfl; exact rfl; walk_at "vis"; decide; decide)
  | (apply jv_var 8; exact rfl; exact rfl; walk_at "vis"; decide; decide)
  | (apply jv_var 9; exact rfl; exact rfl; walk_at "vis"; decide; decide)
  | (apply jv_var 10; exact rfl; exact rfl; walk_at "vis"; decide; decide)
  | (apply jv_var 11; exact rfl; exact rfl; walk_at "vis"; decide; decide)
  | (apply jv_var 12; exact rfl; exact rfl; walk_at "vis"; decide; decide)
  | (apply jv_var 13; exact rfl; exact rfl; walk_at "vis"; decide; decide)
  | (apply jv_var 14; exact rfl; exact rfl; walk_at "vis"; decide; decide)
  | (apply jv_var 15; exact rfl; exact rfl; walk_at "vis"; decide; decide)
  | (apply jv_var 16; exact rfl; exact rfl; walk_at "vis"; decide; decide)
  | (apply jv_var 17; exact rfl; exact rfl; walk_at "vis"; decide; decide)
  | (apply jv_var 18; exact rfl; exact rfl; walk_at "vis"; decide; decide)
  | (apply jv_var 19; exact rfl; exact rfl; walk_at "vis"; decide; decide))
local macro_rules | `(tactic| walk_at "bm") => `(tactic| first
  | assumption)
local macro_rules | `(tactic| walk_at "call") => `(tactic| first
  | fail "call")
local macro_rules | `(tactic| walk_at "calld") => `(tactic| first
  | fail "calld")
local macro_rules | `(tactic| walk_at "kit") => `(tactic| first
  | assumption
  | exact kit_ii
  | exact kit_ib
  | exact kit_bi
  | exact kit_bb
  | exact kit_li
  | exact kit_ll
  | exact kit_tt
  | exact kit_tl
  | exact kit_lt
  | exact kit_tb)
local macro_rules | `(tactic| walk_at "ns") => `(tactic| first
  | exact fun _ _ => rfl)
local macro_rules | `(tactic| walk_at "jv") => `(tactic| first
  | exact jv_int
  | exact jv_bl
  | exact jv_non
  | exact jv_str
  | walk_at "var"
  | (apply jv_add; walk_at "jv"; walk_at "jv")
  | (apply jv_sub; walk_at "jv"; walk_at "jv")
  | (apply jv_neg; walk_at "jv")
  | (apply jv_mul; walk_at "jv"; walk_at "jv"; walk_at "mulok")
  | (apply jv_fdiv; walk_at "jv"; walk_at "jv"; walk_at "divok")
  | (apply jv_mod; walk_at "jv"; walk_at "jv"; walk_at "side")
  | (apply jv_band; walk_at "jv"; walk_at "jv")
  | (apply jv_cmp; walk_at "jo"; (first | exact rfl | exact nomark _))
  | (apply jv_chain op_le op_le; walk_at "jv"; walk_at "jv"; walk_at "jv"; with_unfolding_all rfl)
  | (apply jv_chain op_le op_lt; walk_at "jv"; walk_at "jv"; walk_at "jv"; with_unfolding_all rfl)
  | (apply jv_and; walk_at "jv"; intro hand; walk_at "jv")
  | (apply jv_or; walk_at "jv"; intro hor; walk_at "jv")
  | (apply jv_not; walk_at "jv")
  | (apply jv_one; walk_at "jv")
  | (apply jv_lenM; walk_at "bm"; walk_at "jd"; exact rfl; walk_at "ns")
  | (apply jv_len; walk_at "bm"; walk_at "jd"; exact rfl; walk_at "ns")
  | (apply jv_all; exact rfl; walk_at "bm"; walk_at "jd"; exact rfl; decide +kernel; walk_at "ns")
  | (apply jv_any; exact rfl; walk_at "bm"; walk_at "jd"; exact rfl; decide +kernel; walk_at "ns")
  | (apply jv_lenT; walk_at "bm"; walk_at "jd"; exact rfl; walk_at "ns")
  | walk_at "call"
  | (apply jv_isi; (first | exact boot_tint | exact boot_tbool | exact boot_tlist | exact boot_ttuple); walk_at "bm"; walk_at "bm"; walk_at "jd"; walk_at "kit"; exact rfl; exact rfl; exact boot_isi; walk_at "ns"; decide; decide)
  | (apply jv_lenSet; exact rfl; walk_at "bm"; walk_at "bm"; walk_at "jd"; walk_at "side"; exact rfl; exact rfl; walk_at "ns")
  | (apply jv_ifE; walk_at "jt"; intro hif; walk_at "jv"; intro hif; walk_at "jv")
  | (apply JD.toI; walk_at "jx")
  | (apply JD.toB; walk_at "jx")
  | (apply JD.toS; walk_at "jx"))
local macro_rules | `(tactic| walk_at "mulok") => `(tactic| first
  | exact Or.inr ⟨by decide, by decide⟩
  | exact Or.inl ⟨by decide, by decide⟩
  | exact Or.inl ⟨by omega, by omega⟩
  | exact Or.inr ⟨by omega, by omega⟩)
local macro_rules | `(tactic| walk_at "divok") => `(tactic| first
  | exact ⟨by decide, by decide⟩
  | exact ⟨by omega, by omega⟩)
local macro_rules | `(tactic| walk_at "jx") => `(tactic| first
  | (apply jd_ixN; walk_at "jd"; walk_at "jv"; exact fun _ _ => rfl; walk_at "side")
  | (apply jd_ixNs; walk_at "jd"; walk_at "jv"; exact fun _ _ => rfl; walk_at "side")
  | (apply jd_ixP; walk_at "jd"; walk_at "jv"; exact fun _ _ => rfl; walk_at "side")
  | (apply jd_ixPs; walk_at "jd"; walk_at "jv"; exact fun _ _ => rfl; walk_at "side")
  | (apply jd_ixI; walk_at "jd"; walk_at "jv"; exact fun _ _ => rfl; walk_at "side")
  | (apply jd_ixP1; walk_at "jd")
  | (apply jd_ixP2; walk_at "jd")
  | walk_at "calld")
local macro_rules | `(tactic| walk_at "jd") => `(tactic| first
  | (apply JV.toD; walk_at "var"; walk_at "dp")
  | walk_at "jx"
  | (apply jd_list; walk_at "jad"; exact Nat.le_of_ble_eq_true rfl)
  | (apply jd_tuple; walk_at "jad"; exact Nat.le_of_ble_eq_true rfl)
  | (apply jd_listOf; walk_at "bm"; walk_at "jd"; exact rfl; exact boot_tlist; walk_at "ns")
  | (apply JV.toD (v := V.int _); walk_at "jv"; exact Dx.int _)
  | (apply JV.toD (v := V.bl _); walk_at "jv"; exact Dx.bl _)
  | (apply JV.toD (v := V.str _); walk_at "jv"; exact Dx.str _)
  | (apply jd_ifE; walk_at "jt"; intro hif; walk_at "jd"; intro hif; walk_at "jd"))
local macro_rules | `(tactic| walk_at "jad") => `(tactic| first
  | exact jad_nil
  | (apply jad_cons; walk_at "jd"; walk_at "jad"; walk_at "ns"))
local macro_rules | `(tactic| walk_at "jo") => `(tactic| first
  | (apply jo_isN; walk_at "jv")
  | (apply jo_notN; walk_at "jv")
  | (apply jo_eqI; walk_at "jv"; walk_at "jv")
  | (apply jo_neI; walk_at "jv"; walk_at "jv")
  | (apply jo_lt; walk_at "jv"; walk_at "jv")
  | (apply jo_le; walk_at "jv"; walk_at "jv")
  | (apply jo_gt; walk_at "jv"; walk_at "jv")
  | (apply jo_ge; walk_at "jv"; walk_at "jv")
  | (apply jo_inN; walk_at "hu"; walk_at "jv"; walk_at "jd")
  | (apply jo_niN; walk_at "hu"; walk_at "jv"; walk_at "jd")
  | (apply jo_eqD; walk_at "hu"; walk_at "jd"; walk_at "jd"; walk_at "shp"; walk_at "shp")
  | (apply jo_neD; walk_at "hu"; walk_at "jd"; walk_at "jd"; walk_at "shp"; walk_at "shp"))
local macro_rules | `(tactic| walk_at "shp") => `(tactic| first
  | assumption
  | exact Shp.shaped eLL _
  | exact Shp.shaped ePs _
  | exact Shp.shaped eNs _
  | exact Shp.shaped ePss _
  | exact Shp.shaped eP _
  | exact Shp.shaped eN _
  | exact Shp.shaped eI _
  | decide)
local macro_rules | `(tactic| walk_at "jw") => `(tactic| first
  | (apply jw_one_and; walk_at "jt")
  | (apply jw_one_or; walk_at "jt")
  | (apply jw_and; walk_at "jt"; intro hand; walk_at "jw")
  | (apply jw_or; walk_at "jt"; intro hor; walk_at "jw"))
local macro_rules | `(tactic| walk_at "jt") => `(tactic| first
  | (apply jt_w; walk_at "jw")
  | (apply jt_cmp; walk_at "jo"; (first | exact rfl | exact nomark _))
  | (apply jt_not; walk_at "jt")
  | (apply jt_val; walk_at "jv"; exact fun _ => rfl)
  | (apply jt_chain op_le op_le; walk_at "jv"; walk_at "jv"; walk_at "jv"; with_unfolding_all rfl))
local macro_rules | `(tactic| walk_at "camp") => `(tactic| first | assumption | (refine' CampAt.mono ?_ (by assumption); walk_at "ex"))
local macro_rules | `(tactic| walk_at "calld") => `(tactic| first
  | (apply jd_told; assumption; walk_at "var"; walk_at "camp"; exact rfl)
  | walk_at "calld2")
local macro_rules | `(tactic| walk_at "calld2") => `(tactic| first
  | fail "calld2")
local macro_rules | `(tactic| walk_at "room") => `(tactic| first
  | assumption
  | exact Room.mono (by assumption) (by decide))
local macro_rules | `(tactic| walk_at "bm") => `(tactic| first
  | assumption
  | exact Tx.len (by assumption)
  | exact Tx.range (by assumption)
  | exact Tx.list (by assumption)
  | exact Tx.all (by assumption)
  | exact Tx.any (by assumption)
  | exact Tx.isi (by assumption)
  | exact Tx.int (by assumption)
  | exact Tx.bool (by assumption)
  | exact Tx.set (by assumption)
  | exact Tx.tup (by assumption))
local macro_rules | `(tactic| walk_at "call") => `(tactic| first
  | (apply jv_size; assumption; walk_at "var"; walk_at "camp"; exact rfl)
  | (apply jv_index; walk_at "hu"; walk_at "jd"; walk_at "jv"; walk_at "side"; walk_at "ns"; exact rfl; exact rfl; exact rfl)
  | (apply jv_would; assumption; assumption; walk_at "room"; walk_at "var"; walk_at "camp"; walk_at "jv"; walk_at "jv"; walk_at "side"; walk_at "side"; walk_at "ns"; walk_at "ns"; exact rfl; exact rfl)
  | walk_at "call2")
local macro_rules | `(tactic| walk_at "call2") => `(tactic| first
  | fail "call2")
local macro_rules | `(tactic| walk_at "call2") => `(tactic| first
  | (apply jv_rather; assumption; assumption; walk_at "room"; walk_at "var"; walk_at "camp"; walk_at "jv"; walk_at "jv"; walk_at "jv"; walk_at "side"; walk_at "side"; walk_at "ns"; walk_at "ns"; walk_at "ns"; exact rfl; exact rfl)
  | walk_at "call4")
local macro_rules | `(tactic| walk_at "call4") => `(tactic| first
  | fail "call4")
local macro_rules | `(tactic| walk_at "calld2") => `(tactic| first
  | (apply jd_open; assumption; walk_at "room"; walk_at "var"; walk_at "camp"; walk_at "side"; exact rfl; walk_at "ns"; exact rfl)
  | walk_at "calld4")
local macro_rules | `(tactic| walk_at "calld4") => `(tactic| first
  | fail "calld4")
/-! ### answers -/
def steadyA (t : V) : List (Str × V) := [("pairs", t)]
def ringsA (t : V) : List (Str × V) := [("rings", t)]
theorem steadyA_at (t : V) : (steadyA t).lookup ("pairs" : Str) = some t := by simp [steadyA, List.lookup]
theorem ringsA_at (t : V) : (ringsA t).lookup ("rings" : Str) = some t := by simp [ringsA, List.lookup]
theorem steadyA_no (t : V) {m : Str} (h : (m == ("pairs" : Str)) = false) : (steadyA t).lookup m = none := by simp [steadyA, List.lookup, h]
theorem ringsA_no (t : V) {m : Str} (h : (m == ("rings" : Str)) = false) : (ringsA t).lookup m = none := by simp [ringsA, List.lookup, h]
/-- the class facts of the answers -/
structure Ta (K : PySem.W.Frag) (mg : Str → Option Value) (CS CR : Addr) : Prop where
  clS : Cls K CS
  clR : Cls K CR
  nP : NoAttr K CS "pairs"
  nR : NoAttr K CR "rings"
  mgS : mg "Steady" = some (.ref CS)
  mgR : mg "Rings" = some (.ref CR)
/-- what a new Steady is: its list of pairs holds vs -/
def SteadyV (CS : Addr) (F : Hp) (v : V) (vs : List V) : Prop := ∃ a p', v = .ref a ∧ InsAt F a CS (steadyA (.ref p')) ∧ F p' = some (.lst vs)
def SteadyAt (CS : Addr) (G : Hp) (v : V) (ps : List (Nat × Nat)) : Prop := ∃ a t, v = .ref a ∧ InsAt G a CS (steadyA t) ∧ Dx G t (ePs ps)
def RingsAt (CR : Addr) (G : Hp) (v : V) (rs : List (List Nat)) : Prop := ∃ a t, v = .ref a ∧ InsAt G a CR (ringsA t) ∧ Dx G t (eLL rs)
theorem SteadyAt.mono {CS : Addr} {G G' : Hp} {v : V} {ps : List (Nat × Nat)} (e : Ex G G') (h : SteadyAt CS G v ps) : SteadyAt CS G' v ps := let ⟨a, t, h1, h2, h3⟩ := h; ⟨a, t, h1, h2.mono e, h3.mono e⟩
theorem RingsAt.mono {CS : Addr} {G G' : Hp} {v : V} {ps : List (List Nat)} (e : Ex G G') (h : RingsAt CS G v ps) : RingsAt CS G' v ps := let ⟨a, t, h1, h2, h3⟩ := h; ⟨a, t, h1, h2.mono e, h3.mono e⟩
theorem SteadyV.mono {CS : Addr} {G G' : Hp} {v : V} {vs : List V} (e : Ex G G') (h : SteadyV CS G v vs) : SteadyV CS G' v vs := let ⟨a, t, h1, h2, h3⟩ := h; ⟨a, t, h1, h2.mono e, e _ _ h3⟩
theorem SteadyV.at {CS : Addr} {F G : Hp} {v : V} {vs : List V} {ps : List (Nat × Nat)} (e : Ex F G) (h : SteadyV CS F v vs) (hd : DxAll G vs (ps.map eP)) : SteadyAt CS G v ps := let ⟨a, p, h1, h2, h3⟩ := h; ⟨a, .ref p, h1, h2.mono e, .lst (e _ _ h3) hd⟩
abbrev kSteady (CS : Addr) (ps : List (Nat × Nat)) : Hp → V → Prop := fun G v => SteadyAt CS G v ps
abbrev kRings (CR : Addr) (rs : List (List Nat)) : Hp → V → Prop := fun G v => RingsAt CR G v rs
theorem mo_Steady {CS : Addr} {ps : List (Nat × Nat)} : Mo (kSteady CS ps) := fun _ _ _ e h => h.mono e
theorem mo_Rings {CS : Addr} {ps : List (List Nat)} : Mo (kRings CS ps) := fun _ _ _ e h => h.mono e
abbrev kLst (vs : List V) : Hp → V → Prop := fun G v => ∃ l, v = .ref l ∧ G l = some (.lst vs)
theorem mo_Lst {vs : List V} : Mo (kLst vs) := fun _ _ _ e ⟨l, h1, h2⟩ => ⟨l, h1, e _ _ h2⟩
section
variable {X : Cx} {σ : L2.St} {e o a b c : Expr} {es : List Expr} {G : Hp} {pos : Pos} {x : Str} {C CS CR p : Addr} {L : List (List Nat)} {ps : List (Nat × Nat)} {rs : List (List Nat)} {v : V}
theorem jd_pairs (A : Ta X.K X.mg CS CR) (ho : JV X σ o G v) (hc : SteadyAt CS G v ps) (hb : attributeBase o "pairs" X.env (eval o X.env) = eval o X.env) : JD X σ (.Attribute o "pairs" pos) G (ePs ps) := by
  obtain ⟨a, t, rfl, h1, h2⟩ := hc
  exact (jv_fld A.clS A.nP ho h1 (steadyA_at _) hb).toD h2
theorem jd_rings (A : Ta X.K X.mg CS CR) (ho : JV X σ o G v) (hc : RingsAt CR G v rs) (hb : attributeBase o "rings" X.env (eval o X.env) = eval o X.env) : JD X σ (.Attribute o "rings" pos) G (eLL rs) := by
  obtain ⟨a, t, rfl, h1, h2⟩ := hc
  exact (jv_fld A.clR A.nR ho h1 (ringsA_at _) hb).toD h2
end
section
variable {P : Program} {w : World} {K : PySem.W.Frag} {mg : Str → Option Value} {base : Heap} {C CS CR : Addr}
abbrev rSteady (vs : List V) : Hp → List (Str × V) → Prop := fun F fs => ∃ p', (∀ f, fs.lookup f = (steadyA (.ref p')).lookup f) ∧ F p' = some (.lst vs)
abbrev spSteady (CS : Addr) : Sp := spMk CS (fun _ : List V => True) (fun vs => [kLst vs]) rSteady
theorem ok_steady {f : Addr} {fd : FuncData} (F : Fun K "__init__" "Steady.__init__" s_Steady___init__ f fd) (T : Tx K mg C) (A : Ta K mg CS CR) : FnOk P w K mg base CX0 1 f fd ["self", "pairs"] (spSteady CS) := by
  refine fun_okI F sc_Steady___init__ (fun _ => rfl) ?_
  rintro cdv A1 outer s H us Q E vs G H0 x dx hr _ al h k
  obtain ⟨a, rfl, hL⟩ := al.one
  have nd := sc_Steady___init__.nd
  refine b_setFldF (f := "pairs") (P := kLst vs) h A.clS A.nP (fun G => by walk_at "jv") (by decide) (jf_listV T.list ((show JV _ _ _ _ a from by walk_at "jv").toP hL) rfl (by decide +kernel) (by walk_at "ns")) rfl (fun G2 H3 v h3 e3 hF => ?_)
  obtain ⟨F, eF, fr, p', rfl, hp⟩ := hF
  refine b_nil (k G2 H3 _ F h3 eF (fun a ha => Evl.fresh_back h.st.h (fr a ha)) ⟨p', fun f => ?_, hp⟩)
  rw [lookup_putF]
  by_cases h1 : f = "pairs"
  · subst h1
    rw [if_pos rfl, steadyA_at]
  · rw [if_neg h1, steadyA_no _ (by simpa using h1)]
    rfl
abbrev rRings (rs : List (List Nat)) : Hp → List (Str × V) → Prop := fun F fs => ∃ t, (∀ f, fs.lookup f = (ringsA t).lookup f) ∧ Dx F t (eLL rs)
abbrev spRings (CR : Addr) : Sp := spMk CR (fun rs : List (List Nat) => rs.length ≤ 1000) (fun rs => [kD (eLL rs)]) rRings
theorem ok_rings {f : Addr} {fd : FuncData} (F : Fun K "__init__" "Rings.__init__" s_Rings___init__ f fd) (T : Tx K mg C) (A : Ta K mg CS CR) : FnOk P w K mg base CX0 1 f fd ["self", "rings"] (spRings CR) := by
  refine fun_okI F sc_Rings___init__ (fun _ => rfl) ?_
  rintro cdv A1 outer s H us Q E rs G H0 x dx hr hl al h k
  obtain ⟨a, rfl, hL⟩ := al.one
  try dsimp only at hL k ⊢
  have nd := sc_Rings___init__.nd
  refine b_setFldF (f := "rings") (P := kD (eLL rs)) h A.clR A.nR (fun G => by walk_at "jv") (by decide) (jf_lc (n := 2) (f0 := eNs) (xs := rs) (f := eNs) (ji_list (by walk_at "jd")) (by omega) rfl nd rfl (fun _ _ _ _ _ => ⟨by walk_at "loc", by walk_at "loc"⟩) (by first | kernel_rfl | rfl) (fun _ => rfl) ?_) rfl (fun G2 H3 v h3 e3 hF => ?_)
  · intro s h C cl fp y hy G2 u e3 pu
    exact jf_listN T.list (by walk_at "jd") rfl (by decide +kernel) (by walk_at "ns")
  obtain ⟨F, eF, fr, pv⟩ := hF
  refine b_nil (k G2 H3 _ F h3 eF (fun a ha => Evl.fresh_back h.st.h (fr a ha)) ⟨v, fun f => ?_, pv⟩)
  rw [lookup_putF]
  by_cases h1 : f = "rings"
  · subst h1
    rw [if_pos rfl, ringsA_at]
  · rw [if_neg h1, ringsA_no _ (by simpa using h1)]
    rfl
/-! ### holds -/
def holdsS (L : List (List Nat)) (ps : List (Nat × Nat)) : Bool := (ps.all fun p => would L p.1 p.2) && (decide ((flatP ps).Nodup) && decide ((breakingL L ps).length = 0))
def holdsR (L : List (List Nat)) (rs : List (List Nat)) : Bool := decide (rs.flatten.mergeSort (PySem.W.dataLe false eN) = List.range L.length) && ((rs.any fun r => decide (1 < r.length) && decide (r.length % 2 = 1)) && goodRings L rs)
theorem eqv_nil2 {α : Type} (f : α → PyData) (xs : List α) : PyData.eqv (.list (xs.map f)) (.list []) = decide (xs.length = 0) := by
  cases xs with
  | nil => simp [PyData.eqv, PyData.eqvAll]
  | cons x xs => simp [PyData.eqv, PyData.eqvAll]
abbrev spHoldsS (K : PySem.W.Frag) (C CS : Addr) : Sp := spOf (fun i : List (Nat × Nat) × List (List Nat) => i.2.length ≤ 6 ∧ (∀ p ∈ i.1, p.1 < i.2.length ∧ p.2 < i.2.length) ∧ i.1.length ≤ 1000) (fun i => [kSteady CS i.1, kCamp K C i.2]) (fun i => kB (holdsS i.2 i.1))
end
end TP

set_option Elab.async false
set_option linter.all false
set_option maxRecDepth 100000
set_option maxHeartbeats 4000000
namespace TP
open PySem PySem.Spec PyProof.Rows L2
open Evl (Ex)
-- tactics of this text: what an expression is worth (jv jd jt jo jw), growth (ex), what remains (side); call, calld: what the text adds
local macro_rules | `(tactic| walk_at "ex") => `(tactic| first | exact Ex.refl _ | assumption | (refine' Ex.trans ?_ (by assumption); walk_at "ex"))
local macro_rules | `(tactic| walk_at "vis") => `(tactic| first
  | exact Or.inl rfl
  | exact Or.inr (Or.inl rfl)
  | exact Or.inr (Or.inr rfl))
local macro_rules | `(tactic| walk_at "loc") => `(tactic| first
  | exact Or.inl rfl
  | exact Or.inr rfl)
local macro_rules | `(tactic| walk_at "side") => `(tactic| first
  | assumption
  | omega
  | decide
  | exact rfl
  | (simp_all; done)
  | (simp_all; omega))
local macro_rules | `(tactic| walk_at "hu") => `(tactic| first
  | exact room65 (by assumption)
  | exact Room.units (by assumption))
local macro_rules | `(tactic| walk_at "dp") => `(tactic| first | assumption | (refine' Dx.mono ?_ (by assumption); walk_at "ex"))
local macro_rules | `(tactic| walk_at "var") => `(tactic| first
  | (apply jv_var 0; exact rfl; exact rfl; walk_at "vis"; decide; decide)
  | (apply jv_var 1; exact rfl; exact rfl; walk_at "vis"; decide; decide)
  | (apply jv_var 2; exact rfl; exact rfl; walk_at "vis"; decide; decide)
  | (apply jv_var 3; exact rfl; exact rfl; walk_at "vis"; decide; decide)
  | (apply jv_var 4; exact rfl; exact rfl; walk_at "vis"; decide; decide)
  | (apply jv_var 5; exact rfl; exact rfl; walk_at "vis"; decide; decide)
  | (apply jv_var 6; exact rfl; exact rfl; walk_at "vis"; decide; decide)
  | (apply jv_var 7; exact rfl; exact rfl; walk_at "vis"; decide; decide)
  | (apply jv_var 8; exact rfl; exact rfl; walk_at "vis"; decide; decide)
  | (apply jv_var 9; exact rfl; exact rfl; walk_at "vis"; decide; decide)
  | (apply jv_var 10; exact rfl; exact rfl; walk_at "vis"; decide; decide)
  | (apply jv_var 11; exact rfl; exact rfl; walk_at "vis"; decide; decide)
  | (apply jv_var 12; exact rfl; exact rfl; walk_at "vis"; decide; decide)
  | (apply jv_var 13; exact rfl; exact rfl; walk_at "vis"; decide; decide)
  | (apply jv_var 14; exact rfl; exact rfl; walk_at "vis"; decide; decide)
  | (apply jv_var 15; exact rfl; exact rfl; walk_at "vis"; decide; decide)
  | (apply jv_var 16; exact rfl; exact rfl; walk_at "vis"; decide; decide)
  | (apply jv_var 17; exact rfl; exact rfl; walk_at "vis"; decide; decide)
  | (apply jv_var 18; exact rfl; exact rfl; walk_at "vis"; decide; decide)
  | (apply jv_var 19; exact rfl; exact rfl; walk_at "vis"; decide; decide))
local macro_rules | `(tactic| walk_at "bm") => `(tactic| first
  | assumption)
local macro_rules | `(tactic| walk_at "call") => `(tactic| first
  | fail "call")
local macro_rules | `(tactic| walk_at "calld") => `(tactic| first
  | fail "calld")
local macro_rules | `(tactic| walk_at "kit") => `(tactic| first
  | assumption
  | exact kit_ii
  | exact kit_ib
  | exact kit_bi
  | exact kit_bb
  | exact kit_li
  | exact kit_ll
  | exact kit_tt
  | exact kit_tl
  | exact kit_lt
  | exact kit_tb)
local macro_rules | `(tactic| walk_at "ns") => `(tactic| first
  | exact fun _ _ => rfl)
local macro_rules | `(tactic| walk_at "jv") => `(tactic| first
  | exact jv_int
  | exact jv_bl
  | exact jv_non
  | exact jv_str
  | walk_at "var"
  | (apply jv_add; walk_at "jv"; walk_at "jv")
  | (apply jv_sub; walk_at "jv"; walk_at "jv")
  | (apply jv_neg; walk_at "jv")
  | (apply jv_mul; walk_at "jv"; walk_at "jv"; walk_at "mulok")
  | (apply jv_fdiv; walk_at "jv"; walk_at "jv"; walk_at "divok")
  | (apply jv_mod; walk_at "jv"; walk_at "jv"; walk_at "side")
  | (apply jv_band; walk_at "jv"; walk_at "jv")
  | (apply jv_cmp; walk_at "jo"; (first | exact rfl | exact nomark _))
  | (apply jv_chain op_le op_le; walk_at "jv"; walk_at "jv"; walk_at "jv"; with_unfolding_all rfl)
  | (apply jv_chain op_le op_lt; walk_at "jv"; walk_at "jv"; walk_at "jv"; with_unfolding_all rfl)
  | (apply jv_and; walk_at "jv"; intro hand; walk_at "jv")
  | (apply jv_or; walk_at "jv"; intro hor; walk_at "jv")
  | (apply jv_not; walk_at "jv")
  | (apply jv_one; walk_at "jv")
  | (apply jv_lenM; walk_at "bm"; walk_at "jd"; exact rfl; walk_at "ns")
  | (apply jv_len; walk_at "bm"; walk_at "jd"; exact rfl; walk_at "ns")
  | (apply jv_all; exact rfl; walk_at "bm"; walk_at "jd"; exact rfl; decide +kernel; walk_at "ns")
  | (apply jv_any; exact rfl; walk_at "bm"; walk_at "jd"; exact rfl; decide +kernel; walk_at "ns")
  | (apply jv_lenT; walk_at "bm"; walk_at "jd"; exact rfl; walk_at "ns")
  | walk_at "call"
  | (apply jv_isi; (first | exact boot_tint | exact boot_tbool | exact boot_tlist | exact boot_ttuple); walk_at "bm"; walk_at "bm"; walk_at "jd"; walk_at "kit"; exact rfl; exact rfl; exact boot_isi; walk_at "ns"; decide; decide)
  | (apply jv_lenSet; exact rfl; walk_at "bm"; walk_at "bm"; walk_at "jd"; walk_at "side"; exact rfl; exact rfl; walk_at "ns")
  | (apply jv_ifE; walk_at "jt"; intro hif; walk_at "jv"; intro hif; walk_at "jv")
  | (apply JD.toI; walk_at "jx")
  | (apply JD.toB; walk_at "jx")
  | (apply JD.toS; walk_at "jx"))
local macro_rules | `(tactic| walk_at "mulok") => `(tactic| first
  | exact Or.inr ⟨by decide, by decide⟩
  | exact Or.inl ⟨by decide, by decide⟩
  | exact Or.inl ⟨by omega, by omega⟩
  | exact Or.inr ⟨by omega, by omega⟩)
local macro_rules | `(tactic| walk_at "divok") => `(tactic| first
  | exact ⟨by decide, by decide⟩
  | exact ⟨by omega, by omega⟩)
local macro_rules | `(tactic| walk_at "jx") => `(tactic| first
  | (apply jd_ixN; walk_at "jd"; walk_at "jv"; exact fun _ _ => rfl; walk_at "side")
  | (apply jd_ixNs; walk_at "jd"; walk_at "jv"; exact fun _ _ => rfl; walk_at "side")
  | (apply jd_ixP; walk_at "jd"; walk_at "jv"; exact fun _ _ => rfl; walk_at "side")
  | (apply jd_ixPs; walk_at "jd"; walk_at "jv"; exact fun _ _ => rfl; walk_at "side")
  | (apply jd_ixI; walk_at "jd"; walk_at "jv"; exact fun _ _ => rfl; walk_at "side")
  | (apply jd_ixP1; walk_at "jd")
  | (apply jd_ixP2; walk_at "jd")
  | walk_at "calld")
local macro_rules | `(tactic| walk_at "jd") => `(tactic| first
  | (apply JV.toD; walk_at "var"; walk_at "dp")
  | walk_at "jx"
  | (apply jd_list; walk_at "jad"; exact Nat.le_of_ble_eq_true rfl)
  | (apply jd_tuple; walk_at "jad"; exact Nat.le_of_ble_eq_true rfl)
  | (apply jd_listOf; walk_at "bm"; walk_at "jd"; exact rfl; exact boot_tlist; walk_at "ns")
  | (apply JV.toD (v := V.int _); walk_at "jv"; exact Dx.int _)
  | (apply JV.toD (v := V.bl _); walk_at "jv"; exact Dx.bl _)
  | (apply JV.toD (v := V.str _); walk_at "jv"; exact Dx.str _)
  | (apply jd_ifE; walk_at "jt"; intro hif; walk_at "jd"; intro hif; walk_at "jd"))
local macro_rules | `(tactic| walk_at "jad") => `(tactic| first
  | exact jad_nil
  | (apply jad_cons; walk_at "jd"; walk_at "jad"; walk_at "ns"))
local macro_rules | `(tactic| walk_at "jo") => `(tactic| first
  | (apply jo_isN; walk_at "jv")
  | (apply jo_notN; walk_at "jv")
  | (apply jo_eqI; walk_at "jv"; walk_at "jv")
  | (apply jo_neI; walk_at "jv"; walk_at "jv")
  | (apply jo_lt; walk_at "jv"; walk_at "jv")
  | (apply jo_le; walk_at "jv"; walk_at "jv")
  | (apply jo_gt; walk_at "jv"; walk_at "jv")
  | (apply jo_ge; walk_at "jv"; walk_at "jv")
  | (apply jo_inN; walk_at "hu"; walk_at "jv"; walk_at "jd")
  | (apply jo_niN; walk_at "hu"; walk_at "jv"; walk_at "jd")
  | (apply jo_eqD; walk_at "hu"; walk_at "jd"; walk_at "jd"; walk_at "shp"; walk_at "shp")
  | (apply jo_neD; walk_at "hu"; walk_at "jd"; walk_at "jd"; walk_at "shp"; walk_at "shp"))
local macro_rules | `(tactic| walk_at "shp") => `(tactic| first
  | assumption
  | exact Shp.shaped eLL _
  | exact Shp.shaped ePs _
  | exact Shp.shaped eNs _
  | exact Shp.shaped ePss _
  | exact Shp.shaped eP _
  | exact Shp.shaped eN _
  | exact Shp.shaped eI _
  | decide)
local macro_rules | `(tactic| walk_at "jw") => `(tactic| first
  | (apply jw_one_and; walk_at "jt")
  | (apply jw_one_or; walk_at "jt")
  | (apply jw_and; walk_at "jt"; intro hand; walk_at "jw")
  | (apply jw_or; walk_at "jt"; intro hor; walk_at "jw"))
local macro_rules | `(tactic| walk_at "jt") => `(tactic| first
  | (apply jt_w; walk_at "jw")
  | (apply jt_cmp; walk_at "jo"; (first | exact rfl | exact nomark _))
  | (apply jt_not; walk_at "jt")
  | (apply jt_val; walk_at "jv"; exact fun _ => rfl)
  | (apply jt_chain op_le op_le; walk_at "jv"; walk_at "jv"; walk_at "jv"; with_unfolding_all rfl))
local macro_rules | `(tactic| walk_at "camp") => `(tactic| first | assumption | (refine' CampAt.mono ?_ (by assumption); walk_at "ex"))
local macro_rules | `(tactic| walk_at "calld") => `(tactic| first
  | (apply jd_told; assumption; walk_at "var"; walk_at "camp"; exact rfl)
  | walk_at "calld2")
local macro_rules | `(tactic| walk_at "calld2") => `(tactic| first
  | fail "calld2")
local macro_rules | `(tactic| walk_at "room") => `(tactic| first
  | assumption
  | exact Room.mono (by assumption) (by decide))
local macro_rules | `(tactic| walk_at "bm") => `(tactic| first
  | assumption
  | exact Tx.len (by assumption)
  | exact Tx.range (by assumption)
  | exact Tx.list (by assumption)
  | exact Tx.all (by assumption)
  | exact Tx.any (by assumption)
  | exact Tx.isi (by assumption)
  | exact Tx.int (by assumption)
  | exact Tx.bool (by assumption)
  | exact Tx.set (by assumption)
  | exact Tx.tup (by assumption))
local macro_rules | `(tactic| walk_at "call") => `(tactic| first
  | (apply jv_size; assumption; walk_at "var"; walk_at "camp"; exact rfl)
  | (apply jv_index; walk_at "hu"; walk_at "jd"; walk_at "jv"; walk_at "side"; walk_at "ns"; exact rfl; exact rfl; exact rfl)
  | (apply jv_would; assumption; assumption; walk_at "room"; walk_at "var"; walk_at "camp"; walk_at "jv"; walk_at "jv"; walk_at "side"; walk_at "side"; walk_at "ns"; walk_at "ns"; exact rfl; exact rfl)
  | walk_at "call2")
local macro_rules | `(tactic| walk_at "call2") => `(tactic| first
  | fail "call2")
local macro_rules | `(tactic| walk_at "call2") => `(tactic| first
  | (apply jv_rather; assumption; assumption; walk_at "room"; walk_at "var"; walk_at "camp"; walk_at "jv"; walk_at "jv"; walk_at "jv"; walk_at "side"; walk_at "side"; walk_at "ns"; walk_at "ns"; walk_at "ns"; exact rfl; exact rfl)
  | walk_at "call4")
local macro_rules | `(tactic| walk_at "call4") => `(tactic| first
  | fail "call4")
local macro_rules | `(tactic| walk_at "calld2") => `(tactic| first
  | (apply jd_open; assumption; walk_at "room"; walk_at "var"; walk_at "camp"; walk_at "side"; exact rfl; walk_at "ns"; exact rfl)
  | walk_at "calld4")
local macro_rules | `(tactic| walk_at "calld4") => `(tactic| first
  | fail "calld4")
section
variable {X : Cx} {σ : L2.St} {e o a b c : Expr} {es : List Expr} {G : Hp} {pos : Pos} {x : Str} {C p : Addr} {L : List (List Nat)} {rs : List (List Nat)}
theorem jv_good {ap : Pos} (M : Df X.prog X.w X.K X.mg X.base "good_rings" 3 (spGood X.K C)) (hr : Room 3 X.A) (ho : JV X σ o G (.ref p)) (hc : CampAt X.K C G p L) (ha : JD X σ a G (eLL rs)) (hL : L.length ≤ 6) (hw : Whole L.length rs) (hg : Gl X "good_rings") (no : NoStar o) (na : NoStar a)
    (hpl : (backTo pos (starEach [a] X.env)).any (·.1) = false) : JV X σ (.Call (.Name "good_rings" ap) [o, a] [] pos) G (.bl (goodRings L rs)) :=
  (jp_call M hr hg (L, rs) ⟨hL, hw⟩ (jal_cons (ho.toP ⟨p, rfl, hc⟩) mo_Camp (fun _ e => jal_cons (ha.mono e).toP mo_D (fun _ _ => jal_nil) na) no) no (by decide) hpl).toB
theorem jd_all {ap : Pos} (M : Df X.prog X.w X.K X.mg X.base "all_steady" 4 (spAll X.K C)) (hr : Room 4 X.A) (ho : JV X σ o G (.ref p)) (hc : CampAt X.K C G p L) (hL : L.length ≤ 6) (hg : Gl X "all_steady") (na : NoStar o)
    (hpl : (backTo pos (starEach [] X.env)).any (·.1) = false) : JD X σ (.Call (.Name "all_steady" ap) [o] [] pos) G (ePss (allSteady L)) :=
  (jp_call M hr hg L hL (jal_cons (ho.toP ⟨p, rfl, hc⟩) mo_Camp (fun _ _ => jal_nil) na) na (by decide) hpl).toD
theorem jd_nexts {ap : Pos} (M : Df X.prog X.w X.K X.mg X.base "all_nexts" 3 (spNexts X.K C)) (hr : Room 3 X.A) (ho : JV X σ o G (.ref p)) (hc : CampAt X.K C G p L) (hL : L.length ≤ 6) (hg : Gl X "all_nexts") (na : NoStar o)
    (hpl : (backTo pos (starEach [] X.env)).any (·.1) = false) : JD X σ (.Call (.Name "all_nexts" ap) [o] [] pos) G (eLL (allNexts L)) :=
  (jp_call M hr hg L hL (jal_cons (ho.toP ⟨p, rfl, hc⟩) mo_Camp (fun _ _ => jal_nil) na) na (by decide) hpl).toD
theorem jd_ringsof {ap : Pos} {f g : Nat → Nat} {n : Nat} (M : Df X.prog X.w X.K X.mg X.base "rings_of" 1 spRingsOf) (hr : Room 1 X.A) (ha : JD X σ a G (eNs ((List.range n).map f))) (I : Tan.Inv n f g) (h6 : n ≤ 6) (hg : Gl X "rings_of") (na : NoStar a)
    (hpl : (backTo pos (starEach [] X.env)).any (·.1) = false) : JD X σ (.Call (.Name "rings_of" ap) [a] [] pos) G (eLL (ringsOf f n)) :=
  (jp_call M hr hg (f, g, n) ⟨I, h6⟩ (jal_cons ha.toP mo_D (fun _ _ => jal_nil) na) na (by decide) hpl).toD
end
/-! ### pure facts -/
theorem sorted_whole {n : Nat} {rs : List (List Nat)} (h6 : n ≤ 6) (h : rs.flatten.mergeSort (PySem.W.dataLe false eN) = List.range n) : Whole n rs := by
  have hp := List.mergeSort_perm rs.flatten (PySem.W.dataLe false eN)
  rw [h] at hp
  refine ⟨fun x hx => List.mem_range.mp (hp.mem_iff.mpr hx), fun x hx => hp.mem_iff.mp (List.mem_range.mpr hx), ?_⟩
  have := hp.length_eq
  rw [List.length_range] at this
  omega
theorem nodup_full {n : Nat} {l : List Nat} (nd : l.Nodup) (hl : l.length = n) (hlt : ∀ x ∈ l, x < n) {j : Nat} (hj : j < n) : j ∈ l := by
  refine Classical.byContradiction fun hn => ?_
  have := nd_sub l ((List.range n).erase j) nd fun x hx => (List.mem_erase_of_ne (fun e => hn (by rw [← e]; exact hx))).mpr (List.mem_range.mpr (hlt x hx))
  rw [List.length_erase_of_mem (List.mem_range.mpr hj), List.length_range] at this
  omega
theorem nexts_inv {L : List (List Nat)} {s : List Nat} (h : s ∈ allNexts L) : ∃ f g, Tan.Inv L.length f g ∧ s = (List.range L.length).map f := by
  have ha := nexts_at L.length (Nat.le_refl _) s h
  have hlt : ∀ x ∈ s, x < L.length := fun x hx => by
    obtain ⟨k, hk, e⟩ := mem_getD hx
    have := (ha.ok.2 k hk).1
    rw [e] at this
    exact this
  have full : ∀ j, j < L.length → j ∈ s := fun j hj => nodup_full ha.nd ha.len hlt hj
  refine ⟨fun i => s.getD i 0, fun j => s.idxOf j, ⟨fun i hi => (ha.ok.2 i (by rw [ha.len]; exact hi)).1, fun i hi => ?_, fun i hi => ?_, fun i hi => ?_⟩, ?_⟩
  · have := List.idxOf_lt_length_of_mem (full i hi)
    rw [ha.len] at this
    exact this
  · have hk : i < s.length := by rw [ha.len]; exact hi
    have hm := getD_mem (r := s) hk
    have h1 := List.idxOf_lt_length_of_mem hm
    refine getD_nd ha.nd h1 hk ?_
    rw [List.getD_eq_getElem?_getD, List.getElem?_eq_getElem h1, Option.getD_some, List.getElem_idxOf h1]
  · have h1 := List.idxOf_lt_length_of_mem (full i hi)
    show s.getD (s.idxOf i) 0 = i
    rw [List.getD_eq_getElem?_getD, List.getElem?_eq_getElem h1, Option.getD_some, List.getElem_idxOf h1]
  · refine List.ext_getElem ?_ fun i h1 h2 => ?_
    · rw [List.length_map, List.length_range, ha.len]
    · rw [List.getElem_map, List.getElem_range, List.getD_eq_getElem?_getD, List.getElem?_eq_getElem h1, Option.getD_some]
theorem parts_whole {n : Nat} {f g : Nat → Nat} (h6 : n ≤ 6) (I : Tan.Inv n f g) : Whole n (ringsOf f n) := by
  have h := ringsOf_all I
  have lt : ∀ x ∈ (ringsOf f n).flatten, x < n := fun x hx => by
    obtain ⟨r, hr, hx⟩ := List.mem_flatten.mp hx
    exact (h.by_ r hr).lt x hx
  exact ⟨lt, h.all, Nat.le_trans (nodup_bound n _ h.nd lt) (by omega)⟩
theorem ringsOf_len {n : Nat} {f g : Nat → Nat} (h6 : n ≤ 6) (I : Tan.Inv n f g) : (ringsOf f n).length ≤ 6 := by
  have h := ringsOf_all I
  have h2 := (parts_whole h6 I).lt
  have : ∀ rs : List (List Nat), (∀ r ∈ rs, r ≠ []) → rs.length ≤ rs.flatten.length := fun rs => by
    induction rs with
    | nil => intro _; exact Nat.le_refl _
    | cons r rs ih =>
      intro hh
      have h1 := ih fun q hq => hh q (List.mem_cons_of_mem _ hq)
      have h2 := List.length_pos_iff.mpr (hh r List.mem_cons_self)
      rw [List.length_cons, List.flatten_cons, List.length_append]
      omega
  have h3 := this _ fun r hr => (h.by_ r hr).ne
  have h4 := nodup_bound n _ h.nd h2
  omega
theorem Dx.lst_of {G : Hp} {v : V} {ds : List PyData} (h : Dx G v (.list ds)) : ∃ a xs, v = .ref a ∧ G a = some (.lst xs) ∧ DxAll G xs ds := by
  cases h with
  | lst h1 h2 => exact ⟨_, _, rfl, h1, h2⟩
theorem ringGo_congr {n c : Nat} {f f' : Nat → Nat} (hl : ∀ i, i < n → f i < n) (he : ∀ i, i < n → f i = f' i) : ∀ m x, x < n → ringGo f c m x = ringGo f' c m x
  | 0, _, _ => rfl
  | m + 1, x, hx => by
    unfold ringGo
    rw [← he x hx, ringGo_congr hl he m (f x) (hl x hx)]
theorem ringsOf_congr {n : Nat} {f f' : Nat → Nat} (hl : ∀ i, i < n → f i < n) (he : ∀ i, i < n → f i = f' i) : ringsOf f n = ringsOf f' n := by
  unfold ringsOf
  have : ∀ (cs : List Nat) (acc : List (List Nat)), (∀ c ∈ cs, c < n) → cs.foldl (ringsStep f n) acc = cs.foldl (ringsStep f' n) acc := fun cs => by
    induction cs with
    | nil => intro _ _; rfl
    | cons c cs ih =>
      intro acc hc
      have h0 := hc c List.mem_cons_self
      rw [List.foldl_cons, List.foldl_cons, ih _ fun d hd => hc d (List.mem_cons_of_mem _ hd)]
      congr 1
      unfold ringsStep ringOf
      rw [ringGo_congr hl he n c h0]
  exact this _ _ fun c hc => List.mem_range.mp hc
theorem map_range_inj {n : Nat} {f f' : Nat → Nat} (h : (List.range n).map f = (List.range n).map f') : ∀ i, i < n → f i = f' i := fun i hi => by
  have h1 := getD_map_range (u := f) hi
  rw [h, getD_map_range hi] at h1
  exact h1.symm
/-- what telling tells -/
def tellR (CS CR : Addr) (L : List (List Nat)) (F G : Hp) (v : V) : Prop :=
  (∃ ps vs, ps ∈ allSteady L ∧ SteadyV CS F v vs ∧ DxAll G vs (ps.map eP)) ∨ (allSteady L = [] ∧ ∃ f g, Tan.Inv L.length f g ∧ goodRings L (ringsOf f L.length) = true ∧ RingsAt CR F v (ringsOf f L.length))
section
variable {P : Program} {w : World} {K : PySem.W.Frag} {mg : Str → Option Value} {base : Heap} {C CS CR : Addr}
abbrev spHoldsR (K : PySem.W.Frag) (C CR : Addr) : Sp := spOf (fun i : List (List Nat) × List (List Nat) => i.2.length ≤ 6 ∧ i.1.flatten.length ≤ 1000 ∧ i.1.length ≤ 1000 ∧ ∀ r ∈ i.1, r.length ≤ 1000) (fun i => [kRings CR i.1, kCamp K C i.2]) (fun i => kB (holdsR i.2 i.1))
/-! ### telling -/
abbrev spTell (K : PySem.W.Frag) (C CS CR : Addr) : Sp := spOfH ValidL (fun i => [kCamp K C i]) (tellR CS CR)
theorem ok_telling {f : Addr} {fd : FuncData} (F : Fun K "telling" "telling" s_telling f fd) (T : Tx K mg C) (A : Ta K mg CS CR) (MA : Df P w K mg base "all_steady" 4 (spAll K C)) (MN : Df P w K mg base "all_nexts" 3 (spNexts K C)) (MO : Df P w K mg base "rings_of" 1 spRingsOf) (MG : Df P w K mg base "good_rings" 3 (spGood K C)) (MS : Mkr P w K mg base CS 1 (spSteady CS)) (MR : Mkr P w K mg base CR 1 (spRings CR)) : FnOk P w K mg base CX0 5 f fd ["camp"] (spTell K C CS CR) := by
  refine fun_okH F sc_telling (fun _ => rfl) ?_
  rintro cdv A1 outer s H vs Q E L G hr hv al h k
  obtain ⟨_, rfl, ⟨p, rfl, hc⟩⟩ := al.one
  try dsimp only at hv hc k ⊢
  have nd := sc_telling.nd
  have hL := hv.six
  have hu := hr.units
  have hu64 : (A1.deeper (envOfC "telling" (defScope s_telling) s.heap.objs.size f cdv)).units + 64 < cLine := by omega
  refine b_setD (n := 1) h (d := ePss (allSteady L)) (jd_all MA (hr.mono (by decide)) (by walk_at "var") (by walk_at "camp") hL rfl (by walk_at "ns") rfl) nd rfl (by walk_at "loc") rfl (Or.inl rfl) (fun G1 H1 sv h1 e1 hs1 => ?_)
  have fin : ∀ {G2 H2 : Hp} {os : List (Addr × HO)}, Hs G H G2 H2 os → ∀ G' H' v F, Stp G2 H2 G' H' → Ex F G' → (∀ a, F a ≠ none → H2 a = none) → tellR CS CR L F G' v → Q v H' := fun h2 G' H' v F st eF fr r => k G' H' v F (h2.st.trans st) eF (fun a ha => Evl.fresh_back h2.st.h (fr a ha)) r
  refine b_if (p := !decide ((allSteady L).length = 0)) h1 (JT.is (jt_cmp (jo_neD (d1 := ePss (allSteady L)) (d2 := .list []) hu64 (by walk_at "jd") (by walk_at "jd") (Shp.shaped ePss _) (by decide)) rfl) (by rw [show PyData.eqv (.list ((allSteady L).map ePs)) (.list []) = _ from eqv_nil2 ePs _])) (fun hb H2 h2 => ?_) (fun hb H2 h2 => b_nil ?_)
  · have hlen : 0 < (allSteady L).length := by
      rw [Bool.not_eq_true', decide_eq_false_iff_not] at hb
      omega
    have hmem : (allSteady L).getD 0 [] ∈ allSteady L := by
      rw [List.getD_eq_getElem?_getD, List.getElem?_eq_getElem hlen]
      exact List.getElem_mem hlen
    generalize hS : (allSteady L).getD 0 [] = s0 at *
    refine b_retH h2 (PP := tellR CS CR L) (jh_make1 MS (P0 := kD (ePs s0)) (hr.mono (by decide)) rfl A.mgS (JD.toP (JD.is (jd_ixPs (xs := allSteady L) (n := 0) (by walk_at "jd") (JV.is jv_int rfl) (fun _ _ => rfl) hlen) (by rw [hS]))) (by walk_at "ns") (by decide) rfl (fun G3 u e3 pu => ?_)) (fin h2)
    obtain ⟨a, xs, rfl, hx1, hx2⟩ := Dx.lst_of pu
    refine ⟨xs, trivial, ⟨⟨a, rfl, hx1⟩, trivial⟩, fun F F' G' aa dx fs eG eF ⟨p', q1, q2⟩ q3 => Or.inl ⟨s0, xs, hmem, ⟨aa, p', rfl, ⟨dx, fs, q3, q1⟩, eF _ _ q2⟩, hx2.mono eG⟩⟩
  have hnil : allSteady L = [] := by
    rw [Bool.not_eq_false', decide_eq_true_eq] at hb
    exact List.length_eq_zero_iff.mp hb
  refine b_for h2 (f := eNs) (xs := allNexts L) (ji_list (jd_nexts MN (hr.mono (by decide)) (by walk_at "var") (by walk_at "camp") hL rfl (by walk_at "ns") rfl)) PassesOwn.never rfl (fun _ => rfl) (fun G3 H3 h3 e3 => ?_)
  refine ⟨fun pre σ' G' H' => ∃ o2 o3, σ' = [some (.ref p), some sv, o2, o3] ∧ Hs G H G' H' [] ∧ Ex G3 G' ∧ ∀ y ∈ pre, ∀ f, y = (List.range L.length).map f → goodRings L (ringsOf f L.length) = false, ?_, ?_, ?_, ?_⟩
  · exact ⟨none, none, rfl, h3, Ex.refl _, fun y hy => by cases hy⟩
  · rintro pre σ' G' H' ⟨o2, o3, rfl, hs, e, _⟩
    exact ⟨e, hs.ex⟩
  · rintro pre x post v σ' G' H' hxs ⟨o2, o3, rfl, hs, e, hno⟩ pv
    have hx : x ∈ allNexts L := by rw [hxs]; simp
    obtain ⟨fn, gn, I, ex⟩ := nexts_inv hx
    have hxd : Dx G' v (eNs ((List.range L.length).map fn)) := by rw [← ex]; exact pv.mono e
    have hrl := ringsOf_len hL I
    refine wg_name (n := 2) nd rfl (by walk_at "loc") (Or.inl rfl) ?_
    refine b_setD (n := 3) hs (d := eLL (ringsOf fn L.length)) (jd_ringsof MO (hr.mono (by decide)) (by walk_at "jd") I hL rfl (by walk_at "ns") rfl) nd rfl (by walk_at "loc") rfl (Or.inl rfl) (fun G4 H4 rv h4 e4 hrv => ?_)
    refine b_if (p := goodRings L (ringsOf fn L.length)) h4 (jt_val (jv_good MG (hr.mono (by decide)) (by walk_at "var") (by walk_at "camp") (by walk_at "jd") hL (parts_whole hL I) rfl (by walk_at "ns") (by walk_at "ns") rfl) (fun _ => rfl)) (fun hb H5 h5 => ?_) (fun hb H5 h5 => b_nil (b_nil ⟨G4, _, _, rfl, h5, e.trans e4, fun y hy f ef => ?_⟩))
    · refine b_retH h5 (PP := tellR CS CR L) (jh_make1 MR (P0 := kD (eLL (ringsOf fn L.length))) (hr.mono (by decide)) rfl A.mgR (JD.toP (by walk_at "jd")) (by walk_at "ns") (by decide) rfl (fun G3 u e3 pu => ⟨ringsOf fn L.length, by omega, ⟨pu, trivial⟩, fun F F' G' aa dx fs eG eF ⟨t, q1, q2⟩ q3 => Or.inr ⟨hnil, fn, gn, I, hb, aa, t, rfl, ⟨dx, fs, q3, q1⟩, q2.mono eF⟩⟩)) (fin h5)
    · rcases List.mem_append.mp hy with hy | hy
      · exact hno y hy f ef
      · rw [List.mem_singleton] at hy
        have e6 := map_range_inj (ex.symm.trans (hy.symm.trans ef))
        rw [← ringsOf_congr I.lf e6]
        exact hb
  · rintro σ' G' H' ⟨o2, o3, rfl, hs, e, hno⟩
    obtain ⟨x, hx, f, g, I, ex, hg⟩ := rings_there hv
    have := hno x hx f ex
    rw [hg] at this
    cases this
end
end TP

set_option Elab.async false
set_option linter.all false
set_option maxRecDepth 100000
set_option maxHeartbeats 2000000
namespace TP
open PySem PySem.Spec PyProof.Rows L2
open Evl (Ex)
-- tactics of this text: what an expression is worth (jv jd jt jo jw), growth (ex), what remains (side); call, calld: what the text adds
local macro_rules | `(tactic| walk_at "ex") => `(tactic| first | exact Ex.refl _ | assumption | (refine' Ex.trans ?_ (by assumption); walk_at "ex"))
local macro_rules | `(tactic| walk_at "vis") => `(tactic| first
  | exact Or.inl rfl
  | exact Or.inr (Or.inl rfl)
  | exact Or.inr (Or.inr rfl))
local macro_rules | `(tactic| walk_at "loc") => `(tactic| first
  | exact Or.inl rfl
  | exact Or.inr rfl)
local macro_rules | `(tactic| walk_at "side") => `(tactic| first
  | assumption
  | omega
  | decide
  | exact rfl
  | (simp_all; done)
  | (simp_all; omega))
local macro_rules | `(tactic| walk_at "hu") => `(tactic| first
  | exact room65 (by assumption)
  | exact Room.units (by assumption))
local macro_rules | `(tactic| walk_at "dp") => `(tactic| first | assumption | (refine' Dx.mono ?_ (by assumption); walk_at "ex"))
local macro_rules | `(tactic| walk_at "var") => `(tactic| first
  | (apply jv_var 0; exact rfl; exact rfl; walk_at "vis"; decide; decide)
  | (apply jv_var 1; exact rfl; exact rfl; walk_at "vis"; decide; decide)
  | (apply jv_var 2; exact rfl; exact rfl; walk_at "vis"; decide; decide)
  | (apply jv_var 3; exact rfl; exact rfl; walk_at "vis"; decide; decide)
  | (apply jv_var 4; exact rfl; exact rfl; walk_at "vis"; decide; decide)
  | (apply jv_var 5; exact rfl; exact rfl; walk_at "vis"; decide; decide)
  | (apply jv_var 6; exact rfl; exact rfl; walk_at "vis"; decide; decide)
  | (apply jv_var 7; exact rfl; exact rfl; walk_at "vis"; decide; decide)
  | (apply jv_var 8; exact rfl; exact rfl; walk_at "vis"; decide; decide)
  | (apply jv_var 9; exact rfl; exact rfl; walk_at "vis"; decide; decide)
  | (apply jv_var 10; exact rfl; exact rfl; walk_at "vis"; decide; decide)
  | (apply jv_var 11; exact rfl; exact rfl; walk_at "vis"; decide; decide)
  | (apply jv_var 12; exact rfl; exact rfl; walk_at "vis"; decide; decide)
  | (apply jv_var 13; exact rfl; exact rfl; walk_at "vis"; decide; decide)
  | (apply jv_var 14; exact rfl; exact rfl; walk_at "vis"; decide; decide)
  | (apply jv_var 15; exact rfl; exact rfl; walk_at "vis"; decide; decide)
  | (apply jv_var 16; exact rfl; exact rfl; walk_at "vis"; decide; decide)
  | (apply jv_var 17; exact rfl; exact rfl; walk_at "vis"; decide; decide)
  | (apply jv_var 18; exact rfl; exact rfl; walk_at "vis"; decide; decide)
  | (apply jv_var 19; exact rfl; exact rfl; walk_at "vis"; decide; decide))
local macro_rules | `(tactic| walk_at "bm") => `(tactic| first
  | assumption)
local macro_rules | `(tactic| walk_at "call") => `(tactic| first
  | fail "call")
local macro_rules | `(tactic| walk_at "calld") => `(tactic| first
  | fail "calld")
local macro_rules | `(tactic| walk_at "kit") => `(tactic| first
  | assumption
  | exact kit_ii
  | exact kit_ib
  | exact kit_bi
  | exact kit_bb
  | exact kit_li
  | exact kit_ll
  | exact kit_tt
  | exact kit_tl
  | exact kit_lt
  | exact kit_tb)
local macro_rules | `(tactic| walk_at "ns") => `(tactic| first
  | exact fun _ _ => rfl)
local macro_rules | `(tactic| walk_at "jv") => `(tactic| first
  | exact jv_int
  | exact jv_bl
  | exact jv_non
  | exact jv_str
  | walk_at "var"
  | (apply jv_add; walk_at "jv"; walk_at "jv")
  | (apply jv_sub; walk_at "jv"; walk_at "jv")
  | (apply jv_neg; walk_at "jv")
  | (apply jv_mul; walk_at "jv"; walk_at "jv"; walk_at "mulok")
  | (apply jv_fdiv; walk_at "jv"; walk_at "jv"; walk_at "divok")
  | (apply jv_mod; walk_at "jv"; walk_at "jv"; walk_at "side")
  | (apply jv_band; walk_at "jv"; walk_at "jv")
  | (apply jv_cmp; walk_at "jo"; (first | exact rfl | exact nomark _))
  | (apply jv_chain op_le op_le; walk_at "jv"; walk_at "jv"; walk_at "jv"; with_unfolding_all rfl)
  | (apply jv_chain op_le op_lt; walk_at "jv"; walk_at "jv"; walk_at "jv"; with_unfolding_all rfl)
  | (apply jv_and; walk_at "jv"; intro hand; walk_at "jv")
  | (apply jv_or; walk_at "jv"; intro hor; walk_at "jv")
  | (apply jv_not; walk_at "jv")
  | (apply jv_one; walk_at "jv")
  | (apply jv_lenM; walk_at "bm"; walk_at "jd"; exact rfl; walk_at "ns")
  | (apply jv_len; walk_at "bm"; walk_at "jd"; exact rfl; walk_at "ns")
  | (apply jv_all; exact rfl; walk_at "bm"; walk_at "jd"; exact rfl; decide +kernel; walk_at "ns")
  | (apply jv_any; exact rfl; walk_at "bm"; walk_at "jd"; exact rfl; decide +kernel; walk_at "ns")
  | (apply jv_lenT; walk_at "bm"; walk_at "jd"; exact rfl; walk_at "ns")
  | walk_at "call"
  | (apply jv_isi; (first | exact boot_tint | exact boot_tbool | exact boot_tlist | exact boot_ttuple); walk_at "bm"; walk_at "bm"; walk_at "jd"; walk_at "kit"; exact rfl; exact rfl; exact boot_isi; walk_at "ns"; decide; decide)
  | (apply jv_lenSet; exact rfl; walk_at "bm"; walk_at "bm"; walk_at "jd"; walk_at "side"; exact rfl; exact rfl; walk_at "ns")
  | (apply jv_ifE; walk_at "jt"; intro hif; walk_at "jv"; intro hif; walk_at "jv")
  | (apply JD.toI; walk_at "jx")
  | (apply JD.toB; walk_at "jx")
  | (apply JD.toS; walk_at "jx"))
local macro_rules | `(tactic| walk_at "mulok") => `(tactic| first
  | exact Or.inr ⟨by decide, by decide⟩
  | exact Or.inl ⟨by decide, by decide⟩
  | exact Or.inl ⟨by omega, by omega⟩
  | exact Or.inr ⟨by omega, by omega⟩)
local macro_rules | `(tactic| walk_at "divok") => `(tactic| first
  | exact ⟨by decide, by decide⟩
  | exact ⟨by omega, by omega⟩)
local macro_rules | `(tactic| walk_at "jx") => `(tactic| first
  | (apply jd_ixN; walk_at "jd"; walk_at "jv"; exact fun _ _ => rfl; walk_at "side")
  | (apply jd_ixNs; walk_at "jd"; walk_at "jv"; exact fun _ _ => rfl; walk_at "side")
  | (apply jd_ixP; walk_at "jd"; walk_at "jv"; exact fun _ _ => rfl; walk_at "side")
  | (apply jd_ixPs; walk_at "jd"; walk_at "jv"; exact fun _ _ => rfl; walk_at "side")
  | (apply jd_ixI; walk_at "jd"; walk_at "jv"; exact fun _ _ => rfl; walk_at "side")
  | (apply jd_ixP1; walk_at "jd")
  | (apply jd_ixP2; walk_at "jd")
  | walk_at "calld")
local macro_rules | `(tactic| walk_at "jd") => `(tactic| first
  | (apply JV.toD; walk_at "var"; walk_at "dp")
  | walk_at "jx"
  | (apply jd_list; walk_at "jad"; exact Nat.le_of_ble_eq_true rfl)
  | (apply jd_tuple; walk_at "jad"; exact Nat.le_of_ble_eq_true rfl)
  | (apply jd_listOf; walk_at "bm"; walk_at "jd"; exact rfl; exact boot_tlist; walk_at "ns")
  | (apply JV.toD (v := V.int _); walk_at "jv"; exact Dx.int _)
  | (apply JV.toD (v := V.bl _); walk_at "jv"; exact Dx.bl _)
  | (apply JV.toD (v := V.str _); walk_at "jv"; exact Dx.str _)
  | (apply jd_ifE; walk_at "jt"; intro hif; walk_at "jd"; intro hif; walk_at "jd"))
local macro_rules | `(tactic| walk_at "jad") => `(tactic| first
  | exact jad_nil
  | (apply jad_cons; walk_at "jd"; walk_at "jad"; walk_at "ns"))
local macro_rules | `(tactic| walk_at "jo") => `(tactic| first
  | (apply jo_isN; walk_at "jv")
  | (apply jo_notN; walk_at "jv")
  | (apply jo_eqI; walk_at "jv"; walk_at "jv")
  | (apply jo_neI; walk_at "jv"; walk_at "jv")
  | (apply jo_lt; walk_at "jv"; walk_at "jv")
  | (apply jo_le; walk_at "jv"; walk_at "jv")
  | (apply jo_gt; walk_at "jv"; walk_at "jv")
  | (apply jo_ge; walk_at "jv"; walk_at "jv")
  | (apply jo_inN; walk_at "hu"; walk_at "jv"; walk_at "jd")
  | (apply jo_niN; walk_at "hu"; walk_at "jv"; walk_at "jd")
  | (apply jo_eqD; walk_at "hu"; walk_at "jd"; walk_at "jd"; walk_at "shp"; walk_at "shp")
  | (apply jo_neD; walk_at "hu"; walk_at "jd"; walk_at "jd"; walk_at "shp"; walk_at "shp"))
local macro_rules | `(tactic| walk_at "shp") => `(tactic| first
  | assumption
  | exact Shp.shaped eLL _
  | exact Shp.shaped ePs _
  | exact Shp.shaped eNs _
  | exact Shp.shaped ePss _
  | exact Shp.shaped eP _
  | exact Shp.shaped eN _
  | exact Shp.shaped eI _
  | decide)
local macro_rules | `(tactic| walk_at "jw") => `(tactic| first
  | (apply jw_one_and; walk_at "jt")
  | (apply jw_one_or; walk_at "jt")
  | (apply jw_and; walk_at "jt"; intro hand; walk_at "jw")
  | (apply jw_or; walk_at "jt"; intro hor; walk_at "jw"))
local macro_rules | `(tactic| walk_at "jt") => `(tactic| first
  | (apply jt_w; walk_at "jw")
  | (apply jt_cmp; walk_at "jo"; (first | exact rfl | exact nomark _))
  | (apply jt_not; walk_at "jt")
  | (apply jt_val; walk_at "jv"; exact fun _ => rfl)
  | (apply jt_chain op_le op_le; walk_at "jv"; walk_at "jv"; walk_at "jv"; with_unfolding_all rfl))
local macro_rules | `(tactic| walk_at "camp") => `(tactic| first | assumption | (refine' CampAt.mono ?_ (by assumption); walk_at "ex"))
local macro_rules | `(tactic| walk_at "calld") => `(tactic| first
  | (apply jd_told; assumption; walk_at "var"; walk_at "camp"; exact rfl)
  | walk_at "calld2")
local macro_rules | `(tactic| walk_at "calld2") => `(tactic| first
  | fail "calld2")
local macro_rules | `(tactic| walk_at "room") => `(tactic| first
  | assumption
  | exact Room.mono (by assumption) (by decide))
local macro_rules | `(tactic| walk_at "bm") => `(tactic| first
  | assumption
  | exact Tx.len (by assumption)
  | exact Tx.range (by assumption)
  | exact Tx.list (by assumption)
  | exact Tx.all (by assumption)
  | exact Tx.any (by assumption)
  | exact Tx.isi (by assumption)
  | exact Tx.int (by assumption)
  | exact Tx.bool (by assumption)
  | exact Tx.set (by assumption)
  | exact Tx.tup (by assumption))
local macro_rules | `(tactic| walk_at "call") => `(tactic| first
  | (apply jv_size; assumption; walk_at "var"; walk_at "camp"; exact rfl)
  | (apply jv_index; walk_at "hu"; walk_at "jd"; walk_at "jv"; walk_at "side"; walk_at "ns"; exact rfl; exact rfl; exact rfl)
  | (apply jv_would; assumption; assumption; walk_at "room"; walk_at "var"; walk_at "camp"; walk_at "jv"; walk_at "jv"; walk_at "side"; walk_at "side"; walk_at "ns"; walk_at "ns"; exact rfl; exact rfl)
  | walk_at "call2")
local macro_rules | `(tactic| walk_at "call2") => `(tactic| first
  | fail "call2")
theorem Dx.ref_of {G : Hp} {v : V} {ds : List PyData} (h : Dx G v (.list ds)) : ∃ a xs, v = .ref a ∧ G a = some (.lst xs) ∧ DxAll G xs ds := by
  cases h with
  | lst h1 h2 => exact ⟨_, _, rfl, h1, h2⟩
section
variable {X : Cx} {σ : L2.St} {e o a b c : Expr} {es : List Expr} {G : Hp} {pos : Pos} {x : Str}
/-- an item of a tuple of numbers -/
theorem jd_ixTN {ns : List Int} {n : Nat} (ha : JD X σ a G (.tuple (ns.map .int))) (hb : JV X σ b G (.int (n : Int))) (hs : PlainIx b) (h : n < ns.length) : JD X σ (.Subscript a b pos) G (.int (ns.getD n 0)) := by
  refine jd_ixT ha hb (atI_nat ?_) hs
  rw [List.getElem?_map, List.getElem?_eq_getElem h, List.getD_eq_getElem?_getD, List.getElem?_eq_getElem h]
  rfl
end
section
variable {P : Program} {w : World} {K : PySem.W.Frag} {mg : Str → Option Value} {base : Heap} {C : Addr}
/-! ### the law's own readers -/
abbrev spCell (K : PySem.W.Frag) : Sp := spOf (fun _ : List Int × Nat => True) (fun i => [kS K i.1, kI (i.2 : Int)]) (fun i => kI (i.1.getD i.2 0))
theorem ok_cell {f : Addr} {fd : FuncData} (F : Fun K "_law_cell_at" "_law_cell_at" s_L_cell_at f fd) (T : Tx K mg C) : FnOk P w K mg base CX0 1 f fd ["_law_script", "_law_k"] (spCell K) := by
  refine fun_ok F sc_L_cell_at (fun _ => rfl) ?_
  rintro cdv A outer s H vs Q E ⟨ns, n⟩ G hr _ al h k
  obtain ⟨_, _, rfl, ⟨sa, rfl, hs⟩, rfl⟩ := al.two
  try dsimp only at hs k ⊢
  refine b_if (p := decide ((n : Int) < (ns.length : Int))) h (jt_cmp (jo_lt (by walk_at "jv") (jv_lenS T.len (by walk_at "var") hs rfl (by walk_at "ns"))) rfl) (fun e H1 h1 => ?_) (fun e H1 h1 => b_nil ?_)
  · have hn : n < ns.length := by simpa using e
    exact b_ret h1 (v := .int (ns.getD n 0)) (jv_ixS (by walk_at "var") hs (by walk_at "var") hn (fun _ _ => rfl)) (fun H' h' => k _ _ _ _ h' rfl)
  · have hn : ¬ n < ns.length := by simpa using e
    refine b_ret h1 (v := .int 0) (by walk_at "jv") (fun H' h' => k _ _ _ _ h' ?_)
    show V.int 0 = V.int (ns.getD n 0)
    rw [List.getD_eq_getElem?_getD, List.getElem?_eq_none (by omega)]
    rfl
def primes8 : List Int := [1000003, 1000033, 1000037, 1000039, 1000081, 1000099, 1000117, 1000121]
theorem primes8_pos (n : Nat) (h : n < 8) : 0 < primes8.getD n 0 := by
  match n, h with
  | 0, _ => decide
  | 1, _ => decide
  | 2, _ => decide
  | 3, _ => decide
  | 4, _ => decide
  | 5, _ => decide
  | 6, _ => decide
  | 7, _ => decide
def drawI (cell : Int) (n many : Nat) : Int := (cell * 48271 + (n : Int) * 69621 + cell / 1000003 % 1000003 * 40692) % primes8.getD (n % 8) 0 % (many : Int)
def drawN (cell : Int) (n many : Nat) : Nat := (drawI cell n many).toNat
theorem drawN_eq (cell : Int) (n : Nat) {many : Nat} (h : 0 < many) : (drawN cell n many : Int) = drawI cell n many := by
  have := Int.emod_nonneg ((cell * 48271 + (n : Int) * 69621 + cell / 1000003 % 1000003 * 40692) % primes8.getD (n % 8) 0) (show (many : Int) ≠ 0 by omega)
  exact Int.toNat_of_nonneg this
theorem drawN_lt (cell : Int) (n : Nat) {many : Nat} (h : 0 < many) : drawN cell n many < many := by
  have h1 := drawN_eq cell n h
  have h2 : drawI cell n many < many := Int.emod_lt_of_pos _ (by omega)
  omega
abbrev spDraw : Sp := spOf (fun i : Int × Nat × Nat => 0 < i.2.2) (fun i => [kI i.1, kI (i.2.1 : Int), kI (i.2.2 : Int)]) (fun i => kI (drawN i.1 i.2.1 i.2.2 : Int))
theorem ok_draw {f : Addr} {fd : FuncData} (F : Fun K "_law_draw" "_law_draw" s_L_draw f fd) (T : Tx K mg C) : FnOk P w K mg base CX0 1 f fd ["_law_cell", "_law_k", "_law_many"] spDraw := by
  refine fun_ok F sc_L_draw (fun _ => rfl) ?_
  rintro cdv A outer s H vs Q E ⟨cell, n, many⟩ G hr hm al h k
  obtain ⟨_, _, _, rfl, rfl, rfl, rfl⟩ := al.three
  try dsimp only at hm k ⊢
  have nd := sc_L_draw.nd
  refine b_setD (n := 3) h (d := .tuple (primes8.map .int)) (JD.is (d1 := .tuple [.int 1000003, .int 1000033, .int 1000037, .int 1000039, .int 1000081, .int 1000099, .int 1000117, .int 1000121]) (by walk_at "jd") rfl) nd rfl (by walk_at "loc") rfl (Or.inl rfl) (fun G1 H1 pr h1 e1 hp => ?_)
  refine b_setV (n := 4) h1 (v := .int (cell * 48271 + (n : Int) * 69621 + cell / 1000003 % 1000003 * 40692)) (by walk_at "jv") nd rfl (by walk_at "loc") rfl (Or.inl rfl) (fun H2 h2 => ?_)
  have h8 : n % 8 < 8 := Nat.mod_lt _ (by decide)
  have hpos := primes8_pos _ h8
  refine b_ret h2 (v := .int ((cell * 48271 + (n : Int) * 69621 + cell / 1000003 % 1000003 * 40692) % primes8.getD (n % 8) 0 % (many : Int))) ?_ (fun H' h' => k _ _ _ _ h' ?_)
  · refine jv_mod (jv_mod (by walk_at "jv") (JD.toI (jd_ixTN (by walk_at "jd") (JV.is (by walk_at "jv") (by show V.int ((n : Int) % 8) = V.int ((n % 8 : Nat) : Int); congr 1) ) (fun _ _ => rfl) h8)) hpos) (by walk_at "jv") (by omega)
  · show V.int (drawI cell n many) = V.int (drawN cell n many : Int)
    rw [drawN_eq _ _ hm]
abbrev spLW : Sp := spOf (fun i : List (List Nat) × Nat × Nat => i.2.1 < i.1.length ∧ i.2.2 < i.1.length) (fun i => [kD (eLL i.1), kI i.2.1, kI i.2.2]) (fun i => kB (would i.1 i.2.1 i.2.2))
abbrev spLR : Sp := spOf (fun i : List (List Nat) × Nat × Nat × Nat => i.2.1 < i.1.length ∧ (¬ i.2.2.1 = i.2.2.2 → ¬ i.2.2.1 = i.2.1 → ¬ i.2.2.2 = i.2.1 → i.2.2.1 ∈ i.1.getD i.2.1 [] ∧ i.2.2.2 ∈ i.1.getD i.2.1 [])) (fun i => [kD (eLL i.1), kI i.2.1, kI i.2.2.1, kI i.2.2.2]) (fun i => kB (rather i.1 i.2.1 i.2.2.1 i.2.2.2))
end
section
variable {X : Cx} {σ : L2.St} {e o a b c : Expr} {es : List Expr} {G : Hp} {pos : Pos} {x : Str} {L : List (List Nat)}
theorem jv_Lwould {m n : Nat} {ap : Pos} (M : Df X.prog X.w X.K X.mg X.base "_law_would" 1 spLW) (hr : Room 1 X.A) (ho : JD X σ o G (eLL L)) (ha : JV X σ a G (.int (m : Int))) (hb : JV X σ b G (.int (n : Int))) (hm : m < L.length) (hn : n < L.length) (hg : Gl X "_law_would") (no : NoStar o) (na : NoStar a) (nb : NoStar b)
    (hpl : (backTo pos (starEach [a, b] X.env)).any (·.1) = false) : JV X σ (.Call (.Name "_law_would" ap) [o, a, b] [] pos) G (.bl (would L m n)) :=
  (jp_call M hr hg (L, m, n) ⟨hm, hn⟩ (jal_cons ho.toP mo_D (fun _ e => jal_cons (ha.mono e).toPV mo_V (fun _ e2 => jal_cons (hb.mono (e.trans e2)).toPV mo_V (fun _ _ => jal_nil) nb) na) no) no (by decide) hpl).toB
theorem jv_Lrather {m n q : Nat} {ap : Pos} (M : Df X.prog X.w X.K X.mg X.base "_law_rather" 1 spLR) (hr : Room 1 X.A) (ho : JD X σ o G (eLL L)) (ha : JV X σ a G (.int (m : Int))) (hb : JV X σ b G (.int (n : Int))) (hc : JV X σ c G (.int (q : Int))) (hm : m < L.length) (hin : ¬ n = q → ¬ n = m → ¬ q = m → n ∈ L.getD m [] ∧ q ∈ L.getD m []) (hg : Gl X "_law_rather") (no : NoStar o) (na : NoStar a) (nb : NoStar b) (nc : NoStar c)
    (hpl : (backTo pos (starEach [a, b, c] X.env)).any (·.1) = false) : JV X σ (.Call (.Name "_law_rather" ap) [o, a, b, c] [] pos) G (.bl (rather L m n q)) :=
  (jp_call M hr hg (L, m, n, q) ⟨hm, hin⟩ (jal_cons ho.toP mo_D (fun _ e => jal_cons (ha.mono e).toPV mo_V (fun _ e2 => jal_cons (hb.mono (e.trans e2)).toPV mo_V (fun _ e3 => jal_cons (hc.mono ((e.trans e2).trans e3)).toPV mo_V (fun _ _ => jal_nil) nc) nb) na) no) no (by decide) hpl).toB
theorem jv_draw {m n : Nat} {i : Int} {ap : Pos} (M : Df X.prog X.w X.K X.mg X.base "_law_draw" 1 spDraw) (hr : Room 1 X.A) (ha : JV X σ a G (.int i)) (hb : JV X σ b G (.int (m : Int))) (hc : JV X σ c G (.int (n : Int))) (hn : 0 < n) (hg : Gl X "_law_draw") (na : NoStar a) (nb : NoStar b) (nc : NoStar c)
    (hpl : (backTo pos (starEach [b, c] X.env)).any (·.1) = false) : JV X σ (.Call (.Name "_law_draw" ap) [a, b, c] [] pos) G (.int (drawN i m n : Int)) :=
  (jp_call M hr hg (i, m, n) hn (jal_cons ha.toPV mo_V (fun _ e => jal_cons (hb.mono e).toPV mo_V (fun _ e2 => jal_cons (hc.mono (e.trans e2)).toPV mo_V (fun _ _ => jal_nil) nc) nb) na) na (by decide) hpl).toI
theorem jv_cell {ns : List Int} {n : Nat} {sa : Addr} {ap : Pos} (M : Df X.prog X.w X.K X.mg X.base "_law_cell_at" 1 (spCell X.K)) (hr : Room 1 X.A) (ha : JV X σ a G (.ref sa)) (hs : Scr X.K G sa ns) (hb : JV X σ b G (.int (n : Int))) (hg : Gl X "_law_cell_at") (na : NoStar a) (nb : NoStar b)
    (hpl : (backTo pos (starEach [b] X.env)).any (·.1) = false) : JV X σ (.Call (.Name "_law_cell_at" ap) [a, b] [] pos) G (.int (ns.getD n 0)) :=
  (jp_call M hr hg (ns, n) trivial (jal_cons (ha.toP ⟨sa, rfl, hs⟩) mo_S (fun _ e => jal_cons (hb.mono e).toPV mo_V (fun _ _ => jal_nil) nb) na) na (by decide) hpl).toI
end
end TP

set_option Elab.async false
set_option linter.all false
set_option maxRecDepth 100000
set_option maxHeartbeats 2000000
namespace TP
open PySem PySem.Spec PyProof.Rows L2
open Evl (Ex)
-- tactics of this text: what an expression is worth (jv jd jt jo jw), growth (ex), what remains (side); call, calld: what the text adds
local macro_rules | `(tactic| walk_at "ex") => `(tactic| first | exact Ex.refl _ | assumption | (refine' Ex.trans ?_ (by assumption); walk_at "ex"))
local macro_rules | `(tactic| walk_at "vis") => `(tactic| first
  | exact Or.inl rfl
  | exact Or.inr (Or.inl rfl)
  | exact Or.inr (Or.inr rfl))
local macro_rules | `(tactic| walk_at "loc") => `(tactic| first
  | exact Or.inl rfl
  | exact Or.inr rfl)
local macro_rules | `(tactic| walk_at "side") => `(tactic| first
  | assumption
  | omega
  | decide
  | exact rfl
  | (simp_all; done)
  | (simp_all; omega))
local macro_rules | `(tactic| walk_at "hu") => `(tactic| first
  | exact room65 (by assumption)
  | exact Room.units (by assumption))
local macro_rules | `(tactic| walk_at "dp") => `(tactic| first | assumption | (refine' Dx.mono ?_ (by assumption); walk_at "ex"))
local macro_rules | `(tactic| walk_at "var") => `(tactic| first
  | (apply jv_var 0; exact rfl; exact rfl; walk_at "vis"; decide; decide)
  | (apply jv_var 1; exact rfl; exact rfl; walk_at "vis"; decide; decide)
  | (apply jv_var 2; exact rfl; exact rfl; walk_at "vis"; decide; decide)
  | (apply jv_var 3; exact rfl; exact rfl; walk_at "vis"; decide; decide)
  | (apply jv_var 4; exact rfl; exact rfl; walk_at "vis"; decide; decide)
  | (apply jv_var 5; exact rfl; exact rfl; walk_at "vis"; decide; decide)
  | (apply jv_var 6; exact rfl; exact rfl; walk_at "vis"; decide; decide)
  | (apply jv_var 7; exact rfl; exact rfl; walk_at "vis"; decide; decide)
  | (apply jv_var 8; exact rfl; exact rfl; walk_at "vis"; decide; decide)
  | (apply jv_var 9; exact rfl; exact rfl; walk_at "vis"; decide; decide)
  | (apply jv_var 10; exact rfl; exact rfl; walk_at "vis"; decide; decide)
  | (apply jv_var 11; exact rfl; exact rfl; walk_at "vis"; decide; decide)
  | (apply jv_var 12; exact rfl; exact rfl; walk_at "vis"; decide; decide)
  | (apply jv_var 13; exact rfl; exact rfl; walk_at "vis"; decide; decide)
  | (apply jv_var 14; exact rfl; exact rfl; walk_at "vis"; decide; decide)
  | (apply jv_var 15; exact rfl; exact rfl; walk_at "vis"; decide; decide)
  | (apply jv_var 16; exact rfl; exact rfl; walk_at "vis"; decide; decide)
  | (apply jv_var 17; exact rfl; exact rfl; walk_at "vis"; decide; decide)
  | (apply jv_var 18; exact rfl; exact rfl; walk_at "vis"; decide; decide)
  | (apply jv_var 19; exact rfl; exact rfl; walk_at "vis"; decide; decide))
local macro_rules | `(tactic| walk_at "bm") => `(tactic| first
  | assumption)
local macro_rules | `(tactic| walk_at "call") => `(tactic| first
  | fail "call")
local macro_rules | `(tactic| walk_at "calld") => `(tactic| first
  | fail "calld")
local macro_rules | `(tactic| walk_at "kit") => `(tactic| first
  | assumption
  | exact kit_ii
  | exact kit_ib
  | exact kit_bi
  | exact kit_bb
  | exact kit_li
  | exact kit_ll
  | exact kit_tt
  | exact kit_tl
  | exact kit_lt
  | exact kit_tb)
local macro_rules | `(tactic| walk_at "ns") => `(tactic| first
  | exact fun _ _ => rfl)
local macro_rules | `(tactic| walk_at "jv") => `(tactic| first
  | exact jv_int
  | exact jv_bl
  | exact jv_non
  | exact jv_str
  | walk_at "var"
  | (apply jv_add; walk_at "jv"; walk_at "jv")
  | (apply jv_sub; walk_at "jv"; walk_at "jv")
  | (apply jv_neg; walk_at "jv")
  | (apply jv_mul; walk_at "jv"; walk_at "jv"; walk_at "mulok")
  | (apply jv_fdiv; walk_at "jv"; walk_at "jv"; walk_at "divok")
  | (apply jv_mod; walk_at "jv"; walk_at "jv"; walk_at "side")
  | (apply jv_band; walk_at "jv"; walk_at "jv")
  | (apply jv_cmp; walk_at "jo"; (first | exact rfl | exact nomark _))
  | (apply jv_chain op_le op_le; walk_at "jv"; walk_at "jv"; walk_at "jv"; with_unfolding_all rfl)
  | (apply jv_chain op_le op_lt; walk_at "jv"; walk_at "jv"; walk_at "jv"; with_unfolding_all rfl)
  | (apply jv_and; walk_at "jv"; intro hand; walk_at "jv")
  | (apply jv_or; walk_at "jv"; intro hor; walk_at "jv")
  | (apply jv_not; walk_at "jv")
  | (apply jv_one; walk_at "jv")
  | (apply jv_lenM; walk_at "bm"; walk_at "jd"; exact rfl; walk_at "ns")
  | (apply jv_len; walk_at "bm"; walk_at "jd"; exact rfl; walk_at "ns")
  | (apply jv_all; exact rfl; walk_at "bm"; walk_at "jd"; exact rfl; decide +kernel; walk_at "ns")
  | (apply jv_any; exact rfl; walk_at "bm"; walk_at "jd"; exact rfl; decide +kernel; walk_at "ns")
  | (apply jv_lenT; walk_at "bm"; walk_at "jd"; exact rfl; walk_at "ns")
  | walk_at "call"
  | (apply jv_isi; (first | exact boot_tint | exact boot_tbool | exact boot_tlist | exact boot_ttuple); walk_at "bm"; walk_at "bm"; walk_at "jd"; walk_at "kit"; exact rfl; exact rfl; exact boot_isi; walk_at "ns"; decide; decide)
  | (apply jv_lenSet; exact rfl; walk_at "bm"; walk_at "bm"; walk_at "jd"; walk_at "side"; exact rfl; exact rfl; walk_at "ns")
  | (apply jv_ifE; walk_at "jt"; intro hif; walk_at "jv"; intro hif; walk_at "jv")
  | (apply JD.toI; walk_at "jx")
  | (apply JD.toB; walk_at "jx")
  | (apply JD.toS; walk_at "jx"))
local macro_rules | `(tactic| walk_at "mulok") => `(tactic| first
  | exact Or.inr ⟨by decide, by decide⟩
  | exact Or.inl ⟨by decide, by decide⟩
  | exact Or.inl ⟨by omega, by omega⟩
  | exact Or.inr ⟨by omega, by omega⟩)
local macro_rules | `(tactic| walk_at "divok") => `(tactic| first
  | exact ⟨by decide, by decide⟩
  | exact ⟨by omega, by omega⟩)
local macro_rules | `(tactic| walk_at "jx") => `(tactic| first
  | (apply jd_ixN; walk_at "jd"; walk_at "jv"; exact fun _ _ => rfl; walk_at "side")
  | (apply jd_ixNs; walk_at "jd"; walk_at "jv"; exact fun _ _ => rfl; walk_at "side")
  | (apply jd_ixP; walk_at "jd"; walk_at "jv"; exact fun _ _ => rfl; walk_at "side")
  | (apply jd_ixPs; walk_at "jd"; walk_at "jv"; exact fun _ _ => rfl; walk_at "side")
  | (apply jd_ixI; walk_at "jd"; walk_at "jv"; exact fun _ _ => rfl; walk_at "side")
  | (apply jd_ixP1; walk_at "jd")
  | (apply jd_ixP2; walk_at "jd")
  | walk_at "calld")
local macro_rules | `(tactic| walk_at "jd") => `(tactic| first
  | (apply JV.toD; walk_at "var"; walk_at "dp")
  | walk_at "jx"
  | (apply jd_list; walk_at "jad"; exact Nat.le_of_ble_eq_true rfl)
  | (apply jd_tuple; walk_at "jad"; exact Nat.le_of_ble_eq_true rfl)
  | (apply jd_listOf; walk_at "bm"; walk_at "jd"; exact rfl; exact boot_tlist; walk_at "ns")
  | (apply JV.toD (v := V.int _); walk_at "jv"; exact Dx.int _)
  | (apply JV.toD (v := V.bl _); walk_at "jv"; exact Dx.bl _)
  | (apply JV.toD (v := V.str _); walk_at "jv"; exact Dx.str _)
  | (apply jd_ifE; walk_at "jt"; intro hif; walk_at "jd"; intro hif; walk_at "jd"))
local macro_rules | `(tactic| walk_at "jad") => `(tactic| first
  | exact jad_nil
  | (apply jad_cons; walk_at "jd"; walk_at "jad"; walk_at "ns"))
local macro_rules | `(tactic| walk_at "jo") => `(tactic| first
  | (apply jo_isN; walk_at "jv")
  | (apply jo_notN; walk_at "jv")
  | (apply jo_eqI; walk_at "jv"; walk_at "jv")
  | (apply jo_neI; walk_at "jv"; walk_at "jv")
  | (apply jo_lt; walk_at "jv"; walk_at "jv")
  | (apply jo_le; walk_at "jv"; walk_at "jv")
  | (apply jo_gt; walk_at "jv"; walk_at "jv")
  | (apply jo_ge; walk_at "jv"; walk_at "jv")
  | (apply jo_inN; walk_at "hu"; walk_at "jv"; walk_at "jd")
  | (apply jo_niN; walk_at "hu"; walk_at "jv"; walk_at "jd")
  | (apply jo_eqD; walk_at "hu"; walk_at "jd"; walk_at "jd"; walk_at "shp"; walk_at "shp")
  | (apply jo_neD; walk_at "hu"; walk_at "jd"; walk_at "jd"; walk_at "shp"; walk_at "shp"))
local macro_rules | `(tactic| walk_at "shp") => `(tactic| first
  | assumption
  | exact Shp.shaped eLL _
  | exact Shp.shaped ePs _
  | exact Shp.shaped eNs _
  | exact Shp.shaped ePss _
  | exact Shp.shaped eP _
  | exact Shp.shaped eN _
  | exact Shp.shaped eI _
  | decide)
local macro_rules | `(tactic| walk_at "jw") => `(tactic| first
  | (apply jw_one_and; walk_at "jt")
  | (apply jw_one_or; walk_at "jt")
  | (apply jw_and; walk_at "jt"; intro hand; walk_at "jw")
  | (apply jw_or; walk_at "jt"; intro hor; walk_at "jw"))
local macro_rules | `(tactic| walk_at "jt") => `(tactic| first
  | (apply jt_w; walk_at "jw")
  | (apply jt_cmp; walk_at "jo"; (first | exact rfl | exact nomark _))
  | (apply jt_not; walk_at "jt")
  | (apply jt_val; walk_at "jv"; exact fun _ => rfl)
  | (apply jt_chain op_le op_le; walk_at "jv"; walk_at "jv"; walk_at "jv"; with_unfolding_all rfl))
local macro_rules | `(tactic| walk_at "camp") => `(tactic| first | assumption | (refine' CampAt.mono ?_ (by assumption); walk_at "ex"))
local macro_rules | `(tactic| walk_at "calld") => `(tactic| first
  | (apply jd_told; assumption; walk_at "var"; walk_at "camp"; exact rfl)
  | walk_at "calld2")
local macro_rules | `(tactic| walk_at "calld2") => `(tactic| first
  | fail "calld2")
local macro_rules | `(tactic| walk_at "room") => `(tactic| first
  | assumption
  | exact Room.mono (by assumption) (by decide))
local macro_rules | `(tactic| walk_at "bm") => `(tactic| first
  | assumption
  | exact Tx.len (by assumption)
  | exact Tx.range (by assumption)
  | exact Tx.list (by assumption)
  | exact Tx.all (by assumption)
  | exact Tx.any (by assumption)
  | exact Tx.isi (by assumption)
  | exact Tx.int (by assumption)
  | exact Tx.bool (by assumption)
  | exact Tx.set (by assumption)
  | exact Tx.tup (by assumption))
local macro_rules | `(tactic| walk_at "call") => `(tactic| first
  | (apply jv_size; assumption; walk_at "var"; walk_at "camp"; exact rfl)
  | (apply jv_index; walk_at "hu"; walk_at "jd"; walk_at "jv"; walk_at "side"; walk_at "ns"; exact rfl; exact rfl; exact rfl)
  | (apply jv_would; assumption; assumption; walk_at "room"; walk_at "var"; walk_at "camp"; walk_at "jv"; walk_at "jv"; walk_at "side"; walk_at "side"; walk_at "ns"; walk_at "ns"; exact rfl; exact rfl)
  | walk_at "call2")
local macro_rules | `(tactic| walk_at "call2") => `(tactic| first
  | fail "call2")
local macro_rules | `(tactic| walk_at "call2") => `(tactic| first
  | (apply jv_glob; exact rfl; assumption; exact ⟨_, rfl⟩; decide)
  | (apply jv_within; assumption; walk_at "room"; walk_at "jd"; walk_at "jv"; walk_at "jv"; exact rfl; walk_at "ns"; walk_at "ns"; walk_at "ns"; exact rfl))
/-! ### what data say -/
def natOf : PyData → Nat
  | .int i => i.toNat
  | _ => 0
def isLst : PyData → Bool
  | .list _ => true
  | _ => false
def isTup : PyData → Bool
  | .tuple _ => true
  | _ => false
def allIn (n : Nat) (ds : List PyData) : Bool := ds.all fun d => withinD d 0 ((n : Int) - 1)
theorem allIn_eN {n : Nat} : ∀ {ds : List PyData}, allIn n ds = true → ds = (ds.map natOf).map eN ∧ ∀ x ∈ ds.map natOf, x < n
  | [], _ => ⟨rfl, fun _ h => by simp at h⟩
  | d :: ds, h => by
    rw [allIn, List.all_cons, Bool.and_eq_true] at h
    obtain ⟨h1, h2⟩ := h
    obtain ⟨e, m⟩ := allIn_eN (n := n) (ds := ds) h2
    cases d with
    | int i =>
      simp only [withinD, Bool.and_eq_true, decide_eq_true_eq] at h1
      refine ⟨?_, fun x hx => ?_⟩
      · rw [List.map_cons, List.map_cons, ← e]
        show _ = PyData.int ((i.toNat : Nat) : Int) :: ds
        rw [Int.toNat_of_nonneg h1.1]
      · rw [List.map_cons] at hx
        rcases List.mem_cons.mp hx with rfl | hx
        · show i.toNat < n
          omega
        · exact m x hx
    | _ => simp [withinD] at h1
/-- a list that no camp has -/
def badRow (n c : Nat) (d : PyData) : Bool := match d with
  | .list ds => !allIn n ds || !decide (ds.map natOf).Nodup || decide (c ∈ ds.map natOf)
  | _ => true
/-- what makes no camp -/
def badCamp (d : PyData) : Bool := match d with
  | .list rows => !(decide (1 ≤ rows.length) && decide (rows.length ≤ 6)) || (List.range rows.length).any fun c => badRow rows.length c (rows.getD c .none)
  | _ => true
def fewRow (d : PyData) : Prop := match d with
  | .list ds => ds.length ≤ 1000
  | _ => True
def fewCamp (d : PyData) : Prop := match d with
  | .list rows => ∀ r ∈ rows, fewRow r
  | _ => True
theorem kit_list : ∀ d : PyData, (∀ b, d ≠ .dict b) → kitB (dty d) "list" = some (isLst d)
  | .int _, _ => by show kitB "int" "list" = some false; decide +kernel
  | .bool _, _ => by show kitB "bool" "list" = some false; decide +kernel
  | .none, _ => by show kitB "NoneType" "list" = some false; decide +kernel
  | .str _, _ => by show kitB "str" "list" = some false; decide +kernel
  | .list _, _ => by show kitB "list" "list" = some true; decide +kernel
  | .tuple _, _ => by show kitB "tuple" "list" = some false; decide +kernel
  | .dict b, h => absurd rfl (h b)
theorem kit_tuple : ∀ d : PyData, (∀ b, d ≠ .dict b) → kitB (dty d) "tuple" = some (isTup d)
  | .int _, _ => by show kitB "int" "tuple" = some false; decide +kernel
  | .bool _, _ => by show kitB "bool" "tuple" = some false; decide +kernel
  | .none, _ => by show kitB "NoneType" "tuple" = some false; decide +kernel
  | .str _, _ => by show kitB "str" "tuple" = some false; decide +kernel
  | .list _, _ => by show kitB "list" "tuple" = some false; decide +kernel
  | .tuple _, _ => by show kitB "tuple" "tuple" = some true; decide +kernel
  | .dict b, h => absurd rfl (h b)
theorem Dx.nodict {G : Hp} {v : V} {d : PyData} (h : Dx G v d) : ∀ b, d ≠ .dict b := fun b e => by subst e; cases h
section
variable {P : Program} {w : World} {K : PySem.W.Frag} {mg : Str → Option Value} {base : Heap} {C cB cN : Addr}
abbrev spCampR (C cB : Addr) : Sp := spRI C (fun d : PyData => badCamp d = true ∧ fewCamp d) (fun d => [kD d]) cB false
theorem ok_campR {f : Addr} {fd : FuncData} (F : Fun K "__init__" "Camp.__init__" s_Camp___init__ f fd) (T : Tx K mg C) (O : Own K mg "BadCamp" cB) (W : Df P w K mg base "within" 1 spWithin) : FnOk P w K mg base (L2.CX P w) 2 f fd ["self", "lists"] (spCampR C cB) := by
  refine fun_okRI F sc_Camp___init__ (fun _ => rfl) ?_
  rintro cdv A outer s H us Q E d G H0 x dx hr ⟨hbad, hfew⟩ al h k
  obtain ⟨a, rfl, hL⟩ := al.one
  try dsimp only at hL k ⊢
  obtain ⟨tm, hmost⟩ := T.most
  have nd := sc_Camp___init__.nd
  have kE : ∀ {G1 H1 os}, Hs G H0 G1 H1 os → E (.ref cB) none H1 := fun h1 => k _ none h1.st.h rfl
  have hk := kit_list d hL.nodict
  by_cases hd : isLst d = false
  · rw [hd] at hk
    exact b_if (p := true) h (JT.is (p := (!false || false)) (jt_w (jw_or (jt_not (jt_val (by walk_at "jv") (fun _ => rfl))) (fun e => by cases e))) rfl) (fun _ H1 h1 => b_raise rfl (L2.takes_of rfl rfl rfl rfl) O rfl (by decide) (kE h1)) (fun e => by cases e)
  obtain ⟨rows, rfl⟩ : ∃ rows, d = .list rows := by
    cases d with
    | list rows => exact ⟨rows, rfl⟩
    | _ => exact absurd rfl hd
  refine' b_if (p := !(decide (1 ≤ rows.length) && decide (rows.length ≤ 6))) h (JT.is (p := (!true || !(decide ((1 : Int) ≤ (rows.length : Int)) && decide ((rows.length : Int) ≤ 6)))) ?tt ?eq0) (fun _ H1 h1 => b_raise rfl (L2.takes_of rfl rfl rfl rfl) O rfl (by decide) (kE h1)) (fun e H1 h1 => ?_)
  case tt => walk_at "jt"
  case eq0 =>
    have z1 : decide ((1 : Int) ≤ (rows.length : Int)) = decide (1 ≤ rows.length) := decide_eq_decide.mpr (by omega)
    have z2 : decide ((rows.length : Int) ≤ 6) = decide (rows.length ≤ 6) := decide_eq_decide.mpr (by omega)
    rw [z1, z2]; rfl
  have h16 : 1 ≤ rows.length ∧ rows.length ≤ 6 := by simpa using e
  refine b_nil ?_
  refine b_for h1 (f := eN) (xs := List.range rows.length) (ji_range1 T.range (by walk_at "jv") (by omega) rfl (by walk_at "ns")) (L2.passes_of rfl) rfl (fun _ => rfl) (fun G1 H2 h2 e2 => ?_)
  refine ⟨fun pre σ' G' H' => ∃ o1 o2, σ' = [some (.ref x), some a, o1, o2, none] ∧ Hs G H0 G' H' [(x, .ins C dx []), (dx, .own x)] ∧ Ex G1 G' ∧ ∀ c ∈ pre, badRow rows.length c (rows.getD c .none) = false, ?_, ?_, ?_, ?_⟩
  · exact ⟨none, none, rfl, h2, Ex.refl _, fun _ z => by simp at z⟩
  · rintro pre σ' G' H' ⟨o1, o2, rfl, hs, e, _⟩
    exact ⟨e, hs.ex⟩
  · rintro pre c post v σ' G' H' hxs ⟨o1, o2, rfl, hs, e, hpre⟩ pv
    cases pv
    have hc : c < rows.length := by
      have : c ∈ List.range rows.length := by rw [hxs]; simp
      simpa using this
    have hgc : rows[c]? = some (rows.getD c .none) := by rw [List.getD_eq_getElem?_getD, List.getElem?_eq_getElem hc]; rfl
    have hfr : fewRow (rows.getD c .none) := hfew _ (List.mem_of_getElem? hgc)
    generalize hrow : rows.getD c .none = row at *
    refine wg_name (n := 2) nd rfl (by walk_at "loc") (Or.inl rfl) ?_
    refine b_setD (n := 3) (d := row) hs (jd_ix (ds := rows) (i := (c : Int)) (by walk_at "jd") (by walk_at "jv") (atI_nat hgc) (fun _ _ => rfl)) nd rfl (by walk_at "loc") rfl (Or.inl rfl) (fun G2 H3 v h3 e3 hv3 => ?_)
    have hkr := kit_list row hv3.nodict
    by_cases hd2 : isLst row = false
    · rw [hd2] at hkr
      exact b_if (p := true) h3 (JT.is (p := (!false || false)) (jt_w (jw_or (jt_not (jt_val (by walk_at "jv") (fun _ => rfl))) (fun e => by cases e))) rfl) (fun _ H1 h1 => b_raise rfl (L2.takes_of rfl rfl rfl rfl) O rfl (by decide) (kE h1)) (fun e => by cases e)
    obtain ⟨ds, rfl⟩ : ∃ ds, row = .list ds := by
      cases row with
      | list ds => exact ⟨ds, rfl⟩
      | _ => exact absurd rfl hd2
    have hlen : ds.length ≤ 1000 := hfr
    refine' b_if (p := !allIn rows.length ds) h3 (JT.is (p := (!true || !((ds.map fun y => withinD y 0 ((rows.length : Int) - 1)).all id))) (jt_w (jw_or ?t1 (fun _ => jw_one_or (jt_not (jt_val (jv_all rfl T.all (bs := ds.map fun y => withinD y 0 ((rows.length : Int) - 1)) (JD.is (JN.toD (jn_lc (n := 4) (f0 := fun d => d) (xs := ds) (f := fun y => .bool (withinD y 0 ((rows.length : Int) - 1))) (JI.is (ji_list (by walk_at "jd")) (List.map_id' ds).symm) (by omega) rfl nd rfl (fun _ _ _ _ _ => ⟨by walk_at "loc", by walk_at "loc"⟩) (by first | kernel_rfl | rfl) (fun _ => rfl) ?body)) ?eqm) rfl (by decide +kernel) (by walk_at "ns")) (fun _ => rfl)))))) ?eq) (fun _ H1 h1 => b_raise rfl (L2.takes_of rfl rfl rfl rfl) O rfl (by decide) (kE h1)) (fun eA H1 h1 => b_nil ?_)
    case t1 => walk_at "jt"
    case body =>
      intro s h C cl fp y hy G2 u e3 pu
      try dsimp only at pu
      walk_at "jd"
    case eqm => rw [List.map_map]; rfl
    case eq => rw [List.all_map]; rfl
    have hin : allIn rows.length ds = true := by simpa using eA
    obtain ⟨eds, hm⟩ := allIn_eN hin
    generalize hns : ds.map natOf = ns at *
    have hl2 : ns.length ≤ 1000 := by rw [← hns, List.length_map]; exact hlen
    have hv4 : Dx G2 v (eNs ns) := by rw [eds] at hv3; exact hv3
    refine' b_if (p := !decide ns.Nodup || decide (c ∈ ns)) h1 (JT.is (jt_w (jw_or (jt_cmp (jo_lt (jv_lenSet (ns := ns.map fun n : Nat => (n : Int)) rfl T.len T.set (JD.is (d1 := eNs ns) (by walk_at "jd") ?eqs) ?len rfl rfl (by walk_at "ns")) (show JV _ _ _ _ (.int (ns.length : Int)) from by walk_at "jv")) rfl) (fun _ => jw_one_or (by walk_at "jt")))) ?eq) (fun _ H1 h1 => b_raise rfl (L2.takes_of rfl rfl rfl rfl) O rfl (by decide) (kE h1)) (fun eB H1 h1 => b_nil ?_)
    case eqs => rw [List.map_map]; rfl
    case len => rw [List.length_map]; omega
    case eq =>
      have q1 := @dedupI_iff (ns.map fun n : Nat => (n : Int))
      have q2 := dedupI_le (ns.map fun n : Nat => (n : Int))
      have q3 : (ns.map fun n : Nat => (n : Int)).Nodup ↔ ns.Nodup := ⟨fun z => (List.pairwise_map.mp z).imp fun h e => h (by rw [e]), fun z => z.map (fun n : Nat => (n : Int)) fun a b hab h => hab (by have h2 : (a : Int) = (b : Int) := h; omega)⟩
      rw [List.length_map] at q1 q2
      congr 1
      rw [← decide_not]
      refine decide_eq_decide.mpr ?_
      rw [← q3, ← q1]
      omega
    refine b_nil ⟨G2, _, _, rfl, h1, e.trans e3, fun c' hc' => ?_⟩
    rcases List.mem_append.mp hc' with hc' | hc'
    · exact hpre c' hc'
    · rw [List.mem_singleton] at hc'
      subst hc'
      rw [hrow]
      show (!allIn rows.length ds || !decide (ds.map natOf).Nodup || decide (c' ∈ ds.map natOf)) = false
      rw [hin, hns, Bool.not_true, Bool.false_or]
      exact eB
  · rintro σ' G' H' ⟨o1, o2, rfl, hs, e, hall⟩
    exfalso
    have hb2 : (!(decide (1 ≤ rows.length) && decide (rows.length ≤ 6)) || (List.range rows.length).any fun c => badRow rows.length c (rows.getD c .none)) = true := hbad
    rw [show decide (1 ≤ rows.length) = true from decide_eq_true h16.1, show decide (rows.length ≤ 6) = true from decide_eq_true h16.2, Bool.and_self, Bool.not_true, Bool.false_or, List.any_eq_true] at hb2
    obtain ⟨c, hc, hcb⟩ := hb2
    rw [hall c hc] at hcb
    cases hcb
abbrev spCamperR (K : PySem.W.Frag) (C cN : Addr) : Sp := spR (fun i : List (List Nat) × PyData => withinD i.2 0 ((i.1.length : Int) - 1) = false) (fun i => [kCamp K C i.1, kD i.2]) cN false
theorem ok_camperR {f : Addr} {fd : FuncData} (F : Fun K "camper" "Camp.camper" s_Camp_camper f fd) (T : Tx K mg C) (O : Own K mg "NoCamper" cN) (W : Df P w K mg base "within" 1 spWithin) : FnOk P w K mg base (L2.CX P w) 2 f fd ["self", "at"] (spCamperR K C cN) := by
  refine fun_okR F sc_Camp_camper (fun _ => rfl) ?_
  rintro cdv A outer s H vs Q E ⟨L, d⟩ G hr hbad al h k
  obtain ⟨_, v, rfl, ⟨p, rfl, hc⟩, hd⟩ := al.two
  try dsimp only at hbad hc hd k ⊢
  refine b_if (p := true) h (JT.is (p := !(withinD d 0 ((L.length : Int) - 1))) (by walk_at "jt") (by rw [hbad]; rfl)) (fun _ H1 h1 => b_raise rfl (L2.takes_of rfl rfl rfl rfl) O rfl (by decide) (k _ none h1.st.h rfl)) (fun e => by cases e)
abbrev spCamper (K : PySem.W.Frag) (C : Addr) : Sp := spOf (fun i : List (List Nat) × Nat => i.2 < i.1.length) (fun i => [kCamp K C i.1, kI i.2]) (fun i => kI i.2)
theorem ok_camper {f : Addr} {fd : FuncData} (F : Fun K "camper" "Camp.camper" s_Camp_camper f fd) (T : Tx K mg C) (W : Df P w K mg base "within" 1 spWithin) : FnOk P w K mg base CX0 2 f fd ["self", "at"] (spCamper K C) := by
  refine fun_ok F sc_Camp_camper (fun _ => rfl) ?_
  rintro cdv A outer s H vs Q E ⟨L, n⟩ G hr hn al h k
  obtain ⟨_, _, rfl, ⟨p, rfl, hc⟩, rfl⟩ := al.two
  try dsimp only at hn hc k ⊢
  have hw : withinD (.int (n : Int)) 0 ((L.length : Int) - 1) = true := by simp [withinD]; omega
  refine b_if (p := false) h (JT.is (p := !(withinD (.int (n : Int)) 0 ((L.length : Int) - 1))) (by walk_at "jt") (by rw [hw]; rfl)) (fun e => by cases e) (fun _ H1 h1 => b_nil ?_)
  exact b_ret h1 (v := .int (n : Int)) (by walk_at "jv") (fun H' h' => k _ _ _ _ h' rfl)
end
end TP

set_option Elab.async false
set_option linter.all false
set_option maxRecDepth 100000
set_option maxHeartbeats 2000000
namespace TP
open PySem PySem.Spec PyProof.Rows L2
open Evl (Ex)
-- tactics of this text: what an expression is worth (jv jd jt jo jw), growth (ex), what remains (side); call, calld: what the text adds
local macro_rules | `(tactic| walk_at "ex") => `(tactic| first | exact Ex.refl _ | assumption | (refine' Ex.trans ?_ (by assumption); walk_at "ex"))
local macro_rules | `(tactic| walk_at "vis") => `(tactic| first
  | exact Or.inl rfl
  | exact Or.inr (Or.inl rfl)
  | exact Or.inr (Or.inr rfl))
local macro_rules | `(tactic| walk_at "loc") => `(tactic| first
  | exact Or.inl rfl
  | exact Or.inr rfl)
local macro_rules | `(tactic| walk_at "side") => `(tactic| first
  | assumption
  | omega
  | decide
  | exact rfl
  | (simp_all; done)
  | (simp_all; omega))
local macro_rules | `(tactic| walk_at "hu") => `(tactic| first
  | exact room65 (by assumption)
  | exact Room.units (by assumption))
local macro_rules | `(tactic| walk_at "dp") => `(tactic| first | assumption | (refine' Dx.mono ?_ (by assumption); walk_at "ex"))
local macro_rules | `(tactic| walk_at "var") => `(tactic| first
  | (apply jv_var 0; exact rfl; exact rfl; walk_at "vis"; decide; decide)
  | (apply jv_var 1; exact rfl; exact rfl; walk_at "vis"; decide; decide)
  | (apply jv_var 2; exact rfl; exact rfl; walk_at "vis"; decide; decide)
  | (apply jv_var 3; exact rfl; exact rfl; walk_at "vis"; decide; decide)
  | (apply jv_var 4; exact rfl; exact rfl; walk_at "vis"; decide; decide)
  | (apply jv_var 5; exact rfl; exact rfl; walk_at "vis"; decide; decide)
  | (apply jv_var 6; exact rfl; exact rfl; walk_at "vis"; decide; decide)
  | (apply jv_var 7; exact rfl; exact rfl; walk_at "vis"; decide; decide)
  | (apply jv_var 8; exact rfl; exact rfl; walk_at "vis"; decide; decide)
  | (apply jv_var 9; exact rfl; exact rfl; walk_at "vis"; decide; decide)
  | (apply jv_var 10; exact rfl; exact rfl; walk_at "vis"; decide; decide)
  | (apply jv_var 11; exact rfl; exact rfl; walk_at "vis"; decide; decide)
  | (apply jv_var 12; exact rfl; exact rfl; walk_at "vis"; decide; decide)
  | (apply jv_var 13; exact rfl; exact rfl; walk_at "vis"; decide; decide)
  | (apply jv_var 14; exact rfl; exact rfl; walk_at "vis"; decide; decide)
  | (apply jv_var 15; exact rfl; exact rfl; walk_at "vis"; decide; decide)
  | (apply jv_var 16; exact rfl; exact rfl; walk_at "vis"; decide; decide)
  | (apply jv_var 17; exact rfl; exact rfl; walk_at "vis"; decide; decide)
  | (apply jv_var 18; exact rfl; exact rfl; walk_at "vis"; decide; decide)
  | (apply jv_var 19; exact rfl; exact rfl; walk_at "vis"; decide; decide))
local macro_rules | `(tactic| walk_at "bm") => `(tactic| first
  | assumption)
local macro_rules | `(tactic| walk_at "call") => `(tactic| first
  | fail "call")
local macro_rules | `(tactic| walk_at "calld") => `(tactic| first
  | fail "calld")
local macro_rules | `(tactic| walk_at "kit") => `(tactic| first
  | assumption
  | exact kit_ii
  | exact kit_ib
  | exact kit_bi
  | exact kit_bb
  | exact kit_li
  | exact kit_ll
  | exact kit_tt
  | exact kit_tl
  | exact kit_lt
  | exact kit_tb)
local macro_rules | `(tactic| walk_at "ns") => `(tactic| first
  | exact fun _ _ => rfl)
local macro_rules | `(tactic| walk_at "jv") => `(tactic| first
  | exact jv_int
  | exact jv_bl
  | exact jv_non
  | exact jv_str
  | walk_at "var"
  | (apply jv_add; walk_at "jv"; walk_at "jv")
  | (apply jv_sub; walk_at "jv"; walk_at "jv")
  | (apply jv_neg; walk_at "jv")
  | (apply jv_mul; walk_at "jv"; walk_at "jv"; walk_at "mulok")
  | (apply jv_fdiv; walk_at "jv"; walk_at "jv"; walk_at "divok")
  | (apply jv_mod; walk_at "jv"; walk_at "jv"; walk_at "side")
  | (apply jv_band; walk_at "jv"; walk_at "jv")
  | (apply jv_cmp; walk_at "jo"; (first | exact rfl | exact nomark _))
  | (apply jv_chain op_le op_le; walk_at "jv"; walk_at "jv"; walk_at "jv"; with_unfolding_all rfl)
  | (apply jv_chain op_le op_lt; walk_at "jv"; walk_at "jv"; walk_at "jv"; with_unfolding_all rfl)
  | (apply jv_and; walk_at "jv"; intro hand; walk_at "jv")
  | (apply jv_or; walk_at "jv"; intro hor; walk_at "jv")
  | (apply jv_not; walk_at "jv")
  | (apply jv_one; walk_at "jv")
  | (apply jv_lenM; walk_at "bm"; walk_at "jd"; exact rfl; walk_at "ns")
  | (apply jv_len; walk_at "bm"; walk_at "jd"; exact rfl; walk_at "ns")
  | (apply jv_all; exact rfl; walk_at "bm"; walk_at "jd"; exact rfl; decide +kernel; walk_at "ns")
  | (apply jv_any; exact rfl; walk_at "bm"; walk_at "jd"; exact rfl; decide +kernel; walk_at "ns")
  | (apply jv_lenT; walk_at "bm"; walk_at "jd"; exact rfl; walk_at "ns")
  | walk_at "call"
  | (apply jv_isi; (first | exact boot_tint | exact boot_tbool | exact boot_tlist | exact boot_ttuple); walk_at "bm"; walk_at "bm"; walk_at "jd"; walk_at "kit"; exact rfl; exact rfl; exact boot_isi; walk_at "ns"; decide; decide)
  | (apply jv_lenSet; exact rfl; walk_at "bm"; walk_at "bm"; walk_at "jd"; walk_at "side"; exact rfl; exact rfl; walk_at "ns")
  | (apply jv_ifE; walk_at "jt"; intro hif; walk_at "jv"; intro hif; walk_at "jv")
  | (apply JD.toI; walk_at "jx")
  | (apply JD.toB; walk_at "jx")
  | (apply JD.toS; walk_at "jx"))
local macro_rules | `(tactic| walk_at "mulok") => `(tactic| first
  | exact Or.inr ⟨by decide, by decide⟩
  | exact Or.inl ⟨by decide, by decide⟩
  | exact Or.inl ⟨by omega, by omega⟩
  | exact Or.inr ⟨by omega, by omega⟩)
local macro_rules | `(tactic| walk_at "divok") => `(tactic| first
  | exact ⟨by decide, by decide⟩
  | exact ⟨by omega, by omega⟩)
local macro_rules | `(tactic| walk_at "jx") => `(tactic| first
  | (apply jd_ixN; walk_at "jd"; walk_at "jv"; exact fun _ _ => rfl; walk_at "side")
  | (apply jd_ixNs; walk_at "jd"; walk_at "jv"; exact fun _ _ => rfl; walk_at "side")
  | (apply jd_ixP; walk_at "jd"; walk_at "jv"; exact fun _ _ => rfl; walk_at "side")
  | (apply jd_ixPs; walk_at "jd"; walk_at "jv"; exact fun _ _ => rfl; walk_at "side")
  | (apply jd_ixI; walk_at "jd"; walk_at "jv"; exact fun _ _ => rfl; walk_at "side")
  | (apply jd_ixP1; walk_at "jd")
  | (apply jd_ixP2; walk_at "jd")
  | walk_at "calld")
local macro_rules | `(tactic| walk_at "jd") => `(tactic| first
  | (apply JV.toD; walk_at "var"; walk_at "dp")
  | walk_at "jx"
  | (apply jd_list; walk_at "jad"; exact Nat.le_of_ble_eq_true rfl)
  | (apply jd_tuple; walk_at "jad"; exact Nat.le_of_ble_eq_true rfl)
  | (apply jd_listOf; walk_at "bm"; walk_at "jd"; exact rfl; exact boot_tlist; walk_at "ns")
  | (apply JV.toD (v := V.int _); walk_at "jv"; exact Dx.int _)
  | (apply JV.toD (v := V.bl _); walk_at "jv"; exact Dx.bl _)
  | (apply JV.toD (v := V.str _); walk_at "jv"; exact Dx.str _)
  | (apply jd_ifE; walk_at "jt"; intro hif; walk_at "jd"; intro hif; walk_at "jd"))
local macro_rules | `(tactic| walk_at "jad") => `(tactic| first
  | exact jad_nil
  | (apply jad_cons; walk_at "jd"; walk_at "jad"; walk_at "ns"))
local macro_rules | `(tactic| walk_at "jo") => `(tactic| first
  | (apply jo_isN; walk_at "jv")
  | (apply jo_notN; walk_at "jv")
  | (apply jo_eqI; walk_at "jv"; walk_at "jv")
  | (apply jo_neI; walk_at "jv"; walk_at "jv")
  | (apply jo_lt; walk_at "jv"; walk_at "jv")
  | (apply jo_le; walk_at "jv"; walk_at "jv")
  | (apply jo_gt; walk_at "jv"; walk_at "jv")
  | (apply jo_ge; walk_at "jv"; walk_at "jv")
  | (apply jo_inN; walk_at "hu"; walk_at "jv"; walk_at "jd")
  | (apply jo_niN; walk_at "hu"; walk_at "jv"; walk_at "jd")
  | (apply jo_eqD; walk_at "hu"; walk_at "jd"; walk_at "jd"; walk_at "shp"; walk_at "shp")
  | (apply jo_neD; walk_at "hu"; walk_at "jd"; walk_at "jd"; walk_at "shp"; walk_at "shp"))
local macro_rules | `(tactic| walk_at "shp") => `(tactic| first
  | assumption
  | exact Shp.shaped eLL _
  | exact Shp.shaped ePs _
  | exact Shp.shaped eNs _
  | exact Shp.shaped ePss _
  | exact Shp.shaped eP _
  | exact Shp.shaped eN _
  | exact Shp.shaped eI _
  | decide)
local macro_rules | `(tactic| walk_at "jw") => `(tactic| first
  | (apply jw_one_and; walk_at "jt")
  | (apply jw_one_or; walk_at "jt")
  | (apply jw_and; walk_at "jt"; intro hand; walk_at "jw")
  | (apply jw_or; walk_at "jt"; intro hor; walk_at "jw"))
local macro_rules | `(tactic| walk_at "jt") => `(tactic| first
  | (apply jt_w; walk_at "jw")
  | (apply jt_cmp; walk_at "jo"; (first | exact rfl | exact nomark _))
  | (apply jt_not; walk_at "jt")
  | (apply jt_val; walk_at "jv"; exact fun _ => rfl)
  | (apply jt_chain op_le op_le; walk_at "jv"; walk_at "jv"; walk_at "jv"; with_unfolding_all rfl))
local macro_rules | `(tactic| walk_at "camp") => `(tactic| first | assumption | (refine' CampAt.mono ?_ (by assumption); walk_at "ex"))
local macro_rules | `(tactic| walk_at "calld") => `(tactic| first
  | (apply jd_told; assumption; walk_at "var"; walk_at "camp"; exact rfl)
  | walk_at "calld2")
local macro_rules | `(tactic| walk_at "calld2") => `(tactic| first
  | fail "calld2")
local macro_rules | `(tactic| walk_at "room") => `(tactic| first
  | assumption
  | exact Room.mono (by assumption) (by decide))
local macro_rules | `(tactic| walk_at "bm") => `(tactic| first
  | assumption
  | exact Tx.len (by assumption)
  | exact Tx.range (by assumption)
  | exact Tx.list (by assumption)
  | exact Tx.all (by assumption)
  | exact Tx.any (by assumption)
  | exact Tx.isi (by assumption)
  | exact Tx.int (by assumption)
  | exact Tx.bool (by assumption)
  | exact Tx.set (by assumption)
  | exact Tx.tup (by assumption))
local macro_rules | `(tactic| walk_at "call") => `(tactic| first
  | (apply jv_size; assumption; walk_at "var"; walk_at "camp"; exact rfl)
  | (apply jv_index; walk_at "hu"; walk_at "jd"; walk_at "jv"; walk_at "side"; walk_at "ns"; exact rfl; exact rfl; exact rfl)
  | (apply jv_would; assumption; assumption; walk_at "room"; walk_at "var"; walk_at "camp"; walk_at "jv"; walk_at "jv"; walk_at "side"; walk_at "side"; walk_at "ns"; walk_at "ns"; exact rfl; exact rfl)
  | walk_at "call2")
local macro_rules | `(tactic| walk_at "call2") => `(tactic| first
  | fail "call2")
local macro_rules | `(tactic| walk_at "call2") => `(tactic| first
  | (apply jv_glob; exact rfl; assumption; exact ⟨_, rfl⟩; decide)
  | (apply jv_within; assumption; walk_at "room"; walk_at "jd"; walk_at "jv"; walk_at "jv"; exact rfl; walk_at "ns"; walk_at "ns"; walk_at "ns"; exact rfl))
def natsT : PyData → List Nat
  | .tuple es => es.map natOf
  | _ => []
def okPair (L : List (List Nat)) : PyData → Bool
  | .tuple es => decide (es.length = 2) && allIn L.length es && would L ((es.map natOf).getD 0 0) ((es.map natOf).getD 1 0)
  | _ => false
/-- what are no pairs of a camp -/
def badPairs (L : List (List Nat)) : PyData → Bool
  | .list ds => !(ds.all (okPair L)) || !decide (ds.flatMap natsT).Nodup
  | _ => true
def fewPairs : PyData → Prop
  | .list ds => ds.length ≤ 1000
  | _ => True
theorem okPair_eP {L : List (List Nat)} {es : List PyData} (h2 : es.length = 2) (hin : allIn L.length es = true) : ∃ x : Nat × Nat, PyData.tuple es = eP x ∧ es.map natOf = [x.1, x.2] ∧ x.1 < L.length ∧ x.2 < L.length := by
  obtain ⟨e, m⟩ := allIn_eN hin
  match es, h2 with
  | [a, b], _ => exact ⟨(natOf a, natOf b), by rw [e]; rfl, rfl, m _ (by simp), m _ (by simp)⟩
section
variable {P : Program} {w : World} {K : PySem.W.Frag} {mg : Str → Option Value} {base : Heap} {C cP : Addr}
abbrev spCheckR (K : PySem.W.Frag) (C cP : Addr) : Sp := spR (fun i : List (List Nat) × PyData => i.1.length ≤ 6 ∧ badPairs i.1 i.2 = true ∧ fewPairs i.2) (fun i => [kCamp K C i.1, kD i.2]) cP false
theorem flatN_len {L : List (List Nat)} : ∀ {ds : List PyData}, (∀ d ∈ ds, okPair L d = true) → (ds.flatMap natsT).length = 2 * ds.length
  | [], _ => rfl
  | d :: ds, h => by
    have ih := flatN_len (ds := ds) fun e he => h e (List.mem_cons_of_mem _ he)
    have h1 := h d List.mem_cons_self
    cases d with
    | tuple es =>
      simp only [okPair, Bool.and_eq_true, decide_eq_true_eq] at h1
      rw [List.flatMap_cons, List.length_append, ih, List.length_cons]
      show (es.map natOf).length + _ = _
      rw [List.length_map]
      omega
    | _ => simp [okPair] at h1
theorem ok_checkR {f : Addr} {fd : FuncData} (F : Fun K "check_pairs" "check_pairs" s_check_pairs f fd) (T : Tx K mg C) (O : Own K mg "BadPairs" cP) (W : Df P w K mg base "within" 1 spWithin) (M : Mt P w K mg base C "would" 1 (spWould K C)) : FnOk P w K mg base (L2.CX P w) 2 f fd ["camp", "pairs"] (spCheckR K C cP) := by
  refine fun_okR F sc_check_pairs (fun _ => rfl) ?_
  rintro cdv A outer s H vs Q E ⟨L, d⟩ G hr ⟨hL, hbad, hfew⟩ al h k
  obtain ⟨_, pv, rfl, ⟨p, rfl, hc⟩, hp⟩ := al.two
  try dsimp only at hL hbad hfew hc hp k ⊢
  have nd := sc_check_pairs.nd
  have kE : ∀ {G1 H1 os}, Hs G H G1 H1 os → E (.ref cP) none H1 := fun h1 => k _ none h1.st.h rfl
  have hk := kit_list d hp.nodict
  by_cases hd : isLst d = false
  · rw [hd] at hk
    exact b_if (p := true) h (JT.is (p := !false) (jt_not (jt_val (by walk_at "jv") (fun _ => rfl))) rfl) (fun _ H1 h1 => b_raise rfl (L2.takes_of rfl rfl rfl rfl) O rfl (by decide) (kE h1)) (fun e => by cases e)
  obtain ⟨ds, rfl⟩ : ∃ ds, d = .list ds := by
    cases d with
    | list ds => exact ⟨ds, rfl⟩
    | _ => exact absurd rfl hd
  have hlen : ds.length ≤ 1000 := hfew
  refine' b_if (p := false) h (JT.is (p := !true) ?tt rfl) (fun e => by cases e) (fun _ H1 h1 => b_nil ?_)
  case tt => walk_at "jt"
  refine b_setN (n := 2) h1 nd rfl (by walk_at "loc") (Or.inl rfl) (fun H1 l h1 => ?_)
  refine b_for h1 (f := fun d => d) (xs := ds) (JI.is (ji_list (by walk_at "jd")) (List.map_id' ds).symm) (L2.passes_of rfl) rfl (fun _ => rfl) (fun G2 H2 h2 e2 => ?_)
  refine ⟨fun pre σ' G' H' => ∃ ws o1, σ' = [some (.ref p), some pv, some (.ref l), o1, none] ∧ Hs G H G' H' [(l, .lst ws)] ∧ Ex G2 G' ∧ DxAll G' ws ((pre.flatMap natsT).map eN) ∧ ∀ d ∈ pre, okPair L d = true, ?_, ?_, ?_, ?_⟩
  · exact ⟨[], none, rfl, h2, Ex.refl _, .nil, fun _ z => by simp at z⟩
  · rintro pre σ' G' H' ⟨ws, o1, rfl, hs, e, _⟩
    exact ⟨e, hs.ex⟩
  · rintro pre x post v σ' G' H' hxs ⟨ws, o1, rfl, hs, e, hd, hpre⟩ pv2
    have pv3 : Dx G' v x := Dx.mono e pv2
    have hkx := kit_tuple x pv3.nodict
    refine wg_name (n := 3) nd rfl (by walk_at "loc") (Or.inl rfl) ?_
    by_cases hd2 : isTup x = false
    · rw [hd2] at hkx
      exact b_if (p := true) hs (JT.is (p := (!false || false)) (jt_w (jw_or (jt_not (jt_val (by walk_at "jv") (fun _ => rfl))) (fun e => by cases e))) rfl) (fun _ H1 h1 => b_raise rfl (L2.takes_of rfl rfl rfl rfl) O rfl (by decide) (kE h1)) (fun e => by cases e)
    obtain ⟨es, rfl⟩ : ∃ es, x = .tuple es := by
      cases x with
      | tuple es => exact ⟨es, rfl⟩
      | _ => exact absurd rfl hd2
    refine' b_if (p := !(decide (es.length = 2) && allIn L.length es)) hs (JT.is (p := (!true || (!decide ((es.length : Int) = 2) || !((es.map fun y => withinD y 0 ((L.length : Int) - 1)).all id)))) (jt_w (jw_or ?t1 (fun _ => jw_or ?t2 (fun h2 => jw_one_or (jt_not (jt_val (jv_all rfl T.all (bs := es.map fun y => withinD y 0 ((L.length : Int) - 1)) (JD.is (JN.toD (jn_lc (n := 4) (f0 := fun d => d) (xs := es) (f := fun y => .bool (withinD y 0 ((L.length : Int) - 1))) (JI.is (ji_tup (by walk_at "jd")) (List.map_id' es).symm) ?len rfl nd rfl (fun _ _ _ _ _ => ⟨by walk_at "loc", by walk_at "loc"⟩) (by first | kernel_rfl | rfl) (fun _ => rfl) ?body)) ?eqm) rfl (by decide +kernel) (by walk_at "ns")) (fun _ => rfl))))))) ?eq) (fun _ H1 h1 => b_raise rfl (L2.takes_of rfl rfl rfl rfl) O rfl (by decide) (kE h1)) (fun eA H1 h1 => b_nil ?_)
    case t1 => walk_at "jt"
    case t2 => walk_at "jt"
    case len =>
      have : (es.length : Int) = 2 := by simpa using h2
      omega
    case body =>
      intro s h C cl fp y hy G2 u e3 pu
      try dsimp only at pu
      walk_at "jd"
    case eqm => rw [List.map_map]; rfl
    case eq =>
      rw [List.all_map, show decide ((es.length : Int) = 2) = decide (es.length = 2) from decide_eq_decide.mpr (by omega), Bool.not_and]
      rfl
    have hA : es.length = 2 ∧ allIn L.length es = true := by simpa using eA
    obtain ⟨x, hx, hn, x1, x2⟩ := okPair_eP hA.1 hA.2
    have hpx : Dx G' v (eP x) := by rw [← hx]; exact pv3
    refine b_if (p := !(would L x.1 x.2)) h1 (by walk_at "jt") (fun _ H1 h1 => b_raise rfl (L2.takes_of rfl rfl rfl rfl) O rfl (by decide) (kE h1)) (fun eW H1 h1 => b_nil ?_)
    have hw : would L x.1 x.2 = true := by simpa using eW
    refine b_extendT (n := 2) h1 (ds := [x.1, x.2].map eN) rfl rfl (by walk_at "vis") (JD.is (d1 := eP x) (by walk_at "jd") rfl) ?_ rfl rfl (by walk_at "ns") rfl rfl rfl rfl (fun G3 H3 us h3 e3 hu => b_nil ⟨G3, ws ++ us, _, rfl, h3, e.trans e3, ?_, fun d hdm => ?_⟩)
    · have a1 := hd.length
      have a2 := congrArg List.length hxs
      rw [List.length_append, List.length_cons] at a2
      rw [List.length_map, flatN_len hpre] at a1
      rw [List.length_map]
      show _ + 2 ≤ _
      omega
    · have z : (pre ++ [PyData.tuple es]).flatMap natsT = pre.flatMap natsT ++ [x.1, x.2] := by rw [List.flatMap_append, ← hn]; simp [natsT]
      rw [z, List.map_append]
      exact (hd.mono e3).append hu
    · rcases List.mem_append.mp hdm with hdm | hdm
      · exact hpre d hdm
      · rw [List.mem_singleton] at hdm
        subst hdm
        show (decide (es.length = 2) && allIn L.length es && would L ((es.map natOf).getD 0 0) ((es.map natOf).getD 1 0)) = true
        rw [hn, hA.2, decide_eq_true hA.1]
        exact hw
  · rintro σ' G' H' ⟨ws, o1, rfl, hs, e, hd, hall⟩
    obtain ⟨hf, e4⟩ := hs.fix
    generalize hns : ds.flatMap natsT = ns at *
    have hl2 : ns.length ≤ 2000 := by rw [← hns, flatN_len hall]; omega
    have hm : Dx (upd G' l (.lst ws)) (.ref l) (eNs ns) := .lst upd_same (hd.mono e4)
    refine' b_if (p := !decide ns.Nodup) hf (JT.is (jt_cmp (jo_lt (jv_lenSet (ns := ns.map fun n : Nat => (n : Int)) rfl T.len T.set (JD.is (d1 := eNs ns) ?dm ?eqs) ?len rfl rfl (by walk_at "ns")) (show JV _ _ _ _ (.int (ns.length : Int)) from ?l2)) rfl) ?eq) (fun _ H1 h1 => b_raise rfl (L2.takes_of rfl rfl rfl rfl) O rfl (by decide) (kE h1)) (fun eB H1 h1 => ?_)
    case dm => walk_at "jd"
    case eqs => rw [List.map_map]; rfl
    case len => rw [List.length_map]; omega
    case l2 => walk_at "jv"
    case eq =>
      have q1 := @dedupI_iff (ns.map fun n : Nat => (n : Int))
      have q2 := dedupI_le (ns.map fun n : Nat => (n : Int))
      have q3 : (ns.map fun n : Nat => (n : Int)).Nodup ↔ ns.Nodup := ⟨fun z => (List.pairwise_map.mp z).imp fun h e => h (by rw [e]), fun z => z.map (fun n : Nat => (n : Int)) fun a b hab h => hab (by have h2 : (a : Int) = (b : Int) := h; omega)⟩
      rw [List.length_map] at q1 q2
      rw [← decide_not]
      refine decide_eq_decide.mpr ?_
      rw [← q3, ← q1]
      omega
    exfalso
    have hb2 : (!(ds.all (okPair L)) || !decide (ds.flatMap natsT).Nodup) = true := hbad
    rw [List.all_eq_true.mpr hall, hns, Bool.not_true, Bool.false_or, eB] at hb2
    cases hb2
abbrev spBreakR (K : PySem.W.Frag) (C cP : Addr) : Sp := spCheckR K C cP
theorem ok_breakR {f : Addr} {fd : FuncData} (F : Fun K "breaking" "breaking" s_breaking f fd) (M : DfX P w K mg base "check_pairs" 2 (spCheckR K C cP)) : FnOk P w K mg base (L2.CX P w) 3 f fd ["camp", "pairs"] (spBreakR K C cP) := by
  refine fun_okR F sc_breaking (fun _ => rfl) ?_
  rintro cdv A outer s H vs Q E ⟨L, d⟩ G hr hp al h k
  have al0 := al
  obtain ⟨_, pv, rfl, ⟨p, rfl, hc⟩, hd⟩ := al.two
  try dsimp only at hc hd k ⊢
  exact b_exprW rfl (we_callR (L2.takes_of rfl rfl rfl rfl) M hr rfl (L, d) hp (jal_cons (JV.toP (v := .ref p) (by walk_at "var") ⟨p, rfl, hc⟩) mo_Camp (fun _ e => jal_cons (JD.toP (d := d) (by walk_at "jd")) mo_D (fun _ _ => jal_nil) (by walk_at "ns")) (by walk_at "ns")) (by walk_at "ns") (by decide) rfl h.ex (fun H' d' e z σ _ => k H' d' e z))
end
end TP

set_option Elab.async false
set_option linter.all false
set_option maxRecDepth 100000
set_option maxHeartbeats 2000000
namespace TP
open PySem PySem.Spec PyProof.Rows L2
open Evl (Ex)
-- tactics of this text: what an expression is worth (jv jd jt jo jw), growth (ex), what remains (side); call, calld: what the text adds
local macro_rules | `(tactic| walk_at "ex") => `(tactic| first | exact Ex.refl _ | assumption | (refine' Ex.trans ?_ (by assumption); walk_at "ex"))
local macro_rules | `(tactic| walk_at "vis") => `(tactic| first
  | exact Or.inl rfl
  | exact Or.inr (Or.inl rfl)
  | exact Or.inr (Or.inr rfl))
local macro_rules | `(tactic| walk_at "loc") => `(tactic| first
  | exact Or.inl rfl
  | exact Or.inr rfl)
local macro_rules | `(tactic| walk_at "side") => `(tactic| first
  | assumption
  | omega
  | decide
  | exact rfl
  | (simp_all; done)
  | (simp_all; omega))
local macro_rules | `(tactic| walk_at "hu") => `(tactic| first
  | exact room65 (by assumption)
  | exact Room.units (by assumption))
local macro_rules | `(tactic| walk_at "dp") => `(tactic| first | assumption | (refine' Dx.mono ?_ (by assumption); walk_at "ex"))
local macro_rules | `(tactic| walk_at "var") => `(tactic| first
  | (apply jv_var 0; exact rfl; exact rfl; walk_at "vis"; decide; decide)
  | (apply jv_var 1; exact rfl; exact rfl; walk_at "vis"; decide; decide)
  | (apply jv_var 2; exact rfl; exact rfl; walk_at "vis"; decide; decide)
  | (apply jv_var 3; exact rfl; exact rfl; walk_at "vis"; decide; decide)
  | (apply jv_var 4; exact rfl; exact rfl; walk_at "vis"; decide; decide)
  | (apply jv_var 5; exact rfl; exact rfl; walk_at "vis"; decide; decide)
  | (apply jv_var 6; exact rfl; exact rfl; walk_at "vis"; decide; decide)
  | (apply jv_var 7; exact rfl; exact rfl; walk_at "vis"; decide; decide)
  | (apply jv_var 8; exact rfl; exact rfl; walk_at "vis"; decide; decide)
  | (apply jv_var 9; exact rfl; exact rfl; walk_at "vis"; decide; decide)
  | (apply jv_var 10; exact rfl; exact rfl; walk_at "vis"; decide; decide)
  | (apply jv_var 11; exact rfl; exact rfl; walk_at "vis"; decide; decide)
  | (apply jv_var 12; exact rfl; exact rfl; walk_at "vis"; decide; decide)
  | (apply jv_var 13; exact rfl; exact rfl; walk_at "vis"; decide; decide)
  | (apply jv_var 14; exact rfl; exact rfl; walk_at "vis"; decide; decide)
  | (apply jv_var 15; exact rfl; exact rfl; walk_at "vis"; decide; decide)
  | (apply jv_var 16; exact rfl; exact rfl; walk_at "vis"; decide; decide)
  | (apply jv_var 17; exact rfl; exact rfl; walk_at "vis"; decide; decide)
  | (apply jv_var 18; exact rfl; exact rfl; walk_at "vis"; decide; decide)
  | (apply jv_var 19; exact rfl; exact rfl; walk_at "vis"; decide; decide))
local macro_rules | `(tactic| walk_at "bm") => `(tactic| first
  | assumption)
local macro_rules | `(tactic| walk_at "call") => `(tactic| first
  | fail "call")
local macro_rules | `(tactic| walk_at "calld") => `(tactic| first
  | fail "calld")
local macro_rules | `(tactic| walk_at "kit") => `(tactic| first
  | assumption
  | exact kit_ii
  | exact kit_ib
  | exact kit_bi
  | exact kit_bb
  | exact kit_li
  | exact kit_ll
  | exact kit_tt
  | exact kit_tl
  | exact kit_lt
  | exact kit_tb)
local macro_rules | `(tactic| walk_at "ns") => `(tactic| first
  | exact fun _ _ => rfl)
local macro_rules | `(tactic| walk_at "jv") => `(tactic| first
  | exact jv_int
  | exact jv_bl
  | exact jv_non
  | exact jv_str
  | walk_at "var"
  | (apply jv_add; walk_at "jv"; walk_at "jv")
  | (apply jv_sub; walk_at "jv"; walk_at "jv")
  | (apply jv_neg; walk_at "jv")
  | (apply jv_mul; walk_at "jv"; walk_at "jv"; walk_at "mulok")
  | (apply jv_fdiv; walk_at "jv"; walk_at "jv"; walk_at "divok")
  | (apply jv_mod; walk_at "jv"; walk_at "jv"; walk_at "side")
  | (apply jv_band; walk_at "jv"; walk_at "jv")
  | (apply jv_cmp; walk_at "jo"; (first | exact rfl | exact nomark _))
  | (apply jv_chain op_le op_le; walk_at "jv"; walk_at "jv"; walk_at "jv"; with_unfolding_all rfl)
  | (apply jv_chain op_le op_lt; walk_at "jv"; walk_at "jv"; walk_at "jv"; with_unfolding_all rfl)
  | (apply jv_and; walk_at "jv"; intro hand; walk_at "jv")
  | (apply jv_or; walk_at "jv"; intro hor; walk_at "jv")
  | (apply jv_not; walk_at "jv")
  | (apply jv_one; walk_at "jv")
  | (apply jv_lenM; walk_at "bm"; walk_at "jd"; exact rfl; walk_at "ns")
  | (apply jv_len; walk_at "bm"; walk_at "jd"; exact rfl; walk_at "ns")
  | (apply jv_all; exact rfl; walk_at "bm"; walk_at "jd"; exact rfl; decide +kernel; walk_at "ns")
  | (apply jv_any; exact rfl; walk_at "bm"; walk_at "jd"; exact rfl; decide +kernel; walk_at "ns")
  | (apply jv_lenT; walk_at "bm"; walk_at "jd"; exact rfl; walk_at "ns")
  | walk_at "call"
  | (apply jv_isi; (first | exact boot_tint | exact boot_tbool | exact boot_tlist | exact boot_ttuple); walk_at "bm"; walk_at "bm"; walk_at "jd"; walk_at "kit"; exact rfl; exact rfl; exact boot_isi; walk_at "ns"; decide; decide)
  | (apply jv_lenSet; exact rfl; walk_at "bm"; walk_at "bm"; walk_at "jd"; walk_at "side"; exact rfl; exact rfl; walk_at "ns")
  | (apply jv_ifE; walk_at "jt"; intro hif; walk_at "jv"; intro hif; walk_at "jv")
  | (apply JD.toI; walk_at "jx")
  | (apply JD.toB; walk_at "jx")
  | (apply JD.toS; walk_at "jx"))
local macro_rules | `(tactic| walk_at "mulok") => `(tactic| first
  | exact Or.inr ⟨by decide, by decide⟩
  | exact Or.inl ⟨by decide, by decide⟩
  | exact Or.inl ⟨by omega, by omega⟩
  | exact Or.inr ⟨by omega, by omega⟩)
local macro_rules | `(tactic| walk_at "divok") => `(tactic| first
  | exact ⟨by decide, by decide⟩
  | exact ⟨by omega, by omega⟩)
local macro_rules | `(tactic| walk_at "jx") => `(tactic| first
  | (apply jd_ixN; walk_at "jd"; walk_at "jv"; exact fun _ _ => rfl; walk_at "side")
  | (apply jd_ixNs; walk_at "jd"; walk_at "jv"; exact fun _ _ => rfl; walk_at "side")
  | (apply jd_ixP; walk_at "jd"; walk_at "jv"; exact fun _ _ => rfl; walk_at "side")
  | (apply jd_ixPs; walk_at "jd"; walk_at "jv"; exact fun _ _ => rfl; walk_at "side")
  | (apply jd_ixI; walk_at "jd"; walk_at "jv"; exact fun _ _ => rfl; walk_at "side")
  | (apply jd_ixP1; walk_at "jd")
  | (apply jd_ixP2; walk_at "jd")
  | walk_at "calld")
local macro_rules | `(tactic| walk_at "jd") => `(tactic| first
  | (apply JV.toD; walk_at "var"; walk_at "dp")
  | walk_at "jx"
  | (apply jd_list; walk_at "jad"; exact Nat.le_of_ble_eq_true rfl)
  | (apply jd_tuple; walk_at "jad"; exact Nat.le_of_ble_eq_true rfl)
  | (apply jd_listOf; walk_at "bm"; walk_at "jd"; exact rfl; exact boot_tlist; walk_at "ns")
  | (apply JV.toD (v := V.int _); walk_at "jv"; exact Dx.int _)
  | (apply JV.toD (v := V.bl _); walk_at "jv"; exact Dx.bl _)
  | (apply JV.toD (v := V.str _); walk_at "jv"; exact Dx.str _)
  | (apply jd_ifE; walk_at "jt"; intro hif; walk_at "jd"; intro hif; walk_at "jd"))
local macro_rules | `(tactic| walk_at "jad") => `(tactic| first
  | exact jad_nil
  | (apply jad_cons; walk_at "jd"; walk_at "jad"; walk_at "ns"))
local macro_rules | `(tactic| walk_at "jo") => `(tactic| first
  | (apply jo_isN; walk_at "jv")
  | (apply jo_notN; walk_at "jv")
  | (apply jo_eqI; walk_at "jv"; walk_at "jv")
  | (apply jo_neI; walk_at "jv"; walk_at "jv")
  | (apply jo_lt; walk_at "jv"; walk_at "jv")
  | (apply jo_le; walk_at "jv"; walk_at "jv")
  | (apply jo_gt; walk_at "jv"; walk_at "jv")
  | (apply jo_ge; walk_at "jv"; walk_at "jv")
  | (apply jo_inN; walk_at "hu"; walk_at "jv"; walk_at "jd")
  | (apply jo_niN; walk_at "hu"; walk_at "jv"; walk_at "jd")
  | (apply jo_eqD; walk_at "hu"; walk_at "jd"; walk_at "jd"; walk_at "shp"; walk_at "shp")
  | (apply jo_neD; walk_at "hu"; walk_at "jd"; walk_at "jd"; walk_at "shp"; walk_at "shp"))
local macro_rules | `(tactic| walk_at "shp") => `(tactic| first
  | assumption
  | exact Shp.shaped eLL _
  | exact Shp.shaped ePs _
  | exact Shp.shaped eNs _
  | exact Shp.shaped ePss _
  | exact Shp.shaped eP _
  | exact Shp.shaped eN _
  | exact Shp.shaped eI _
  | decide)
local macro_rules | `(tactic| walk_at "jw") => `(tactic| first
  | (apply jw_one_and; walk_at "jt")
  | (apply jw_one_or; walk_at "jt")
  | (apply jw_and; walk_at "jt"; intro hand; walk_at "jw")
  | (apply jw_or; walk_at "jt"; intro hor; walk_at "jw"))
local macro_rules | `(tactic| walk_at "jt") => `(tactic| first
  | (apply jt_w; walk_at "jw")
  | (apply jt_cmp; walk_at "jo"; (first | exact rfl | exact nomark _))
  | (apply jt_not; walk_at "jt")
  | (apply jt_val; walk_at "jv"; exact fun _ => rfl)
  | (apply jt_chain op_le op_le; walk_at "jv"; walk_at "jv"; walk_at "jv"; with_unfolding_all rfl))
local macro_rules | `(tactic| walk_at "camp") => `(tactic| first | assumption | (refine' CampAt.mono ?_ (by assumption); walk_at "ex"))
local macro_rules | `(tactic| walk_at "calld") => `(tactic| first
  | (apply jd_told; assumption; walk_at "var"; walk_at "camp"; exact rfl)
  | walk_at "calld2")
local macro_rules | `(tactic| walk_at "calld2") => `(tactic| first
  | fail "calld2")
local macro_rules | `(tactic| walk_at "room") => `(tactic| first
  | assumption
  | exact Room.mono (by assumption) (by decide))
local macro_rules | `(tactic| walk_at "bm") => `(tactic| first
  | assumption
  | exact Tx.len (by assumption)
  | exact Tx.range (by assumption)
  | exact Tx.list (by assumption)
  | exact Tx.all (by assumption)
  | exact Tx.any (by assumption)
  | exact Tx.isi (by assumption)
  | exact Tx.int (by assumption)
  | exact Tx.bool (by assumption)
  | exact Tx.set (by assumption)
  | exact Tx.tup (by assumption))
local macro_rules | `(tactic| walk_at "call") => `(tactic| first
  | (apply jv_size; assumption; walk_at "var"; walk_at "camp"; exact rfl)
  | (apply jv_index; walk_at "hu"; walk_at "jd"; walk_at "jv"; walk_at "side"; walk_at "ns"; exact rfl; exact rfl; exact rfl)
  | (apply jv_would; assumption; assumption; walk_at "room"; walk_at "var"; walk_at "camp"; walk_at "jv"; walk_at "jv"; walk_at "side"; walk_at "side"; walk_at "ns"; walk_at "ns"; exact rfl; exact rfl)
  | walk_at "call2")
local macro_rules | `(tactic| walk_at "call2") => `(tactic| first
  | fail "call2")
local macro_rules | `(tactic| walk_at "call2") => `(tactic| first
  | (apply jv_rather; assumption; assumption; walk_at "room"; walk_at "var"; walk_at "camp"; walk_at "jv"; walk_at "jv"; walk_at "jv"; walk_at "side"; walk_at "side"; walk_at "ns"; walk_at "ns"; walk_at "ns"; exact rfl; exact rfl)
  | walk_at "call4")
local macro_rules | `(tactic| walk_at "call4") => `(tactic| first
  | fail "call4")
local macro_rules | `(tactic| walk_at "calld2") => `(tactic| first
  | (apply jd_open; assumption; walk_at "room"; walk_at "var"; walk_at "camp"; walk_at "side"; exact rfl; walk_at "ns"; exact rfl)
  | walk_at "calld4")
local macro_rules | `(tactic| walk_at "calld4") => `(tactic| first
  | fail "calld4")
section
variable {P : Program} {w : World} {K : PySem.W.Frag} {mg : Str → Option Value} {base : Heap} {C CS CR cN cS B : Addr} {mc : Value}
theorem ok_noneInit {f : Addr} {fd : FuncData} (F : Fun K "__init__" "NoneSteady.__init__" s_NoneSteady___init__ f fd) (Z : Bas K mg "CampError" B mc) (O : OexC K cS) (nf : PySem.W.findIn K (.ref cS) "rings" = some none) : FnOk P w K mg base CX0 1 f fd ["self", "rings"] (spXI cS "rings") := by
  refine F.ok sc_NoneSteady___init__ (fun vs H Q E ⟨a, v, e, _⟩ => by rw [e]; rfl) fun cdv A outer s H vs Q E hr ⟨a, v, e, hH, k⟩ => ?_
  subst e
  show wSs _ (defBody s_NoneSteady___init__) _ _ _
  refine b_cons ⟨_, ps_expr (pe_basInit Z rfl (by decide) (pa_cons (pv 0) (pa_cons pe_str pa_nil)) rfl rfl rfl) rfl, ⟨_, rfl, a, cS, _, rfl, Nat.le_of_ble_eq_true rfl, O, hH, ?_⟩⟩
  exact b_cons ⟨_, ps_ost (pv 0) (pv 1), ⟨_, rfl, _, rfl, a, cS, rfl, O, nf, .inl ⟨hH, fun dx n ne => b_nil (k dx n ne)⟩⟩⟩
end
section
variable {X : Cx} {σ : L2.St} {e o a b c : Expr} {es : List Expr} {G : Hp} {pos : Pos} {x : Str} {C CS CR p : Addr} {L : List (List Nat)}
theorem jp_tellRings {ap : Pos} (M : Df X.prog X.w X.K X.mg X.base "telling" 5 (spTell X.K C CS CR)) (hr : Room 5 X.A) (ho : JV X σ o G (.ref p)) (hc : CampAt X.K C G p L) (hv : ValidL L) (hn : allSteady L = []) (hg : Gl X "telling") (na : NoStar o) (hpl : (backTo pos (starEach [] X.env)).any (·.1) = false) :
    JP X σ (.Call (.Name "telling" ap) [o] [] pos) G (fun G v => ∃ rs, RingsAt CR G v rs) := ⟨fun H eh Q q =>
  (jh_call M hr hg L hv (jal_cons (ho.toP ⟨p, rfl, hc⟩) mo_Camp (fun _ _ => jal_nil) na) na (by decide) hpl).run H eh Q fun G' H' v F s eF _ r => by
    rcases r with ⟨ps, _, hm, _⟩ | ⟨_, f, g, _, _, hR⟩
    · rw [hn] at hm; cases hm
    · exact q G' H' v s ⟨_, hR.mono eF⟩⟩
theorem jp_ringsFld (A : Ta X.K X.mg CS CR) (ho : JP X σ o G (fun G v => ∃ rs, RingsAt CR G v rs)) (hb : attributeBase o "rings" X.env (eval o X.env) = eval o X.env) : JP X σ (.Attribute o "rings" pos) G (fun G v => ∃ rs, Dx G v (eLL rs)) := ⟨fun H eh Q q =>
  ⟨_, pe_fld pe_w hb, ho H eh _ fun G1 H1 v s1 ⟨rs, a, t, ev, hi, hd⟩ => by
    obtain ⟨dx, fs, hG, hfs⟩ := hi.ex
    exact ⟨a, CR, dx, fs, t, ev, s1.gh _ _ hG, A.clR, A.nR, (hfs _).trans (ringsA_at _), q G1 H1 t s1 ⟨rs, hd⟩⟩⟩⟩
end
section
variable {P : Program} {w : World} {K : PySem.W.Frag} {mg : Str → Option Value} {base : Heap} {C CS CR cN cS : Addr}
abbrev spSteadyR (K : PySem.W.Frag) (C cS : Addr) : Sp := spR (fun L : List (List Nat) => ValidL L ∧ allSteady L = []) (fun L => [kCamp K C L]) cS true
theorem ok_checkSR {f : Addr} {fd : FuncData} (F : Fun K "check_steady" "check_steady" s_check_steady f fd) (T : Tx K mg C) (A : Ta K mg CS CR) (ON : OwnX P w K mg base "NoneSteady" cS "rings") (MA : Df P w K mg base "all_steady" 4 (spAll K C)) (MT : Df P w K mg base "telling" 5 (spTell K C CS CR)) : FnOk P w K mg base (L2.CX P w) 6 f fd ["camp"] (spSteadyR K C cS) := by
  refine fun_okR F sc_check_steady (fun _ => rfl) ?_
  rintro cdv A1 outer s H vs Q E L G hr ⟨hv, hn⟩ al h k
  obtain ⟨_, rfl, ⟨p, rfl, hc⟩⟩ := al.one
  try dsimp only at hc k ⊢
  have hu64 := Room.units hr
  have nd := sc_check_steady.nd
  have h6 := hv.six
  refine b_setD (n := 1) (d := ePss (allSteady L)) h (jd_all MA (hr.mono (by decide)) (by walk_at "var") (by walk_at "camp") h6 rfl (by walk_at "ns") rfl) nd rfl (by walk_at "loc") rfl (Or.inl rfl) (fun G1 H1 v h1 e1 hd1 => ?_)
  refine b_if (p := true) h1 (JT.is (jt_cmp (jo_eqD (d1 := ePss (allSteady L)) (d2 := .list []) hu64 (by walk_at "jd") (by walk_at "jd") (Shp.shaped ePss _) (by decide)) rfl) (by rw [hn]; rfl)) (fun _ H2 h2 => ?_) (fun e => by cases e)
  refine b_raiseX rfl (L2.takes_of rfl rfl rfl rfl) ON (hr.mono (by decide)) rfl (by decide) h2.ex (jp_ringsFld A (jp_tellRings MT hr (by walk_at "var") (by walk_at "camp") hv hn rfl (by walk_at "ns") rfl) rfl) (by walk_at "ns") rfl (fun G' H' dd v e _ _ hx => ?_)
  exact k H' (some dd) (h2.st.h.trans e) ⟨dd, _, rfl, hx⟩
abbrev spMatesN (K : PySem.W.Frag) (C cN : Addr) : Sp := spCamperR K C cN
theorem ok_matesN {f : Addr} {fd : FuncData} (F : Fun K "mates" "mates" s_mates f fd) (T : Tx K mg C) (M : MtX P w K mg base C "camper" 2 (spCamperR K C cN)) : FnOk P w K mg base (L2.CX P w) 3 f fd ["camp", "camper"] (spMatesN K C cN) := by
  refine fun_okR F sc_mates (fun _ => rfl) ?_
  rintro cdv A outer s H vs Q E ⟨L, d⟩ G hr hp al h k
  obtain ⟨_, pv, rfl, ⟨p, rfl, hc⟩, hd⟩ := al.two
  try dsimp only at hc hd k ⊢
  obtain ⟨t, h1, h2⟩ := id hc
  exact b_exprW rfl (we_methR (oa := p) (L2.takes_of rfl rfl rfl rfl) M T.cl (by walk_at "var") h1 (campA_no _ _ (by decide +kernel) (by decide +kernel)) hr (L, d) hp (P0 := kCamp K C L) rfl ⟨p, rfl, hc⟩ mo_Camp (jal_cons (JD.toP (d := d) (by walk_at "jd")) mo_D (fun _ _ => jal_nil) (by walk_at "ns")) (by walk_at "ns") rfl rfl h.ex (fun H' d' e z σ _ => k H' d' e z))
abbrev spMatesS (K : PySem.W.Frag) (C cS : Addr) : Sp := spR (fun i : List (List Nat) × Nat => i.2 < i.1.length ∧ ValidL i.1 ∧ allSteady i.1 = []) (fun i => [kCamp K C i.1, kI i.2]) cS true
theorem ok_matesS {f : Addr} {fd : FuncData} (F : Fun K "mates" "mates" s_mates f fd) (T : Tx K mg C) (M : Mt P w K mg base C "camper" 2 (spCamper K C)) (MS : DfX P w K mg base "check_steady" 6 (spSteadyR K C cS)) : FnOk P w K mg base (L2.CX P w) 7 f fd ["camp", "camper"] (spMatesS K C cS) := by
  refine fun_okR F sc_mates (fun _ => rfl) ?_
  rintro cdv A outer s H vs Q E ⟨L, n⟩ G hr ⟨hn, hv, hs⟩ al h k
  obtain ⟨_, _, rfl, ⟨p, rfl, hc⟩, rfl⟩ := al.two
  try dsimp only at hc hn hv hs k ⊢
  have nd := sc_mates.nd
  obtain ⟨t, h1, h2⟩ := id hc
  refine b_expr h ⟨fun H eh Q q => (jp_meth (oa := p) M T.cl (by walk_at "var") h1 (campA_no _ _ (by decide +kernel) (by decide +kernel)) (hr.mono (by decide)) (L, n) hn (P0 := kCamp K C L) rfl ⟨p, rfl, hc⟩ mo_Camp (jal_cons (JV.toPV (v := .int (n : Int)) (by walk_at "jv")) mo_V (fun _ _ => jal_nil) (by walk_at "ns")) (by walk_at "ns") rfl rfl) H eh Q fun G' H' v s _ => q G' H' v s trivial⟩ rfl (fun G1 H1 h1 e1 => ?_)
  have hc1 : CampAt K C G1 p L := hc.mono e1
  exact b_setW (n := 2) nd rfl (by walk_at "loc") rfl (Or.inl rfl) (we_callR (L2.takes_of rfl rfl rfl rfl) MS hr rfl L ⟨hv, hs⟩ (jal_cons (JV.toP (v := .ref p) (by walk_at "var") ⟨p, rfl, hc1⟩) mo_Camp (fun _ _ => jal_nil) (by walk_at "ns")) (by walk_at "ns") (by decide) rfl h1.ex (fun H' d' e z σ _ => k H' d' (h1.st.h.trans e) z))
end
end TP

set_option Elab.async false
set_option linter.all false
set_option maxRecDepth 100000
set_option maxHeartbeats 4000000
namespace TP
open PySem PySem.Spec PyProof.Rows L2
open Evl (Ex)
-- tactics of this text: what an expression is worth (jv jd jt jo jw), growth (ex), what remains (side); call, calld: what the text adds
local macro_rules | `(tactic| walk_at "ex") => `(tactic| first | exact Ex.refl _ | assumption | (refine' Ex.trans ?_ (by assumption); walk_at "ex"))
local macro_rules | `(tactic| walk_at "vis") => `(tactic| first
  | exact Or.inl rfl
  | exact Or.inr (Or.inl rfl)
  | exact Or.inr (Or.inr rfl))
local macro_rules | `(tactic| walk_at "loc") => `(tactic| first
  | exact Or.inl rfl
  | exact Or.inr rfl)
local macro_rules | `(tactic| walk_at "side") => `(tactic| first
  | assumption
  | omega
  | decide
  | exact rfl
  | (simp_all; done)
  | (simp_all; omega))
local macro_rules | `(tactic| walk_at "hu") => `(tactic| first
  | exact room65 (by assumption)
  | exact Room.units (by assumption))
local macro_rules | `(tactic| walk_at "dp") => `(tactic| first | assumption | (refine' Dx.mono ?_ (by assumption); walk_at "ex"))
local macro_rules | `(tactic| walk_at "var") => `(tactic| first
  | (apply jv_var 0; exact rfl; exact rfl; walk_at "vis"; decide; decide)
  | (apply jv_var 1; exact rfl; exact rfl; walk_at "vis"; decide; decide)
  | (apply jv_var 2; exact rfl; exact rfl; walk_at "vis"; decide; decide)
  | (apply jv_var 3; exact rfl; exact rfl; walk_at "vis"; decide; decide)
  | (apply jv_var 4; exact rfl; exact rfl; walk_at "vis"; decide; decide)
  | (apply jv_var 5; exact rfl; exact rfl; walk_at "vis"; decide; decide)
  | (apply jv_var 6; exact rfl; exact rfl; walk_at "vis"; decide; decide)
  | (apply jv_var 7; exact rfl; exact rfl; walk_at "vis"; decide; decide)
  | (apply jv_var 8; exact rfl; exact rfl; walk_at "vis"; decide; decide)
  | (apply jv_var 9; exact rfl; exact rfl; walk_at "vis"; decide; decide)
  | (apply jv_var 10; exact rfl; exact rfl; walk_at "vis"; decide; decide)
  | (apply jv_var 11; exact rfl; exact rfl; walk_at "vis"; decide; decide)
  | (apply jv_var 12; exact rfl; exact rfl; walk_at "vis"; decide; decide)
  | (apply jv_var 13; exact rfl; exact rfl; walk_at "vis"; decide; decide)
  | (apply jv_var 14; exact rfl; exact rfl; walk_at "vis"; decide; decide)
  | (apply jv_var 15; exact rfl; exact rfl; walk_at "vis"; decide; decide)
  | (apply jv_var 16; exact rfl; exact rfl; walk_at "vis"; decide; decide)
  | (apply jv_var 17; exact rfl; exact rfl; walk_at "vis"; decide; decide)
  | (apply jv_var 18; exact rfl; exact rfl; walk_at "vis"; decide; decide)
  | (apply jv_var 19; exact rfl; exact rfl; walk_at "vis"; decide; decide))
local macro_rules | `(tactic| walk_at "bm") => `(tactic| first
  | assumption)
local macro_rules | `(tactic| walk_at "call") => `(tactic| first
  | fail "call")
local macro_rules | `(tactic| walk_at "calld") => `(tactic| first
  | fail "calld")
local macro_rules | `(tactic| walk_at "kit") => `(tactic| first
  | assumption
  | exact kit_ii
  | exact kit_ib
  | exact kit_bi
  | exact kit_bb
  | exact kit_li
  | exact kit_ll
  | exact kit_tt
  | exact kit_tl
  | exact kit_lt
  | exact kit_tb)
local macro_rules | `(tactic| walk_at "ns") => `(tactic| first
  | exact fun _ _ => rfl)
local macro_rules | `(tactic| walk_at "jv") => `(tactic| first
  | exact jv_int
  | exact jv_bl
  | exact jv_non
  | exact jv_str
  | walk_at "var"
  | (apply jv_add; walk_at "jv"; walk_at "jv")
  | (apply jv_sub; walk_at "jv"; walk_at "jv")
  | (apply jv_neg; walk_at "jv")
  | (apply jv_mul; walk_at "jv"; walk_at "jv"; walk_at "mulok")
  | (apply jv_fdiv; walk_at "jv"; walk_at "jv"; walk_at "divok")
  | (apply jv_mod; walk_at "jv"; walk_at "jv"; walk_at "side")
  | (apply jv_band; walk_at "jv"; walk_at "jv")
  | (apply jv_cmp; walk_at "jo"; (first | exact rfl | exact nomark _))
  | (apply jv_chain op_le op_le; walk_at "jv"; walk_at "jv"; walk_at "jv"; with_unfolding_all rfl)
  | (apply jv_chain op_le op_lt; walk_at "jv"; walk_at "jv"; walk_at "jv"; with_unfolding_all rfl)
  | (apply jv_and; walk_at "jv"; intro hand; walk_at "jv")
  | (apply jv_or; walk_at "jv"; intro hor; walk_at "jv")
  | (apply jv_not; walk_at "jv")
  | (apply jv_one; walk_at "jv")
  | (apply jv_lenM; walk_at "bm"; walk_at "jd"; exact rfl; walk_at "ns")
  | (apply jv_len; walk_at "bm"; walk_at "jd"; exact rfl; walk_at "ns")
  | (apply jv_all; exact rfl; walk_at "bm"; walk_at "jd"; exact rfl; decide +kernel; walk_at "ns")
  | (apply jv_any; exact rfl; walk_at "bm"; walk_at "jd"; exact rfl; decide +kernel; walk_at "ns")
  | (apply jv_lenT; walk_at "bm"; walk_at "jd"; exact rfl; walk_at "ns")
  | walk_at "call"
  | (apply jv_isi; (first | exact boot_tint | exact boot_tbool | exact boot_tlist | exact boot_ttuple); walk_at "bm"; walk_at "bm"; walk_at "jd"; walk_at "kit"; exact rfl; exact rfl; exact boot_isi; walk_at "ns"; decide; decide)
  | (apply jv_lenSet; exact rfl; walk_at "bm"; walk_at "bm"; walk_at "jd"; walk_at "side"; exact rfl; exact rfl; walk_at "ns")
  | (apply jv_ifE; walk_at "jt"; intro hif; walk_at "jv"; intro hif; walk_at "jv")
  | (apply JD.toI; walk_at "jx")
  | (apply JD.toB; walk_at "jx")
  | (apply JD.toS; walk_at "jx"))
local macro_rules | `(tactic| walk_at "mulok") => `(tactic| first
  | exact Or.inr ⟨by decide, by decide⟩
  | exact Or.inl ⟨by decide, by decide⟩
  | exact Or.inl ⟨by omega, by omega⟩
  | exact Or.inr ⟨by omega, by omega⟩)
local macro_rules | `(tactic| walk_at "divok") => `(tactic| first
  | exact ⟨by decide, by decide⟩
  | exact ⟨by omega, by omega⟩)
local macro_rules | `(tactic| walk_at "jx") => `(tactic| first
  | (apply jd_ixN; walk_at "jd"; walk_at "jv"; exact fun _ _ => rfl; walk_at "side")
  | (apply jd_ixNs; walk_at "jd"; walk_at "jv"; exact fun _ _ => rfl; walk_at "side")
  | (apply jd_ixP; walk_at "jd"; walk_at "jv"; exact fun _ _ => rfl; walk_at "side")
  | (apply jd_ixPs; walk_at "jd"; walk_at "jv"; exact fun _ _ => rfl; walk_at "side")
  | (apply jd_ixI; walk_at "jd"; walk_at "jv"; exact fun _ _ => rfl; walk_at "side")
  | (apply jd_ixP1; walk_at "jd")
  | (apply jd_ixP2; walk_at "jd")
  | walk_at "calld")
local macro_rules | `(tactic| walk_at "jd") => `(tactic| first
  | (apply JV.toD; walk_at "var"; walk_at "dp")
  | walk_at "jx"
  | (apply jd_list; walk_at "jad"; exact Nat.le_of_ble_eq_true rfl)
  | (apply jd_tuple; walk_at "jad"; exact Nat.le_of_ble_eq_true rfl)
  | (apply jd_listOf; walk_at "bm"; walk_at "jd"; exact rfl; exact boot_tlist; walk_at "ns")
  | (apply JV.toD (v := V.int _); walk_at "jv"; exact Dx.int _)
  | (apply JV.toD (v := V.bl _); walk_at "jv"; exact Dx.bl _)
  | (apply JV.toD (v := V.str _); walk_at "jv"; exact Dx.str _)
  | (apply jd_ifE; walk_at "jt"; intro hif; walk_at "jd"; intro hif; walk_at "jd"))
local macro_rules | `(tactic| walk_at "jad") => `(tactic| first
  | exact jad_nil
  | (apply jad_cons; walk_at "jd"; walk_at "jad"; walk_at "ns"))
local macro_rules | `(tactic| walk_at "jo") => `(tactic| first
  | (apply jo_isN; walk_at "jv")
  | (apply jo_notN; walk_at "jv")
  | (apply jo_eqI; walk_at "jv"; walk_at "jv")
  | (apply jo_neI; walk_at "jv"; walk_at "jv")
  | (apply jo_lt; walk_at "jv"; walk_at "jv")
  | (apply jo_le; walk_at "jv"; walk_at "jv")
  | (apply jo_gt; walk_at "jv"; walk_at "jv")
  | (apply jo_ge; walk_at "jv"; walk_at "jv")
  | (apply jo_inN; walk_at "hu"; walk_at "jv"; walk_at "jd")
  | (apply jo_niN; walk_at "hu"; walk_at "jv"; walk_at "jd")
  | (apply jo_eqD; walk_at "hu"; walk_at "jd"; walk_at "jd"; walk_at "shp"; walk_at "shp")
  | (apply jo_neD; walk_at "hu"; walk_at "jd"; walk_at "jd"; walk_at "shp"; walk_at "shp"))
local macro_rules | `(tactic| walk_at "shp") => `(tactic| first
  | assumption
  | exact Shp.shaped eLL _
  | exact Shp.shaped ePs _
  | exact Shp.shaped eNs _
  | exact Shp.shaped ePss _
  | exact Shp.shaped eP _
  | exact Shp.shaped eN _
  | exact Shp.shaped eI _
  | decide)
local macro_rules | `(tactic| walk_at "jw") => `(tactic| first
  | (apply jw_one_and; walk_at "jt")
  | (apply jw_one_or; walk_at "jt")
  | (apply jw_and; walk_at "jt"; intro hand; walk_at "jw")
  | (apply jw_or; walk_at "jt"; intro hor; walk_at "jw"))
local macro_rules | `(tactic| walk_at "jt") => `(tactic| first
  | (apply jt_w; walk_at "jw")
  | (apply jt_cmp; walk_at "jo"; (first | exact rfl | exact nomark _))
  | (apply jt_not; walk_at "jt")
  | (apply jt_val; walk_at "jv"; exact fun _ => rfl)
  | (apply jt_chain op_le op_le; walk_at "jv"; walk_at "jv"; walk_at "jv"; with_unfolding_all rfl))
local macro_rules | `(tactic| walk_at "camp") => `(tactic| first | assumption | (refine' CampAt.mono ?_ (by assumption); walk_at "ex"))
local macro_rules | `(tactic| walk_at "calld") => `(tactic| first
  | (apply jd_told; assumption; walk_at "var"; walk_at "camp"; exact rfl)
  | walk_at "calld2")
local macro_rules | `(tactic| walk_at "calld2") => `(tactic| first
  | fail "calld2")
local macro_rules | `(tactic| walk_at "room") => `(tactic| first
  | assumption
  | exact Room.mono (by assumption) (by decide))
local macro_rules | `(tactic| walk_at "bm") => `(tactic| first
  | assumption
  | exact Tx.len (by assumption)
  | exact Tx.range (by assumption)
  | exact Tx.list (by assumption)
  | exact Tx.all (by assumption)
  | exact Tx.any (by assumption)
  | exact Tx.isi (by assumption)
  | exact Tx.int (by assumption)
  | exact Tx.bool (by assumption)
  | exact Tx.set (by assumption)
  | exact Tx.tup (by assumption))
local macro_rules | `(tactic| walk_at "call") => `(tactic| first
  | (apply jv_size; assumption; walk_at "var"; walk_at "camp"; exact rfl)
  | (apply jv_index; walk_at "hu"; walk_at "jd"; walk_at "jv"; walk_at "side"; walk_at "ns"; exact rfl; exact rfl; exact rfl)
  | (apply jv_would; assumption; assumption; walk_at "room"; walk_at "var"; walk_at "camp"; walk_at "jv"; walk_at "jv"; walk_at "side"; walk_at "side"; walk_at "ns"; walk_at "ns"; exact rfl; exact rfl)
  | walk_at "call2")
local macro_rules | `(tactic| walk_at "call2") => `(tactic| first
  | fail "call2")
local macro_rules | `(tactic| walk_at "call2") => `(tactic| first
  | (apply jv_rather; assumption; assumption; walk_at "room"; walk_at "var"; walk_at "camp"; walk_at "jv"; walk_at "jv"; walk_at "jv"; walk_at "side"; walk_at "side"; walk_at "ns"; walk_at "ns"; walk_at "ns"; exact rfl; exact rfl)
  | walk_at "call4")
local macro_rules | `(tactic| walk_at "call4") => `(tactic| first
  | fail "call4")
local macro_rules | `(tactic| walk_at "calld2") => `(tactic| first
  | (apply jd_open; assumption; walk_at "room"; walk_at "var"; walk_at "camp"; walk_at "side"; exact rfl; walk_at "ns"; exact rfl)
  | walk_at "calld4")
local macro_rules | `(tactic| walk_at "calld4") => `(tactic| first
  | fail "calld4")
/-! ### xs.count(e), xs.index(e) of truth values -/
section
variable {X : Cx} {σ : L2.St} {a b : Expr} {G : Hp} {v : V}
def rCountD (K : PySem.W.Frag) : V → List V → Hp → VK → Prop := fun x xs H Q => ∃ (a : Addr) (y : V) (d : PyData) (ds : List PyData), x = V.ref a ∧ xs = [y] ∧ Dp K H (V.ref a) (.list ds) ∧ Dp K H y d ∧ PyData.plainAll ds = true ∧ d.plain = true ∧ PyData.depthAll ds ≤ 60 ∧ Q (.int ((ds.countP fun z => PyData.eqv z d : Nat) : Int)) H
theorem mt_countD (hu : X.A.units + 65 < cLine) : MtR X "list.count" (rCountD X.K) := by
  intro pins s σ H x xs v us Q I rx rxs ⟨a, y, d, ds, ex, exs, hl, hy, p1, p2, hdp, q⟩
  subst ex exs
  cases rx
  cases rxs with
  | cons ry rt =>
  cases rt
  obtain ⟨bs, r1⟩ := Dp.reads I d y _ hy ry
  cases hl with
  | lst hs ha =>
  obtain ⟨its, rv, pl, hz⟩ := I.list hs
  obtain ⟨as, h4⟩ := Dp.readsAll I ds _ its ha rv
  exact SeqAt.count_list_data (as := as) (bs := bs) pl.isList (by simpa using h4) r1 p1 p2 (by have : min (PyData.depthAll ds) d.depth ≤ PyData.depthAll ds := Nat.min_le_left _ _; omega) ⟨.int _, H, I.kept (t' := s.toks + 1) fun _ _ z => z, ⟨s.toks, rfl⟩, q⟩
theorem jv_countB {bs : List Bool} {b0 : Bool} {ap cp : Pos} (hu : X.A.units + 65 < cLine) (ha : JD X σ a G (.list (bs.map eB))) (hb : JV X σ b G (.bl b0)) (hd : PyData.depthAll (bs.map eB) ≤ 60) (hp : PyData.plainAll (bs.map eB) = true) (ns : NoStar b) (hbase : attributeBase a "count" X.env (eval a X.env) = eval a X.env) (hline : (ap.endLine == cp.line) = true)
    (hfew : ((backTo cp (starEach [b] X.env)).all (fun x => !x.1) && (backToKw cp (keywordEach [] X.env)).all (fun x => x.1.isSome) && decide ([b].length + ([] : List Keyword).length + (if ([] : List Keyword).isEmpty then 0 else 1) < 30)) = true) :
    JV X σ (.Call (.Attribute a "count" ap) [b] [] cp) G (.int (((bs.map eB).countP fun z => PyData.eqv z (eB b0) : Nat) : Int)) := ⟨fun H eh Q q =>
  ⟨_, pe_bm PySem.F.plainAttrs_list PySem.F.slot_list_count PySem.F.type_list_count (mt_countD hu) pe_w (pa_cons pe_w pa_nil (ns _ _)) (hs := ns _ _) (hbase := hbase) (hline := hline) (hfew := hfew), ha H eh _ fun G1 H1 x s1 p1 => by
    have p1' := p1
    cases p1 with
    | lst hl hd1 => exact ⟨.inl ⟨rfl, _, SqL.of (s1.gh _ _ hl)⟩, (hb.mono s1.g) H1 s1.gh _ fun H2 e2 => ⟨_, _, eB b0, bs.map eB, rfl, rfl, (p1'.mono (s1.gh.trans e2)).dp, .bl _, hp, rfl, hd, q H2 (s1.h.trans e2)⟩⟩⟩⟩
theorem jv_indexB {bs : List Bool} {b0 : Bool} {j : Nat} {ap cp : Pos} (hu : X.A.units + 65 < cLine) (ha : JD X σ a G (.list (bs.map eB))) (hb : JV X σ b G (.bl b0)) (hj : bs[j]? = some b0) (hno : ∀ m, m < j → bs[m]? ≠ some b0) (hs : SeqAt.shaped (.list (bs.map eB)) = true) (ns : NoStar b) (hbase : attributeBase a "index" X.env (eval a X.env) = eval a X.env) (hline : (ap.endLine == cp.line) = true)
    (hfew : ((backTo cp (starEach [b] X.env)).all (fun x => !x.1) && (backToKw cp (keywordEach [] X.env)).all (fun x => x.1.isSome) && decide ([b].length + ([] : List Keyword).length + (if ([] : List Keyword).isEmpty then 0 else 1) < 30)) = true) :
    JV X σ (.Call (.Attribute a "index" ap) [b] [] cp) G (.int (j : Nat)) := ⟨fun H eh Q q =>
  ⟨_, pe_bm PySem.F.plainAttrs_list PySem.F.slot_list_index PySem.F.type_list_index (mt_indexD hu) pe_w (pa_cons pe_w pa_nil (ns _ _)) (hs := ns _ _) (hbase := hbase) (hline := hline) (hfew := hfew), ha H eh _ fun G1 H1 x s1 p1 => by
    have p1' := p1
    cases p1 with
    | lst hl hd1 =>
      refine ⟨.inl ⟨rfl, _, SqL.of (s1.gh _ _ hl)⟩, (hb.mono s1.g) H1 s1.gh _ fun H2 e2 => ⟨_, _, eB b0, bs.map eB, j, eB b0, rfl, rfl, (p1'.mono (s1.gh.trans e2)).dp, .bl _, hs, ?_, ?_, ?_, ?_, q H2 (s1.h.trans e2)⟩⟩
      · cases b0 <;> decide
      · rw [List.getElem?_map, hj]; rfl
      · cases b0 <;> decide
      · intro m z hm hz
        rw [List.getElem?_map] at hz
        cases h : bs[m]? with
        | none => rw [h] at hz; cases hz
        | some b1 =>
          rw [h] at hz
          cases hz
          have ne : b1 ≠ b0 := fun e => hno m hm (by rw [h, e])
          cases b1 <;> cases b0 <;> first | exact absurd rfl ne | decide⟩⟩
end
/-! ### which of the five classes it is -/
structure Cl5 (mg : Str → Option Value) (cB cP cN cS cT : Addr) : Prop where
  gB : mg "BadCamp" = some (.ref cB)
  gP : mg "BadPairs" = some (.ref cP)
  gN : mg "NoCamper" = some (.ref cN)
  gS : mg "NoneSteady" = some (.ref cS)
  gT : mg "BadText" = some (.ref cT)
  ve : mg "ValueError" = none
/-- the class D is the one at place i of the five -/
structure Kd (K : PySem.W.Frag) (cB cP cN cS cT D : Addr) (i : Nat) : Prop where
  ek : ExcK K D
  k0 : PySem.W.kitOne K (.ref D) (.ref cB) = some (decide (i = 0))
  k1 : PySem.W.kitOne K (.ref D) (.ref cP) = some (decide (i = 1))
  k2 : PySem.W.kitOne K (.ref D) (.ref cN) = some (decide (i = 2))
  k3 : PySem.W.kitOne K (.ref D) (.ref cS) = some (decide (i = 3))
  k4 : PySem.W.kitOne K (.ref D) (.ref cT) = some (decide (i = 4))
  kv : PySem.W.kitOne K (.ref D) (.type "ValueError") = some true
def kindOf (i : Nat) : Str := ["camp", "pairs", "camper", "none", "wrong"].getD i ""
def DfE (P : Program) (w : World) (K : PySem.W.Frag) (mg : Str → Option Value) (base : Heap) (x : Str) (k : Nat) (sp : Addr × Obj → Sp) : Prop :=
  ∃ f fd ps, FnE P w K mg base k f fd ps sp ∧ mg x = some (.ref f) ∧ PySem.W.keepIn K (.ref f) = true ∧ Binds K fd ps []
def spSort (K : PySem.W.Frag) (cB cP cN cS cT : Addr) : Addr × Obj → Sp := fun p vs H Q _ =>
  ∃ D i n d, vs = [.ref p.1] ∧ i < 5 ∧ Kd K cB cP cN cS cT D i ∧ Zc (.ref D) d p.2 ∧ (∃ vs, p.2.data = .fields vs) ∧ Dct n H d ∧ ∀ H', Ex H H' → Q (.str (kindOf i)) H'
theorem boot_ve : bootBuiltins "ValueError" = some (.type "ValueError") := by decide +kernel
section
variable {P : Program} {w : World} {K : PySem.W.Frag} {mg : Str → Option Value} {base : Heap} {C cB cP cN cS cT : Addr}
theorem ok_sort {f : Addr} {fd : FuncData} (F : Fun K "_law_sort" "_law_sort" s_L_sort f fd) (T : Tx K mg C) (U : Cl5 mg cB cP cN cS cT) : FnE P w K mg base 1 f fd ["_law_error"] (spSort K cB cP cN cS cT) := by
  refine fun_okE F sc_L_sort (fun p vs H Q E ⟨_, _, _, _, e, _⟩ => by rw [e]; rfl) ?_
  rintro cdv p A outer s H vs Q hr ⟨D, i, n, d, rfl, hi, kd, hz, hv, hd, k⟩
  have nd := sc_L_sort.nd
  have hp : (p.1, p.2) ∈ (L2H.cxH CX0 P w K mg base n_L_sort "_law_sort" (defScope s_L_sort) f cdv A outer s H (fun _ _ _ => False) p).pn := List.mem_cons_self
  have hu : (L2H.cxH CX0 P w K mg base n_L_sort "_law_sort" (defScope s_L_sort) f cdv A outer s H (fun _ _ _ => False) p).A.units + 65 < cLine := by have := hr.un; show (A.deeper _).units + 65 < _; omega
  have h0 : Hs H H H H [] := .nil (Ex.refl H)
  refine b_setD (n := 1) (d := .list ([decide (i = 0), decide (i = 1), decide (i = 2)].map eB)) h0 (jd_list (jad_cons (JV.toD (v := .bl _) (jv_isX kd.ek hp hz hv hd T.isi U.gB (by walk_at "var") kd.k0 rfl rfl (by walk_at "ns") (by decide)) (.bl _)) (jad_cons (JV.toD (v := .bl _) (jv_isX kd.ek hp hz hv hd T.isi U.gP (by walk_at "var") kd.k1 rfl rfl (by walk_at "ns") (by decide)) (.bl _)) (jad_cons (JV.toD (v := .bl _) (jv_isX kd.ek hp hz hv hd T.isi U.gN (by walk_at "var") kd.k2 rfl rfl (by walk_at "ns") (by decide)) (.bl _)) jad_nil (by walk_at "ns")) (by walk_at "ns")) (by walk_at "ns")) (Nat.le_of_ble_eq_true rfl)) nd rfl (by walk_at "loc") rfl (Or.inl rfl) (fun G1 H1 v1 h1 e1 d1 => ?_)
  have hd1 := Dct.mono e1 hd
  refine b_setD (n := 1) (d := .list ([decide (i = 0), decide (i = 1), decide (i = 2), decide (i = 3), decide (i = 4)].map eB)) h1 (JN.toD (jn_cat (ds := [decide (i = 0), decide (i = 1), decide (i = 2)].map eB) (ds2 := [decide (i = 3), decide (i = 4)].map eB) (by walk_at "jd") (jd_list (jad_cons (JV.toD (v := .bl _) (jv_isX kd.ek hp hz hv hd1 T.isi U.gS (by walk_at "var") kd.k3 rfl rfl (by walk_at "ns") (by decide)) (.bl _)) (jad_cons (JV.toD (v := .bl _) (jv_isX kd.ek hp hz hv hd1 T.isi U.gT (by walk_at "var") kd.k4 rfl rfl (by walk_at "ns") (by decide)) (.bl _)) jad_nil (by walk_at "ns")) (by walk_at "ns")) (Nat.le_of_ble_eq_true rfl)) (Nat.le_of_ble_eq_true rfl))) nd rfl (by walk_at "loc") rfl (Or.inl rfl) (fun G2 H2 v2 h2 e2 d2 => ?_)
  have hd2 := Dct.mono e2 hd1
  have hcase : i = 0 ∨ i = 1 ∨ i = 2 ∨ i = 3 ∨ i = 4 := by omega
  have hcnt : (([decide (i = 0), decide (i = 1), decide (i = 2), decide (i = 3), decide (i = 4)].map eB).countP fun z => PyData.eqv z (eB true)) = 1 := by
    rcases hcase with rfl | rfl | rfl | rfl | rfl <;> decide
  refine b_if (p := false) h2 (JT.is (jt_w (jw_or (jt_cmp (jo_neI (jv_countB (bs := [decide (i = 0), decide (i = 1), decide (i = 2), decide (i = 3), decide (i = 4)]) (b0 := true) hu (by walk_at "jd") jv_bl (by rcases hcase with rfl | rfl | rfl | rfl | rfl <;> decide) (by rcases hcase with rfl | rfl | rfl | rfl | rfl <;> decide) (by walk_at "ns") rfl rfl rfl) jv_int) rfl) (fun _ => jw_one_or (jt_not (jt_val (jv_isXT boot_ve kd.ek hp hz hv hd2 T.isi U.ve (by walk_at "var") kd.kv rfl rfl (by walk_at "ns") (by decide) (by decide)) (fun _ => rfl)))))) (by rw [hcnt]; rfl)) (fun e => by cases e) (fun _ H3 h3 => b_nil ?_)
  refine b_retD h3 (d := .str (kindOf i)) (jd_ix (ds := [.str "camp", .str "pairs", .str "camper", .str "none", .str "wrong"]) (i := (i : Int)) (by walk_at "jd") (jv_indexB (bs := [decide (i = 0), decide (i = 1), decide (i = 2), decide (i = 3), decide (i = 4)]) (b0 := true) (j := i) hu (by walk_at "jd") jv_bl ?_ ?_ (by rcases hcase with rfl | rfl | rfl | rfl | rfl <;> decide) (by walk_at "ns") rfl rfl rfl) (atI_nat ?_) (fun _ _ => rfl)) (fun G' H' v h' hd => by cases hd; exact k H' h'.st.h)
  · rcases hcase with rfl | rfl | rfl | rfl | rfl <;> decide
  · intro m hm
    rcases hcase with rfl | rfl | rfl | rfl | rfl <;> revert m <;> decide
  · rcases hcase with rfl | rfl | rfl | rfl | rfl <;> rfl
end
end TP

set_option Elab.async false
set_option linter.all false
set_option maxRecDepth 100000
set_option maxHeartbeats 4000000
namespace TP
open PySem PySem.Spec PyProof.Rows L2
open Evl (Ex)
-- tactics of this text: what an expression is worth (jv jd jt jo jw), growth (ex), what remains (side); call, calld: what the text adds
local macro_rules | `(tactic| walk_at "ex") => `(tactic| first | exact Ex.refl _ | assumption | (refine' Ex.trans ?_ (by assumption); walk_at "ex"))
local macro_rules | `(tactic| walk_at "vis") => `(tactic| first
  | exact Or.inl rfl
  | exact Or.inr (Or.inl rfl)
  | exact Or.inr (Or.inr rfl))
local macro_rules | `(tactic| walk_at "loc") => `(tactic| first
  | exact Or.inl rfl
  | exact Or.inr rfl)
local macro_rules | `(tactic| walk_at "side") => `(tactic| first
  | assumption
  | omega
  | decide
  | exact rfl
  | (simp_all; done)
  | (simp_all; omega))
local macro_rules | `(tactic| walk_at "hu") => `(tactic| first
  | exact room65 (by assumption)
  | exact Room.units (by assumption))
local macro_rules | `(tactic| walk_at "dp") => `(tactic| first | assumption | (refine' Dx.mono ?_ (by assumption); walk_at "ex"))
local macro_rules | `(tactic| walk_at "var") => `(tactic| first
  | (apply jv_var 0; exact rfl; exact rfl; walk_at "vis"; decide; decide)
  | (apply jv_var 1; exact rfl; exact rfl; walk_at "vis"; decide; decide)
  | (apply jv_var 2; exact rfl; exact rfl; walk_at "vis"; decide; decide)
  | (apply jv_var 3; exact rfl; exact rfl; walk_at "vis"; decide; decide)
  | (apply jv_var 4; exact rfl; exact rfl; walk_at "vis"; decide; decide)
  | (apply jv_var 5; exact rfl; exact rfl; walk_at "vis"; decide; decide)
  | (apply jv_var 6; exact rfl; exact rfl; walk_at "vis"; decide; decide)
  | (apply jv_var 7; exact rfl; exact rfl; walk_at "vis"; decide; decide)
  | (apply jv_var 8; exact rfl; exact rfl; walk_at "vis"; decide; decide)
  | (apply jv_var 9; exact rfl; exact rfl; walk_at "vis"; decide; decide)
  | (apply jv_var 10; exact rfl; exact rfl; walk_at "vis"; decide; decide)
  | (apply jv_var 11; exact rfl; exact rfl; walk_at "vis"; decide; decide)
  | (apply jv_var 12; exact rfl; exact rfl; walk_at "vis"; decide; decide)
  | (apply jv_var 13; exact rfl; exact rfl; walk_at "vis"; decide; decide)
  | (apply jv_var 14; exact rfl; exact rfl; walk_at "vis"; decide; decide)
  | (apply jv_var 15; exact rfl; exact rfl; walk_at "vis"; decide; decide)
  | (apply jv_var 16; exact rfl; exact rfl; walk_at "vis"; decide; decide)
  | (apply jv_var 17; exact rfl; exact rfl; walk_at "vis"; decide; decide)
  | (apply jv_var 18; exact rfl; exact rfl; walk_at "vis"; decide; decide)
  | (apply jv_var 19; exact rfl; exact rfl; walk_at "vis"; decide; decide))
local macro_rules | `(tactic| walk_at "bm") => `(tactic| first
  | assumption)
local macro_rules | `(tactic| walk_at "call") => `(tactic| first
  | fail "call")
local macro_rules | `(tactic| walk_at "calld") => `(tactic| first
  | fail "calld")
local macro_rules | `(tactic| walk_at "kit") => `(tactic| first
  | assumption
  | exact kit_ii
  | exact kit_ib
  | exact kit_bi
  | exact kit_bb
  | exact kit_li
  | exact kit_ll
  | exact kit_tt
  | exact kit_tl
  | exact kit_lt
  | exact kit_tb)
local macro_rules | `(tactic| walk_at "ns") => `(tactic| first
  | exact fun _ _ => rfl)
local macro_rules | `(tactic| walk_at "jv") => `(tactic| first
  | exact jv_int
  | exact jv_bl
  | exact jv_non
  | exact jv_str
  | walk_at "var"
  | (apply jv_add; walk_at "jv"; walk_at "jv")
  | (apply jv_sub; walk_at "jv"; walk_at "jv")
  | (apply jv_neg; walk_at "jv")
  | (apply jv_mul; walk_at "jv"; walk_at "jv"; walk_at "mulok")
  | (apply jv_fdiv; walk_at "jv"; walk_at "jv"; walk_at "divok")
  | (apply jv_mod; walk_at "jv"; walk_at "jv"; walk_at "side")
  | (apply jv_band; walk_at "jv"; walk_at "jv")
  | (apply jv_cmp; walk_at "jo"; (first | exact rfl | exact nomark _))
  | (apply jv_chain op_le op_le; walk_at "jv"; walk_at "jv"; walk_at "jv"; with_unfolding_all rfl)
  | (apply jv_chain op_le op_lt; walk_at "jv"; walk_at "jv"; walk_at "jv"; with_unfolding_all rfl)
  | (apply jv_and; walk_at "jv"; intro hand; walk_at "jv")
  | (apply jv_or; walk_at "jv"; intro hor; walk_at "jv")
  | (apply jv_not; walk_at "jv")
  | (apply jv_one; walk_at "jv")
  | (apply jv_lenM; walk_at "bm"; walk_at "jd"; exact rfl; walk_at "ns")
  | (apply jv_len; walk_at "bm"; walk_at "jd"; exact rfl; walk_at "ns")
  | (apply jv_all; exact rfl; walk_at "bm"; walk_at "jd"; exact rfl; decide +kernel; walk_at "ns")
  | (apply jv_any; exact rfl; walk_at "bm"; walk_at "jd"; exact rfl; decide +kernel; walk_at "ns")
  | (apply jv_lenT; walk_at "bm"; walk_at "jd"; exact rfl; walk_at "ns")
  | walk_at "call"
  | (apply jv_isi; (first | exact boot_tint | exact boot_tbool | exact boot_tlist | exact boot_ttuple); walk_at "bm"; walk_at "bm"; walk_at "jd"; walk_at "kit"; exact rfl; exact rfl; exact boot_isi; walk_at "ns"; decide; decide)
  | (apply jv_lenSet; exact rfl; walk_at "bm"; walk_at "bm"; walk_at "jd"; walk_at "side"; exact rfl; exact rfl; walk_at "ns")
  | (apply jv_ifE; walk_at "jt"; intro hif; walk_at "jv"; intro hif; walk_at "jv")
  | (apply JD.toI; walk_at "jx")
  | (apply JD.toB; walk_at "jx")
  | (apply JD.toS; walk_at "jx"))
local macro_rules | `(tactic| walk_at "mulok") => `(tactic| first
  | exact Or.inr ⟨by decide, by decide⟩
  | exact Or.inl ⟨by decide, by decide⟩
  | exact Or.inl ⟨by omega, by omega⟩
  | exact Or.inr ⟨by omega, by omega⟩)
local macro_rules | `(tactic| walk_at "divok") => `(tactic| first
  | exact ⟨by decide, by decide⟩
  | exact ⟨by omega, by omega⟩)
local macro_rules | `(tactic| walk_at "jx") => `(tactic| first
  | (apply jd_ixN; walk_at "jd"; walk_at "jv"; exact fun _ _ => rfl; walk_at "side")
  | (apply jd_ixNs; walk_at "jd"; walk_at "jv"; exact fun _ _ => rfl; walk_at "side")
  | (apply jd_ixP; walk_at "jd"; walk_at "jv"; exact fun _ _ => rfl; walk_at "side")
  | (apply jd_ixPs; walk_at "jd"; walk_at "jv"; exact fun _ _ => rfl; walk_at "side")
  | (apply jd_ixI; walk_at "jd"; walk_at "jv"; exact fun _ _ => rfl; walk_at "side")
  | (apply jd_ixP1; walk_at "jd")
  | (apply jd_ixP2; walk_at "jd")
  | walk_at "calld")
local macro_rules | `(tactic| walk_at "jd") => `(tactic| first
  | (apply JV.toD; walk_at "var"; walk_at "dp")
  | walk_at "jx"
  | (apply jd_list; walk_at "jad"; exact Nat.le_of_ble_eq_true rfl)
  | (apply jd_tuple; walk_at "jad"; exact Nat.le_of_ble_eq_true rfl)
  | (apply jd_listOf; walk_at "bm"; walk_at "jd"; exact rfl; exact boot_tlist; walk_at "ns")
  | (apply JV.toD (v := V.int _); walk_at "jv"; exact Dx.int _)
  | (apply JV.toD (v := V.bl _); walk_at "jv"; exact Dx.bl _)
  | (apply JV.toD (v := V.str _); walk_at "jv"; exact Dx.str _)
  | (apply jd_ifE; walk_at "jt"; intro hif; walk_at "jd"; intro hif; walk_at "jd"))
local macro_rules | `(tactic| walk_at "jad") => `(tactic| first
  | exact jad_nil
  | (apply jad_cons; walk_at "jd"; walk_at "jad"; walk_at "ns"))
local macro_rules | `(tactic| walk_at "jo") => `(tactic| first
  | (apply jo_isN; walk_at "jv")
  | (apply jo_notN; walk_at "jv")
  | (apply jo_eqI; walk_at "jv"; walk_at "jv")
  | (apply jo_neI; walk_at "jv"; walk_at "jv")
  | (apply jo_lt; walk_at "jv"; walk_at "jv")
  | (apply jo_le; walk_at "jv"; walk_at "jv")
  | (apply jo_gt; walk_at "jv"; walk_at "jv")
  | (apply jo_ge; walk_at "jv"; walk_at "jv")
  | (apply jo_inN; walk_at "hu"; walk_at "jv"; walk_at "jd")
  | (apply jo_niN; walk_at "hu"; walk_at "jv"; walk_at "jd")
  | (apply jo_eqD; walk_at "hu"; walk_at "jd"; walk_at "jd"; walk_at "shp"; walk_at "shp")
  | (apply jo_neD; walk_at "hu"; walk_at "jd"; walk_at "jd"; walk_at "shp"; walk_at "shp"))
local macro_rules | `(tactic| walk_at "shp") => `(tactic| first
  | assumption
  | exact Shp.shaped eLL _
  | exact Shp.shaped ePs _
  | exact Shp.shaped eNs _
  | exact Shp.shaped ePss _
  | exact Shp.shaped eP _
  | exact Shp.shaped eN _
  | exact Shp.shaped eI _
  | decide)
local macro_rules | `(tactic| walk_at "jw") => `(tactic| first
  | (apply jw_one_and; walk_at "jt")
  | (apply jw_one_or; walk_at "jt")
  | (apply jw_and; walk_at "jt"; intro hand; walk_at "jw")
  | (apply jw_or; walk_at "jt"; intro hor; walk_at "jw"))
local macro_rules | `(tactic| walk_at "jt") => `(tactic| first
  | (apply jt_w; walk_at "jw")
  | (apply jt_cmp; walk_at "jo"; (first | exact rfl | exact nomark _))
  | (apply jt_not; walk_at "jt")
  | (apply jt_val; walk_at "jv"; exact fun _ => rfl)
  | (apply jt_chain op_le op_le; walk_at "jv"; walk_at "jv"; walk_at "jv"; with_unfolding_all rfl))
local macro_rules | `(tactic| walk_at "camp") => `(tactic| first | assumption | (refine' CampAt.mono ?_ (by assumption); walk_at "ex"))
local macro_rules | `(tactic| walk_at "calld") => `(tactic| first
  | (apply jd_told; assumption; walk_at "var"; walk_at "camp"; exact rfl)
  | walk_at "calld2")
local macro_rules | `(tactic| walk_at "calld2") => `(tactic| first
  | fail "calld2")
local macro_rules | `(tactic| walk_at "room") => `(tactic| first
  | assumption
  | exact Room.mono (by assumption) (by decide))
local macro_rules | `(tactic| walk_at "bm") => `(tactic| first
  | assumption
  | exact Tx.len (by assumption)
  | exact Tx.range (by assumption)
  | exact Tx.list (by assumption)
  | exact Tx.all (by assumption)
  | exact Tx.any (by assumption)
  | exact Tx.isi (by assumption)
  | exact Tx.int (by assumption)
  | exact Tx.bool (by assumption)
  | exact Tx.set (by assumption)
  | exact Tx.tup (by assumption))
local macro_rules | `(tactic| walk_at "call") => `(tactic| first
  | (apply jv_size; assumption; walk_at "var"; walk_at "camp"; exact rfl)
  | (apply jv_index; walk_at "hu"; walk_at "jd"; walk_at "jv"; walk_at "side"; walk_at "ns"; exact rfl; exact rfl; exact rfl)
  | (apply jv_would; assumption; assumption; walk_at "room"; walk_at "var"; walk_at "camp"; walk_at "jv"; walk_at "jv"; walk_at "side"; walk_at "side"; walk_at "ns"; walk_at "ns"; exact rfl; exact rfl)
  | walk_at "call2")
local macro_rules | `(tactic| walk_at "call2") => `(tactic| first
  | fail "call2")
local macro_rules | `(tactic| walk_at "call2") => `(tactic| first
  | (apply jv_rather; assumption; assumption; walk_at "room"; walk_at "var"; walk_at "camp"; walk_at "jv"; walk_at "jv"; walk_at "jv"; walk_at "side"; walk_at "side"; walk_at "ns"; walk_at "ns"; walk_at "ns"; exact rfl; exact rfl)
  | walk_at "call4")
local macro_rules | `(tactic| walk_at "call4") => `(tactic| first
  | fail "call4")
local macro_rules | `(tactic| walk_at "calld2") => `(tactic| first
  | (apply jd_open; assumption; walk_at "room"; walk_at "var"; walk_at "camp"; walk_at "side"; exact rfl; walk_at "ns"; exact rfl)
  | walk_at "calld4")
local macro_rules | `(tactic| walk_at "calld4") => `(tactic| first
  | fail "calld4")
def camp1 : List (List Nat) := [[1, 2], [0], [0], [1]]
def camp2 : List (List Nat) := [[1], [0], []]
def camp3 : List (List Nat) := [[1, 2], [2, 0], [0, 1]]
def camp4 : List (List Nat) := [[], []]
theorem valid_of {L : List (List Nat)} (h : (decide (1 ≤ L.length) && decide (L.length ≤ 6) && (List.range L.length).all fun i => (L.getD i []).all (fun x => decide (x < L.length)) && decide (L.getD i []).Nodup && !decide (i ∈ L.getD i [])) = true) : ValidL L := by
  simp only [Bool.and_eq_true, decide_eq_true_eq, List.all_eq_true, List.mem_range, Bool.not_eq_true', decide_eq_false_iff_not] at h
  obtain ⟨⟨h1, h2⟩, h3⟩ := h
  exact ⟨h1, h2, fun i hi x hx => (h3 i hi).1.1 x hx, fun i hi => (h3 i hi).1.2, fun i hi => (h3 i hi).2⟩
theorem valid1 : ValidL camp1 := valid_of (by decide)
theorem valid2 : ValidL camp2 := valid_of (by decide)
theorem valid3 : ValidL camp3 := valid_of (by decide)
theorem valid4 : ValidL camp4 := valid_of (by decide)
/-- a door asked with what it refuses: by the class at place i -/
def AskOk (m : Nat) (d : PyData) (i : Nat) : Prop :=
  (m = 0 ∧ (badCamp d = true ∧ fewCamp d) ∧ i = 0) ∨ (m = 1 ∧ (badPairs camp1 d = true ∧ fewPairs d) ∧ i = 1) ∨ (m = 4 ∧ (badPairs camp4 d = true ∧ fewPairs d) ∧ i = 1) ∨
  (m = 2 ∧ withinD d 0 ((camp2.length : Int) - 1) = false ∧ i = 2) ∨ (m = 3 ∧ withinD d 0 ((camp3.length : Int) - 1) = false ∧ i = 2) ∨ (m = 3 ∧ d = .int 0 ∧ i = 3)
structure Ux (P : Program) (w : World) (K : PySem.W.Frag) (mg : Str → Option Value) (base : Heap) (C B cB cP cN cS cT : Addr) : Prop where
  cl5 : Cl5 mg cB cP cN cS cT
  camp : Mkr P w K mg base C 2 (spCamp C)
  campR : MkrX P w K mg base C 2 (spCampR C cB)
  brR : DfX P w K mg base "breaking" 3 (spBreakR K C cP)
  matesN : DfX P w K mg base "mates" 3 (spMatesN K C cN)
  matesS : DfX P w K mg base "mates" 7 (spMatesS K C cS)
  sort : DfE P w K mg base "_law_sort" 1 (spSort K cB cP cN cS cT)
  ce : mg "CampError" = some (.ref B)
  xB : PySem.W.exmOne K (.ref cB) (.ref B) = some true
  xP : PySem.W.exmOne K (.ref cP) (.ref B) = some true
  xN : PySem.W.exmOne K (.ref cN) (.ref B) = some true
  xS : PySem.W.exmOne K (.ref cS) (.ref B) = some true
  kB : Kd K cB cP cN cS cT cB 0
  kP : Kd K cB cP cN cS cT cP 1
  kN : Kd K cB cP cN cS cT cN 2
  kS : Kd K cB cP cN cS cT cS 3
theorem none3 : allSteady camp3 = [] := List.filter_eq_nil_iff.mpr (by
  have h : ∀ s ∈ pairings camp3, noBlock camp3 (openPairs camp3) (matesOf camp3.length s) = false := by
    intro s hs
    have h2 : s ∈ pairU camp3 := mem_pairings.mp hs
    clear hs
    revert s
    decide
  intro s hs
  rw [h s hs]
  exact Bool.false_ne_true)
section
variable {P : Program} {w : World} {K : PySem.W.Frag} {mg : Str → Option Value} {base : Heap} {C B cB cP cN cS cT : Addr}
abbrev spAsked : Sp := spOf (fun i : Nat × PyData × Nat => AskOk i.1 i.2.1 i.2.2) (fun i => [kI (i.1 : Int), kD i.2.1]) (fun i => kV (.str (kindOf i.2.2)))
theorem ok_asked {f : Addr} {fd : FuncData} (F : Fun K "_law_asked" "_law_asked" s_L_asked f fd) (T : Tx K mg C) (U : Ux P w K mg base C B cB cP cN cS cT) : FnOk P w K mg base CX0 8 f fd ["_law_door", "_law_thing"] spAsked := by
  refine fun_ok F sc_L_asked (fun _ => rfl) ?_
  rintro cdv A outer s H vs Q E ⟨m, d, i⟩ G hr hp al h k
  obtain ⟨_, tv, rfl, rfl, hd⟩ := al.two
  try dsimp only at hp hd k ⊢
  have nd := sc_L_asked.nd
  refine b_tryAs (i := 2) rfl rfl nd rfl rfl ⟨rfl, by decide, .inl U.ce⟩ takes0 (fun pn xe tk hpo => ?_)
  have fin : ∀ {D j n d' σ H'}, Kd K cB cP cN cS cT D j → j < 5 → i = j → PySem.W.exmOne K (.ref D) (.ref B) = some true → Dct n H' d' → Ex H H' → σ.length = 3 →
      wAs K (.ref B) 2 (tSuite (cxOf CX0 P w K mg base n_L_asked "_law_asked" (defScope s_L_asked) f cdv A outer s H E).nox ((match (defBody s_L_asked).headD (.Pass ⟨0, 0, 0, 0⟩) with | .Try _ [.ExceptHandler _ _ b _] _ _ _ => b | _ => []))) (fun _ _ _ _ => False)
        { nx := wSs (cxOf CX0 P w K mg base n_L_asked "_law_asked" (defScope s_L_asked) f cdv A outer s H E).nox ((defBody s_L_asked).tail) { nx := fun _ H' => Q .non H', rt := Q }, rt := Q } (.ref D) d' σ H' := by
    intro D j n d' σ H' kd hj ei hx hdc e hl
    refine ⟨true, hx, fun _ a na => ?_, fun q => nomatch q⟩
    intro oe pn hz hv
    obtain ⟨f2, fd2, ps2, hf2, hm2, hk2, hb2⟩ := U.sort
    refine b_cons ⟨_, ps_ret pe_w, we_callE (p := (a, oe)) (G := H') (v := .ref a) hf2 (L2H.RoomH.mono (k := 7) ⟨hr.dp, hr.un⟩ (by decide)) List.mem_cons_self rfl hm2 hk2 hb2 (jv_var 2 ?_ rfl (by walk_at "vis") (by decide) (by decide)) (Ex.refl _) (by decide) (by walk_at "ns") rfl fun H2 e2 => ⟨D, j, n, d', rfl, hj, kd, hz, hv, hdc.mono e2, fun H3 e3 => ?_⟩⟩
    · rw [List.getElem?_set_self (by omega)]
    · subst ei
      exact k G H3 _ [] ((Hs.nil h.ex).flat ((e.trans e2).trans e3)) rfl
  rcases hp with ⟨rfl, hb, rfl⟩ | ⟨rfl, hb, rfl⟩ | ⟨rfl, hb, rfl⟩ | ⟨rfl, hb, rfl⟩ | ⟨rfl, hb, rfl⟩ | ⟨rfl, rfl, rfl⟩
  · refine b_if (p := true) h (JT.is (p := decide (((0 : Nat) : Int) = 0)) (by walk_at "jt") rfl) (fun _ H1 h1 => ?_) (fun e => by cases e)
    exact b_exprW rfl (we_makeR tk U.campR (hr.mono (by decide)) rfl T.mgC d hb (jal_cons (JD.toP (d := d) (by walk_at "jd")) mo_D (fun _ _ => jal_nil) (by walk_at "ns")) (by walk_at "ns") (by decide) rfl h1.ex (fun H' d' e z σ hl => fin U.kB (by decide) rfl U.xB z (h1.st.h.trans e) hl))
  · refine b_if (p := false) h (JT.is (p := decide (((1 : Nat) : Int) = 0)) (by walk_at "jt") rfl) (fun e => by cases e) (fun _ H1 h1 => b_if (p := true) h1 (JT.is (p := decide (((1 : Nat) : Int) = 1)) (by walk_at "jt") rfl) (fun _ H2 h2 => ?_) (fun e => by cases e))
    exact b_exprW rfl (we_callR tk U.brR (hr.mono (by decide)) rfl (camp1, d) ⟨valid1.six, hb.1, hb.2⟩ (jal_cons (JPF.toP mo_Camp (jf_camp (L := camp1) T U.camp (hr.mono (by decide)) (JD.is (d1 := eLL camp1) (by walk_at "jd") rfl) valid1 rfl (by walk_at "ns") rfl)) mo_Camp (fun _ e => jal_cons (JD.toP (d := d) (by walk_at "jd")) mo_D (fun _ _ => jal_nil) (by walk_at "ns")) (by walk_at "ns")) (by walk_at "ns") (by decide) rfl h2.ex (fun H' d' e z σ hl => fin U.kP (by decide) rfl U.xP z (h2.st.h.trans e) hl))
  · refine b_if (p := false) h (JT.is (p := decide (((4 : Nat) : Int) = 0)) (by walk_at "jt") rfl) (fun e => by cases e) (fun _ H1 h1 => b_if (p := false) h1 (JT.is (p := decide (((4 : Nat) : Int) = 1)) (by walk_at "jt") rfl) (fun e => by cases e) (fun _ H2 h2 => b_if (p := false) h2 (JT.is (p := decide (((4 : Nat) : Int) = 2)) (by walk_at "jt") rfl) (fun e => by cases e) (fun _ H3 h3 => b_if (p := true) h3 (JT.is (p := decide (((4 : Nat) : Int) = 4)) (by walk_at "jt") rfl) (fun _ H4 h4 => ?_) (fun e => by cases e))))
    exact b_exprW rfl (we_callR tk U.brR (hr.mono (by decide)) rfl (camp4, d) ⟨valid4.six, hb.1, hb.2⟩ (jal_cons (JPF.toP mo_Camp (jf_camp (L := camp4) T U.camp (hr.mono (by decide)) (JD.is (d1 := eLL camp4) (by walk_at "jd") rfl) valid4 rfl (by walk_at "ns") rfl)) mo_Camp (fun _ e => jal_cons (JD.toP (d := d) (by walk_at "jd")) mo_D (fun _ _ => jal_nil) (by walk_at "ns")) (by walk_at "ns")) (by walk_at "ns") (by decide) rfl h4.ex (fun H' d' e z σ hl => fin U.kP (by decide) rfl U.xP z (h4.st.h.trans e) hl))
  · refine b_if (p := false) h (JT.is (p := decide (((2 : Nat) : Int) = 0)) (by walk_at "jt") rfl) (fun e => by cases e) (fun _ H1 h1 => b_if (p := false) h1 (JT.is (p := decide (((2 : Nat) : Int) = 1)) (by walk_at "jt") rfl) (fun e => by cases e) (fun _ H2 h2 => b_if (p := true) h2 (JT.is (p := decide (((2 : Nat) : Int) = 2)) (by walk_at "jt") rfl) (fun _ H3 h3 => ?_) (fun e => by cases e)))
    exact b_exprW rfl (we_callR tk U.matesN (hr.mono (by decide)) rfl (camp2, d) hb (jal_cons (JPF.toP mo_Camp (jf_camp (L := camp2) T U.camp (hr.mono (by decide)) (JD.is (d1 := eLL camp2) (by walk_at "jd") rfl) valid2 rfl (by walk_at "ns") rfl)) mo_Camp (fun _ e => jal_cons (JD.toP (d := d) (by walk_at "jd")) mo_D (fun _ _ => jal_nil) (by walk_at "ns")) (by walk_at "ns")) (by walk_at "ns") (by decide) rfl h3.ex (fun H' d' e z σ hl => fin U.kN (by decide) rfl U.xN z (h3.st.h.trans e) hl))
  · refine b_if (p := false) h (JT.is (p := decide (((3 : Nat) : Int) = 0)) (by walk_at "jt") rfl) (fun e => by cases e) (fun _ H1 h1 => b_if (p := false) h1 (JT.is (p := decide (((3 : Nat) : Int) = 1)) (by walk_at "jt") rfl) (fun e => by cases e) (fun _ H2 h2 => b_if (p := false) h2 (JT.is (p := decide (((3 : Nat) : Int) = 2)) (by walk_at "jt") rfl) (fun e => by cases e) (fun _ H3 h3 => b_if (p := false) h3 (JT.is (p := decide (((3 : Nat) : Int) = 4)) (by walk_at "jt") rfl) (fun e => by cases e) (fun _ H4 h4 => ?_))))
    exact b_exprW rfl (we_callR tk U.matesN (hr.mono (by decide)) rfl (camp3, d) hb (jal_cons (JPF.toP mo_Camp (jf_camp (L := camp3) T U.camp (hr.mono (by decide)) (JD.is (d1 := eLL camp3) (by walk_at "jd") rfl) valid3 rfl (by walk_at "ns") rfl)) mo_Camp (fun _ e => jal_cons (JD.toP (d := d) (by walk_at "jd")) mo_D (fun _ _ => jal_nil) (by walk_at "ns")) (by walk_at "ns")) (by walk_at "ns") (by decide) rfl h4.ex (fun H' d' e z σ hl => fin U.kN (by decide) rfl U.xN z (h4.st.h.trans e) hl))
  · refine b_if (p := false) h (JT.is (p := decide (((3 : Nat) : Int) = 0)) (by walk_at "jt") rfl) (fun e => by cases e) (fun _ H1 h1 => b_if (p := false) h1 (JT.is (p := decide (((3 : Nat) : Int) = 1)) (by walk_at "jt") rfl) (fun e => by cases e) (fun _ H2 h2 => b_if (p := false) h2 (JT.is (p := decide (((3 : Nat) : Int) = 2)) (by walk_at "jt") rfl) (fun e => by cases e) (fun _ H3 h3 => b_if (p := false) h3 (JT.is (p := decide (((3 : Nat) : Int) = 4)) (by walk_at "jt") rfl) (fun e => by cases e) (fun _ H4 h4 => ?_))))
    cases hd
    exact b_exprW rfl (we_callR tk U.matesS (hr.mono (by decide)) rfl (camp3, 0) ⟨by decide, valid3, none3⟩ (jal_cons (JPF.toP mo_Camp (jf_camp (L := camp3) T U.camp (hr.mono (by decide)) (JD.is (d1 := eLL camp3) (by walk_at "jd") rfl) valid3 rfl (by walk_at "ns") rfl)) mo_Camp (fun _ e => jal_cons (JV.toPV (v := .int ((0 : Nat) : Int)) (by walk_at "var")) mo_V (fun _ _ => jal_nil) (by walk_at "ns")) (by walk_at "ns")) (by walk_at "ns") (by decide) rfl h4.ex (fun H' d' e z σ hl => fin U.kS (by decide) rfl U.xS z (h4.st.h.trans e) hl))
end
end TP

set_option Elab.async false
set_option linter.all false
set_option maxRecDepth 100000
set_option maxHeartbeats 4000000
namespace TP
open PySem PySem.Spec PyProof.Rows L2
open Evl (Ex)
/-! ### what law 7 hands to the doors -/
abbrev iL (l : List Int) : PyData := .list (l.map .int)
abbrev iT (l : List Int) : PyData := .tuple (l.map .int)
def bad0 (m : Int) : List PyData := [.none, .list [], .tuple [iL [1], iL [0]], .str "01", .int 2, iL [1, 0], .list [iL [1], iT [0]], .list [iL [1], .none], .list [iL [2 + m], iL [0]], .list [iL [2], iL [0]]]
def bad1 (m : Int) : List PyData := [.list [iL [-1 - m], iL [0]], .list [.list [.bool true], iL [0]], .list [.list [.str "1"], iL [0]], .list [iL [0], iL [0]], .list [iL [1, 1], iL [0]], .list [iL [1], iL [1]], .list (List.replicate 7 [iL []]).flatten]
def bad2 : List PyData := [.list [iL [1, 2, 1], iL [0], iL [0]], .list [iL [1, 2], iL [0]], .list [iL [1], iL [0], iL [0, 1, 2]], .list [.list [iL [1]], iL [0]]]
def bad3 (m : Int) : List PyData := [.list [iL [1], iL [0], iL [0, 3 + m]]]
def bad4 : List PyData := [.list [.list [.none], iL [0]]]
def pr0 (m : Int) : List PyData := [.none, .tuple [iT [0, 1]], .str "01", .int 1, iL [1], .list [iT [0]], .list [iT [0, 1, 2]], .list [iL [0, 1]], .list [iT [0, 4 + m]], .list [iT [-1 - m, 1]]]
def pr1 : List PyData := [.list [.tuple [.int 0, .bool true]], .list [.tuple [.str "0", .int 1]], .list [iT [1, 3]], .list [iT [1, 2]], .list [iT [0, 1], iT [2, 0]], .list [iT [0, 1], iT [1, 0]], .list [iT [0, 0]]]
def pr2 : List PyData := [.list [iT [3, 1]], .list [iT [0, 1], iT [0, 2]], .list [iT [0, 1], iT [0, 1]], .list [iT [1, 0], iT [2, 0]], .list [.tuple [iL [0], .int 1]], .list [iT [0, 1], iT [2]]]
def pr3 (m : Int) : List PyData := [.list [iT [0, 1], iT [2, 4 + m]], .list [iT [0, 1], .none], .list [iT [0, 1], iT [2, 3]]]
def at0 (m : Int) : List PyData := [.int 3, .int (3 + m), .int (-1 - m), .bool true, .str "0", .none]
theorem badRow_of {n c : Nat} {ds : List PyData} {d : PyData} (h : d ∈ ds) (hd : withinD d 0 ((n : Int) - 1) = false) : badRow n c (.list ds) = true := by
  have : allIn n ds = false := Bool.eq_false_iff.mpr fun z => by
    have := List.all_eq_true.mp z d h
    rw [hd] at this
    cases this
  show (!allIn n ds || _ || _) = true
  rw [this]; rfl
theorem badCamp_of {rows : List PyData} (c : Nat) (hc : c < rows.length) (h : badRow rows.length c (rows.getD c .none) = true) : badCamp (.list rows) = true := by
  show (_ || (List.range rows.length).any fun c => badRow rows.length c (rows.getD c .none)) = true
  rw [Bool.or_eq_true]
  exact .inr (List.any_eq_true.mpr ⟨c, List.mem_range.mpr hc, h⟩)
theorem out_hi {n : Nat} {i : Int} (h : (n : Int) ≤ i) : withinD (.int i) 0 ((n : Int) - 1) = false := by
  show (decide (0 ≤ i) && decide (i ≤ (n : Int) - 1)) = false
  rw [decide_eq_false (p := i ≤ (n : Int) - 1) (by omega), Bool.and_false]
theorem out_lo {n : Nat} {i : Int} (h : i < 0) : withinD (.int i) 0 ((n : Int) - 1) = false := by
  show (decide (0 ≤ i) && decide (i ≤ (n : Int) - 1)) = false
  rw [decide_eq_false (p := 0 ≤ i) (by omega), Bool.false_and]
theorem few_of {rows : List PyData} (h : (rows.all fun r => match r with | .list ds => decide (ds.length ≤ 1000) | _ => true) = true) : fewCamp (.list rows) := fun r hr => by
  have := List.all_eq_true.mp h r hr
  cases r with
  | list ds => exact (of_decide_eq_true (p := ds.length ≤ 1000) this)
  | _ => exact trivial
theorem bad0_ok {m : Int} (hm : 0 ≤ m) : ∀ d ∈ bad0 m, badCamp d = true ∧ fewCamp d := by
  intro d hd
  simp only [bad0, List.mem_cons, List.not_mem_nil, or_false] at hd
  rcases hd with rfl | rfl | rfl | rfl | rfl | rfl | rfl | rfl | rfl | rfl
  · exact ⟨rfl, trivial⟩
  · exact ⟨by decide, few_of rfl⟩
  · exact ⟨rfl, trivial⟩
  · exact ⟨rfl, trivial⟩
  · exact ⟨rfl, trivial⟩
  · exact ⟨by decide, few_of rfl⟩
  · exact ⟨by decide, few_of rfl⟩
  · exact ⟨by decide, few_of rfl⟩
  · exact ⟨badCamp_of 0 (by simp) (badRow_of List.mem_cons_self (out_hi (by show (2 : Int) ≤ 2 + m; omega))), few_of rfl⟩
  · exact ⟨by decide, few_of rfl⟩
theorem bad1_ok {m : Int} (hm : 0 ≤ m) : ∀ d ∈ bad1 m, badCamp d = true ∧ fewCamp d := by
  intro d hd
  simp only [bad1, List.mem_cons, List.not_mem_nil, or_false] at hd
  rcases hd with rfl | rfl | rfl | rfl | rfl | rfl | rfl
  · exact ⟨badCamp_of 0 (by simp) (badRow_of List.mem_cons_self (out_lo (by omega))), few_of rfl⟩
  · exact ⟨by decide, few_of rfl⟩
  · exact ⟨by decide, few_of rfl⟩
  · exact ⟨by decide, few_of rfl⟩
  · exact ⟨by decide, few_of rfl⟩
  · exact ⟨by decide, few_of rfl⟩
  · exact ⟨by decide, few_of rfl⟩
theorem bad2_ok : ∀ d ∈ bad2, badCamp d = true ∧ fewCamp d := by
  intro d hd
  simp only [bad2, List.mem_cons, List.not_mem_nil, or_false] at hd
  rcases hd with rfl | rfl | rfl | rfl
  all_goals exact ⟨by decide, few_of rfl⟩
theorem bad3_ok {m : Int} (hm : 0 ≤ m) : ∀ d ∈ bad3 m, badCamp d = true ∧ fewCamp d := by
  intro d hd
  simp only [bad3, List.mem_cons, List.not_mem_nil, or_false] at hd
  subst hd
  exact ⟨badCamp_of 2 (by simp) (badRow_of (d := .int (3 + m)) (by simp) (out_hi (by show (3 : Int) ≤ 3 + m; omega))), few_of rfl⟩
theorem bad4_ok : ∀ d ∈ bad4, badCamp d = true ∧ fewCamp d := by
  intro d hd
  simp only [bad4, List.mem_cons, List.not_mem_nil, or_false] at hd
  subst hd
  exact ⟨by decide, few_of rfl⟩
theorem bad_all {m : Int} (hm : 0 ≤ m) : ∀ d ∈ (((bad0 m ++ bad1 m) ++ bad2) ++ bad3 m) ++ bad4, AskOk 0 d 0 := fun d hd => .inl ⟨rfl, by
  rcases List.mem_append.mp hd with hd | hd
  · rcases List.mem_append.mp hd with hd | hd
    · rcases List.mem_append.mp hd with hd | hd
      · rcases List.mem_append.mp hd with hd | hd
        · exact bad0_ok hm d hd
        · exact bad1_ok hm d hd
      · exact bad2_ok d hd
    · exact bad3_ok hm d hd
  · exact bad4_ok d hd, rfl⟩
theorem badPairs_of {L : List (List Nat)} {ds : List PyData} {d : PyData} (h : d ∈ ds) (hd : okPair L d = false) : badPairs L (.list ds) = true := by
  have : ds.all (okPair L) = false := Bool.eq_false_iff.mpr fun z => by
    have := List.all_eq_true.mp z d h
    rw [hd] at this
    cases this
  show (!(ds.all (okPair L)) || _) = true
  rw [this]; rfl
theorem okPair_no {L : List (List Nat)} {es : List PyData} {d : PyData} (h : d ∈ es) (hd : withinD d 0 ((L.length : Int) - 1) = false) : okPair L (.tuple es) = false := by
  have : allIn L.length es = false := Bool.eq_false_iff.mpr fun z => by
    have := List.all_eq_true.mp z d h
    rw [hd] at this
    cases this
  show (_ && allIn L.length es && _) = false
  rw [this, Bool.and_false, Bool.false_and]
theorem fewp {ds : List PyData} (h : decide (ds.length ≤ 1000) = true) : fewPairs (.list ds) := of_decide_eq_true (p := ds.length ≤ 1000) h
theorem pr0_ok {m : Int} (hm : 0 ≤ m) : ∀ d ∈ pr0 m, badPairs camp1 d = true ∧ fewPairs d := by
  intro d hd
  simp only [pr0, List.mem_cons, List.not_mem_nil, or_false] at hd
  rcases hd with rfl | rfl | rfl | rfl | rfl | rfl | rfl | rfl | rfl | rfl
  · exact ⟨rfl, trivial⟩
  · exact ⟨rfl, trivial⟩
  · exact ⟨rfl, trivial⟩
  · exact ⟨rfl, trivial⟩
  · exact ⟨by decide, fewp rfl⟩
  · exact ⟨by decide, fewp rfl⟩
  · exact ⟨by decide, fewp rfl⟩
  · exact ⟨by decide, fewp rfl⟩
  · exact ⟨badPairs_of List.mem_cons_self (okPair_no (d := .int (4 + m)) (by simp) (out_hi (by show (4 : Int) ≤ 4 + m; omega))), fewp rfl⟩
  · exact ⟨badPairs_of List.mem_cons_self (okPair_no (d := .int (-1 - m)) (by simp) (out_lo (by omega))), fewp rfl⟩
theorem pr1_ok : ∀ d ∈ pr1, badPairs camp1 d = true ∧ fewPairs d := by
  intro d hd
  simp only [pr1, List.mem_cons, List.not_mem_nil, or_false] at hd
  rcases hd with rfl | rfl | rfl | rfl | rfl | rfl | rfl
  all_goals exact ⟨by decide, fewp rfl⟩
theorem pr2_ok : ∀ d ∈ pr2, badPairs camp1 d = true ∧ fewPairs d := by
  intro d hd
  simp only [pr2, List.mem_cons, List.not_mem_nil, or_false] at hd
  rcases hd with rfl | rfl | rfl | rfl | rfl | rfl
  all_goals exact ⟨by decide, fewp rfl⟩
theorem pr3_ok {m : Int} (hm : 0 ≤ m) : ∀ d ∈ pr3 m, badPairs camp1 d = true ∧ fewPairs d := by
  intro d hd
  simp only [pr3, List.mem_cons, List.not_mem_nil, or_false] at hd
  rcases hd with rfl | rfl | rfl
  · exact ⟨badPairs_of (d := iT [2, 4 + m]) (by simp) (okPair_no (d := .int (4 + m)) (by simp) (out_hi (by show (4 : Int) ≤ 4 + m; omega))), fewp rfl⟩
  · exact ⟨by decide, fewp rfl⟩
  · exact ⟨by decide, fewp rfl⟩
theorem pr_all {m : Int} (hm : 0 ≤ m) : ∀ d ∈ ((pr0 m ++ pr1) ++ pr2) ++ pr3 m, AskOk 1 d 1 := fun d hd => .inr (.inl ⟨rfl, by
  rcases List.mem_append.mp hd with hd | hd
  · rcases List.mem_append.mp hd with hd | hd
    · rcases List.mem_append.mp hd with hd | hd
      · exact pr0_ok hm d hd
      · exact pr1_ok d hd
    · exact pr2_ok d hd
  · exact pr3_ok hm d hd, rfl⟩)
theorem at_all {m : Int} (hm : 0 ≤ m) : ∀ d ∈ at0 m, AskOk 2 d 2 ∧ AskOk 3 d 2 := by
  have key : ∀ d ∈ at0 m, withinD d 0 (((3 : Nat) : Int) - 1) = false := by
    intro d hd
    simp only [at0, List.mem_cons, List.not_mem_nil, or_false] at hd
    rcases hd with rfl | rfl | rfl | rfl | rfl | rfl
    · rfl
    · exact out_hi (by show (3 : Int) ≤ 3 + m; omega)
    · exact out_lo (by omega)
    · rfl
    · rfl
    · rfl
  exact fun d hd => ⟨.inr (.inr (.inr (.inl ⟨rfl, key d hd, rfl⟩))), .inr (.inr (.inr (.inr (.inl ⟨rfl, key d hd, rfl⟩))))⟩
theorem one4 : AskOk 4 (.list [iT [0, 1]]) 1 := .inr (.inr (.inl ⟨rfl, ⟨by decide, fewp rfl⟩, rfl⟩))
theorem none_at : AskOk 3 (.int 0) 3 := .inr (.inr (.inr (.inr (.inr ⟨rfl, rfl, rfl⟩))))
def whole6 : List (List Nat) := (List.range 6).map fun c => (List.range 6).filter fun x => !decide (x = c)
theorem valid6 : ValidL whole6 := valid_of (by decide)
theorem steady6 : allSteady whole6 = [[(0, 1), (2, 3), (4, 5)]] := by
  have p1 : (allSteady whole6).Perm ((pairU whole6).filter fun s => noBlock whole6 (openPairs whole6) (matesOf whole6.length s)) := (List.mergeSort_perm _ _).filter _
  have p2 : ((pairU whole6).filter fun s => noBlock whole6 (openPairs whole6) (matesOf whole6.length s)) = [[(0, 1), (2, 3), (4, 5)]] := by decide +kernel
  rw [p2] at p1
  exact List.perm_singleton.mp p1
def camp0 : List (List Nat) := [[]]
theorem valid0 : ValidL camp0 := valid_of (by decide)
theorem steady0 : allSteady camp0 = [[]] := by
  have p1 : (allSteady camp0).Perm ((pairU camp0).filter fun s => noBlock camp0 (openPairs camp0) (matesOf camp0.length s)) := (List.mergeSort_perm _ _).filter _
  have p2 : ((pairU camp0).filter fun s => noBlock camp0 (openPairs camp0) (matesOf camp0.length s)) = [[]] := by decide +kernel
  rw [p2] at p1
  exact List.perm_singleton.mp p1
theorem break0 : breakingL camp0 [] = [] := by decide +kernel
def empty6 : List (List Nat) := (List.range 6).map fun _ => []
theorem validE : ValidL empty6 := valid_of (by decide)
end TP

set_option Elab.async false
set_option linter.all false
set_option maxRecDepth 100000
set_option maxHeartbeats 8000000
namespace TP
open PySem PySem.Spec PyProof.Rows L2
open Evl (Ex)
-- tactics of this text: what an expression is worth (jv jd jt jo jw), growth (ex), what remains (side); call, calld: what the text adds
local macro_rules | `(tactic| walk_at "ex") => `(tactic| first | exact Ex.refl _ | assumption | (refine' Ex.trans ?_ (by assumption); walk_at "ex"))
local macro_rules | `(tactic| walk_at "vis") => `(tactic| first
  | exact Or.inl rfl
  | exact Or.inr (Or.inl rfl)
  | exact Or.inr (Or.inr rfl))
local macro_rules | `(tactic| walk_at "loc") => `(tactic| first
  | exact Or.inl rfl
  | exact Or.inr rfl)
local macro_rules | `(tactic| walk_at "side") => `(tactic| first
  | assumption
  | omega
  | decide
  | exact rfl
  | (simp_all; done)
  | (simp_all; omega))
local macro_rules | `(tactic| walk_at "hu") => `(tactic| first
  | exact room65 (by assumption)
  | exact Room.units (by assumption))
local macro_rules | `(tactic| walk_at "dp") => `(tactic| first | assumption | (refine' Dx.mono ?_ (by assumption); walk_at "ex"))
local macro_rules | `(tactic| walk_at "var") => `(tactic| first
  | (apply jv_var 0; exact rfl; exact rfl; walk_at "vis"; decide; decide)
  | (apply jv_var 1; exact rfl; exact rfl; walk_at "vis"; decide; decide)
  | (apply jv_var 2; exact rfl; exact rfl; walk_at "vis"; decide; decide)
  | (apply jv_var 3; exact rfl; exact rfl; walk_at "vis"; decide; decide)
  | (apply jv_var 4; exact rfl; exact rfl; walk_at "vis"; decide; decide)
  | (apply jv_var 5; exact rfl; exact rfl; walk_at "vis"; decide; decide)
  | (apply jv_var 6; exact rfl; exact rfl; walk_at "vis"; decide; decide)
  | (apply jv_var 7; exact rfl; exact rfl; walk_at "vis"; decide; decide)
  | (apply jv_var 8; exact rfl; exact rfl; walk_at "vis"; decide; decide)
  | (apply jv_var 9; exact rfl; exact rfl; walk_at "vis"; decide; decide)
  | (apply jv_var 10; exact rfl; exact rfl; walk_at "vis"; decide; decide)
  | (apply jv_var 11; exact rfl; exact rfl; walk_at "vis"; decide; decide)
  | (apply jv_var 12; exact rfl; exact rfl; walk_at "vis"; decide; decide)
  | (apply jv_var 13; exact rfl; exact rfl; walk_at "vis"; decide; decide)
  | (apply jv_var 14; exact rfl; exact rfl; walk_at "vis"; decide; decide)
  | (apply jv_var 15; exact rfl; exact rfl; walk_at "vis"; decide; decide)
  | (apply jv_var 16; exact rfl; exact rfl; walk_at "vis"; decide; decide)
  | (apply jv_var 17; exact rfl; exact rfl; walk_at "vis"; decide; decide)
  | (apply jv_var 18; exact rfl; exact rfl; walk_at "vis"; decide; decide)
  | (apply jv_var 19; exact rfl; exact rfl; walk_at "vis"; decide; decide))
local macro_rules | `(tactic| walk_at "bm") => `(tactic| first
  | assumption)
local macro_rules | `(tactic| walk_at "call") => `(tactic| first
  | fail "call")
local macro_rules | `(tactic| walk_at "calld") => `(tactic| first
  | fail "calld")
local macro_rules | `(tactic| walk_at "kit") => `(tactic| first
  | assumption
  | exact kit_ii
  | exact kit_ib
  | exact kit_bi
  | exact kit_bb
  | exact kit_li
  | exact kit_ll
  | exact kit_tt
  | exact kit_tl
  | exact kit_lt
  | exact kit_tb)
local macro_rules | `(tactic| walk_at "ns") => `(tactic| first
  | exact fun _ _ => rfl)
local macro_rules | `(tactic| walk_at "jv") => `(tactic| first
  | exact jv_int
  | exact jv_bl
  | exact jv_non
  | exact jv_str
  | walk_at "var"
  | (apply jv_add; walk_at "jv"; walk_at "jv")
  | (apply jv_sub; walk_at "jv"; walk_at "jv")
  | (apply jv_neg; walk_at "jv")
  | (apply jv_mul; walk_at "jv"; walk_at "jv"; walk_at "mulok")
  | (apply jv_fdiv; walk_at "jv"; walk_at "jv"; walk_at "divok")
  | (apply jv_mod; walk_at "jv"; walk_at "jv"; walk_at "side")
  | (apply jv_band; walk_at "jv"; walk_at "jv")
  | (apply jv_cmp; walk_at "jo"; (first | exact rfl | exact nomark _))
  | (apply jv_chain op_le op_le; walk_at "jv"; walk_at "jv"; walk_at "jv"; with_unfolding_all rfl)
  | (apply jv_chain op_le op_lt; walk_at "jv"; walk_at "jv"; walk_at "jv"; with_unfolding_all rfl)
  | (apply jv_and; walk_at "jv"; intro hand; walk_at "jv")
  | (apply jv_or; walk_at "jv"; intro hor; walk_at "jv")
  | (apply jv_not; walk_at "jv")
  | (apply jv_one; walk_at "jv")
  | (apply jv_lenM; walk_at "bm"; walk_at "jd"; exact rfl; walk_at "ns")
  | (apply jv_len; walk_at "bm"; walk_at "jd"; exact rfl; walk_at "ns")
  | (apply jv_all; exact rfl; walk_at "bm"; walk_at "jd"; exact rfl; decide +kernel; walk_at "ns")
  | (apply jv_any; exact rfl; walk_at "bm"; walk_at "jd"; exact rfl; decide +kernel; walk_at "ns")
  | (apply jv_lenT; walk_at "bm"; walk_at "jd"; exact rfl; walk_at "ns")
  | walk_at "call"
  | (apply jv_isi; (first | exact boot_tint | exact boot_tbool | exact boot_tlist | exact boot_ttuple); walk_at "bm"; walk_at "bm"; walk_at "jd"; walk_at "kit"; exact rfl; exact rfl; exact boot_isi; walk_at "ns"; decide; decide)
  | (apply jv_lenSet; exact rfl; walk_at "bm"; walk_at "bm"; walk_at "jd"; walk_at "side"; exact rfl; exact rfl; walk_at "ns")
  | (apply jv_ifE; walk_at "jt"; intro hif; walk_at "jv"; intro hif; walk_at "jv")
  | (apply JD.toI; walk_at "jx")
  | (apply JD.toB; walk_at "jx")
  | (apply JD.toS; walk_at "jx"))
local macro_rules | `(tactic| walk_at "mulok") => `(tactic| first
  | exact Or.inr ⟨by decide, by decide⟩
  | exact Or.inl ⟨by decide, by decide⟩
  | exact Or.inl ⟨by omega, by omega⟩
  | exact Or.inr ⟨by omega, by omega⟩)
local macro_rules | `(tactic| walk_at "divok") => `(tactic| first
  | exact ⟨by decide, by decide⟩
  | exact ⟨by omega, by omega⟩)
local macro_rules | `(tactic| walk_at "jx") => `(tactic| first
  | (apply jd_ixN; walk_at "jd"; walk_at "jv"; exact fun _ _ => rfl; walk_at "side")
  | (apply jd_ixNs; walk_at "jd"; walk_at "jv"; exact fun _ _ => rfl; walk_at "side")
  | (apply jd_ixP; walk_at "jd"; walk_at "jv"; exact fun _ _ => rfl; walk_at "side")
  | (apply jd_ixPs; walk_at "jd"; walk_at "jv"; exact fun _ _ => rfl; walk_at "side")
  | (apply jd_ixI; walk_at "jd"; walk_at "jv"; exact fun _ _ => rfl; walk_at "side")
  | (apply jd_ixP1; walk_at "jd")
  | (apply jd_ixP2; walk_at "jd")
  | walk_at "calld")
local macro_rules | `(tactic| walk_at "jd") => `(tactic| first
  | (apply JV.toD; walk_at "var"; walk_at "dp")
  | walk_at "jx"
  | (apply jd_list; walk_at "jad"; exact Nat.le_of_ble_eq_true rfl)
  | (apply jd_tuple; walk_at "jad"; exact Nat.le_of_ble_eq_true rfl)
  | (apply jd_listOf; walk_at "bm"; walk_at "jd"; exact rfl; exact boot_tlist; walk_at "ns")
  | (apply JV.toD (v := V.int _); walk_at "jv"; exact Dx.int _)
  | (apply JV.toD (v := V.bl _); walk_at "jv"; exact Dx.bl _)
  | (apply JV.toD (v := V.str _); walk_at "jv"; exact Dx.str _)
  | (apply jd_ifE; walk_at "jt"; intro hif; walk_at "jd"; intro hif; walk_at "jd"))
local macro_rules | `(tactic| walk_at "jad") => `(tactic| first
  | exact jad_nil
  | (apply jad_cons; walk_at "jd"; walk_at "jad"; walk_at "ns"))
local macro_rules | `(tactic| walk_at "jo") => `(tactic| first
  | (apply jo_isN; walk_at "jv")
  | (apply jo_notN; walk_at "jv")
  | (apply jo_eqI; walk_at "jv"; walk_at "jv")
  | (apply jo_neI; walk_at "jv"; walk_at "jv")
  | (apply jo_lt; walk_at "jv"; walk_at "jv")
  | (apply jo_le; walk_at "jv"; walk_at "jv")
  | (apply jo_gt; walk_at "jv"; walk_at "jv")
  | (apply jo_ge; walk_at "jv"; walk_at "jv")
  | (apply jo_inN; walk_at "hu"; walk_at "jv"; walk_at "jd")
  | (apply jo_niN; walk_at "hu"; walk_at "jv"; walk_at "jd")
  | (apply jo_eqD; walk_at "hu"; walk_at "jd"; walk_at "jd"; walk_at "shp"; walk_at "shp")
  | (apply jo_neD; walk_at "hu"; walk_at "jd"; walk_at "jd"; walk_at "shp"; walk_at "shp"))
local macro_rules | `(tactic| walk_at "shp") => `(tactic| first
  | assumption
  | exact Shp.shaped eLL _
  | exact Shp.shaped ePs _
  | exact Shp.shaped eNs _
  | exact Shp.shaped ePss _
  | exact Shp.shaped eP _
  | exact Shp.shaped eN _
  | exact Shp.shaped eI _
  | decide)
local macro_rules | `(tactic| walk_at "jw") => `(tactic| first
  | (apply jw_one_and; walk_at "jt")
  | (apply jw_one_or; walk_at "jt")
  | (apply jw_and; walk_at "jt"; intro hand; walk_at "jw")
  | (apply jw_or; walk_at "jt"; intro hor; walk_at "jw"))
local macro_rules | `(tactic| walk_at "jt") => `(tactic| first
  | (apply jt_w; walk_at "jw")
  | (apply jt_cmp; walk_at "jo"; (first | exact rfl | exact nomark _))
  | (apply jt_not; walk_at "jt")
  | (apply jt_val; walk_at "jv"; exact fun _ => rfl)
  | (apply jt_chain op_le op_le; walk_at "jv"; walk_at "jv"; walk_at "jv"; with_unfolding_all rfl))
local macro_rules | `(tactic| walk_at "camp") => `(tactic| first | assumption | (refine' CampAt.mono ?_ (by assumption); walk_at "ex"))
local macro_rules | `(tactic| walk_at "calld") => `(tactic| first
  | (apply jd_told; assumption; walk_at "var"; walk_at "camp"; exact rfl)
  | walk_at "calld2")
local macro_rules | `(tactic| walk_at "calld2") => `(tactic| first
  | fail "calld2")
local macro_rules | `(tactic| walk_at "room") => `(tactic| first
  | assumption
  | exact Room.mono (by assumption) (by decide))
local macro_rules | `(tactic| walk_at "bm") => `(tactic| first
  | assumption
  | exact Tx.len (by assumption)
  | exact Tx.range (by assumption)
  | exact Tx.list (by assumption)
  | exact Tx.all (by assumption)
  | exact Tx.any (by assumption)
  | exact Tx.isi (by assumption)
  | exact Tx.int (by assumption)
  | exact Tx.bool (by assumption)
  | exact Tx.set (by assumption)
  | exact Tx.tup (by assumption))
local macro_rules | `(tactic| walk_at "call") => `(tactic| first
  | (apply jv_size; assumption; walk_at "var"; walk_at "camp"; exact rfl)
  | (apply jv_index; walk_at "hu"; walk_at "jd"; walk_at "jv"; walk_at "side"; walk_at "ns"; exact rfl; exact rfl; exact rfl)
  | (apply jv_would; assumption; assumption; walk_at "room"; walk_at "var"; walk_at "camp"; walk_at "jv"; walk_at "jv"; walk_at "side"; walk_at "side"; walk_at "ns"; walk_at "ns"; exact rfl; exact rfl)
  | walk_at "call2")
local macro_rules | `(tactic| walk_at "call2") => `(tactic| first
  | fail "call2")
local macro_rules | `(tactic| walk_at "call2") => `(tactic| first
  | (apply jv_rather; assumption; assumption; walk_at "room"; walk_at "var"; walk_at "camp"; walk_at "jv"; walk_at "jv"; walk_at "jv"; walk_at "side"; walk_at "side"; walk_at "ns"; walk_at "ns"; walk_at "ns"; exact rfl; exact rfl)
  | walk_at "call4")
local macro_rules | `(tactic| walk_at "call4") => `(tactic| first
  | fail "call4")
local macro_rules | `(tactic| walk_at "calld2") => `(tactic| first
  | (apply jd_open; assumption; walk_at "room"; walk_at "var"; walk_at "camp"; walk_at "side"; exact rfl; walk_at "ns"; exact rfl)
  | walk_at "calld4")
local macro_rules | `(tactic| walk_at "calld4") => `(tactic| first
  | fail "calld4")
local macro_rules | `(tactic| walk_at "jd") => `(tactic| first
  | (apply JV.toD (v := V.non); exact jv_non; exact Dx.non)
  | (apply JN.toD; apply jn_rep (n := 7); walk_at "jd"; exact jv_int; decide; decide))
def spLaw (K : PySem.W.Frag) : Sp := fun vs H Q _ => ∃ (a : Addr) (ns : List Int), vs = [.ref a] ∧ SqL K H a (ns.map V.int) ∧ ns.length ≤ 63 ∧ ∀ H', Q (.bl true) H'
section
variable {X : Cx} {σ : L2.St} {e o a b : Expr} {G : Hp} {pos : Pos} {C p : Addr} {L : List (List Nat)} {d : PyData}
theorem jv_asked {m i : Nat} {ap : Pos} (M : Df X.prog X.w X.K X.mg X.base "_law_asked" 8 spAsked) (hr : Room 8 X.A) (ha : JV X σ a G (.int (m : Int))) (hb : JD X σ b G d) (h : AskOk m d i) (hg : Gl X "_law_asked") (na : NoStar a) (nb : NoStar b) (hpl : (backTo pos (starEach [b] X.env)).any (·.1) = false) :
    JV X σ (.Call (.Name "_law_asked" ap) [a, b] [] pos) G (.str (kindOf i)) :=
  (jp_call M hr hg (m, d, i) h (jal_cons (ha.toPV (v := .int (m : Int))) mo_V (fun _ e => jal_cons (hb.mono e).toP mo_D (fun _ _ => jal_nil) nb) na) na (by decide) hpl).toV
theorem jd_allP {ap : Pos} (M : Df X.prog X.w X.K X.mg X.base "all_steady" 4 (spAll X.K C)) (hr : Room 4 X.A) (ho : JP X σ o G (kCamp X.K C L)) (hL : L.length ≤ 6) (hg : Gl X "all_steady") (na : NoStar o) (hpl : (backTo pos (starEach [] X.env)).any (·.1) = false) : JD X σ (.Call (.Name "all_steady" ap) [o] [] pos) G (ePss (allSteady L)) :=
  (jp_call M hr hg L hL (jal_cons ho mo_Camp (fun _ _ => jal_nil) na) na (by decide) hpl).toD
theorem jn_breakP {ps : List (Nat × Nat)} {ap : Pos} (M : Df X.prog X.w X.K X.mg X.base "breaking" 3 (spBreaking X.K C)) (hr : Room 3 X.A) (ho : JP X σ o G (kCamp X.K C L)) (ha : ∀ G', Ex G G' → JD X σ a G' (ePs ps)) (hL : L.length ≤ 6) (hp : OkP L ps) (hnd : (flatP ps).Nodup) (hlen : ps.length ≤ 1000) (hg : Gl X "breaking") (no : NoStar o) (na : NoStar a)
    (hpl : (backTo pos (starEach [a] X.env)).any (·.1) = false) : JN X σ (.Call (.Name "breaking" ap) [o, a] [] pos) G ((breakingL L ps).map eP) :=
  jn_call M hr hg (L, ps) ⟨hL, hp, hnd, hlen⟩ (jal_cons ho mo_Camp (fun _ e => jal_cons (ha _ e).toP mo_D (fun _ _ => jal_nil) na) no) no (by decide) hpl
theorem jv_sizeP (T : Tx X.K X.mg C) (ho : JP X σ o G (kCamp X.K C L)) (hb : attributeBase o "size" X.env (eval o X.env) = eval o X.env) : JV X σ (.Attribute o "size" pos) G (.int (L.length : Int)) := ⟨fun H eh Q q =>
  ⟨_, pe_fld pe_w hb, ho H eh _ fun G1 H1 v s1 ⟨a, ev, t, hi, hd⟩ => by
    obtain ⟨dx, fs, hG, hfs⟩ := hi.ex
    exact ⟨a, C, dx, fs, .int (L.length : Int), ev, s1.gh _ _ hG, T.cl, T.nS, (hfs _).trans (campA_size _ _), q H1 s1.h⟩⟩⟩
end
structure Tl7 (P : Program) (w : World) (K : PySem.W.Frag) (mg : Str → Option Value) (base : Heap) (C : Addr) : Prop where
  camp : Mkr P w K mg base C 2 (spCamp C)
  cell : Df P w K mg base "_law_cell_at" 1 (spCell K)
  asked : Df P w K mg base "_law_asked" 8 spAsked
  all : Df P w K mg base "all_steady" 4 (spAll K C)
  brk : Df P w K mg base "breaking" 3 (spBreaking K C)
section
variable {P : Program} {w : World} {K : PySem.W.Frag} {mg : Str → Option Value} {base : Heap} {C : Addr}
theorem ok_law {f : Addr} {fd : FuncData} (F : Fun K "law" "law" s_law f fd) (T : Tx K mg C) (U : Tl7 P w K mg base C) : FnOk P w K mg base CX0 9 f fd ["_law_script"] (spLaw K) := by
  refine F.ok sc_law (fun vs H Q E ⟨a, ns, e, _⟩ => by rw [e]; rfl) fun cdv A outer s H vs Q E hr ⟨sa, ns, e, hsc0, hlen, k⟩ => ?_
  subst e
  have h : Hs H H H H [] := .nil (Ex.refl _)
  have hsc : Scr K H sa ns := hsc0
  have nd := sc_law.nd
  have hu64 := Room.units hr
  show wSs _ _ _ _ _
  refine b_setV (n := 1) h (jv_mod (jv_cell (n := 0) U.cell (hr.mono (by decide)) (by walk_at "var") hsc (JV.is jv_int rfl) rfl (by walk_at "ns") (by walk_at "ns") rfl) jv_int (by decide)) nd rfl (by walk_at "loc") rfl (Or.inl rfl) (fun H1 h1 => ?_)
  have hm : 0 ≤ ns.getD 0 0 % 1000000 := Int.emod_nonneg _ (by decide)
  generalize ns.getD 0 0 % 1000000 = m at *
  refine b_setD (n := 2) (d := .list (bad0 m)) h1 (by walk_at "jd") nd rfl (by walk_at "loc") rfl (Or.inl rfl) (fun G2 H2 v2 h2 e2 d2 => ?_)
  refine b_setD (n := 2) (d := .list (bad0 m ++ bad1 m)) h2 (JN.toD (jn_cat (ds := bad0 m) (ds2 := bad1 m) (by walk_at "jd") (by walk_at "jd") (Nat.le_of_ble_eq_true rfl))) nd rfl (by walk_at "loc") rfl (Or.inl rfl) (fun G3 H3 v3 h3 e3 d3 => ?_)
  refine b_setNw (n := 2) h3 (jn_cat (ds := bad0 m ++ bad1 m) (ds2 := bad2) (by walk_at "jd") (by walk_at "jd") (Nat.le_of_ble_eq_true rfl)) nd rfl (by walk_at "loc") rfl (Or.inl rfl) (fun G4 H4 l4 vs4 h4 e4 d4 => ?_)
  refine b_append (n := 2) (d := .list [iL [1], iL [0], iL [0, 3 + m]]) h4 rfl rfl (by walk_at "vis") (by walk_at "jd") (by rw [d4.length]; exact Nat.le_of_ble_eq_true rfl) rfl rfl (by walk_at "ns") rfl rfl rfl rfl (fun G5 H5 v5 h5 e5 d5 => ?_)
  obtain ⟨h6, e6⟩ := h5.fix
  have dl : Dx (upd G5 l4 (.lst (vs4 ++ [v5]))) (.ref l4) (.list (((bad0 m ++ bad1 m) ++ bad2) ++ bad3 m)) := .lst upd_same (DxAll.mono e6 ((d4.mono e5).snoc d5))
  generalize upd G5 l4 (.lst (vs4 ++ [v5])) = G6 at *
  refine b_for h6 (f := fun d => d) (xs := (((bad0 m ++ bad1 m) ++ bad2) ++ bad3 m) ++ bad4) (JI.is (ji_list (JN.toD (jn_cat (ds := ((bad0 m ++ bad1 m) ++ bad2) ++ bad3 m) (ds2 := bad4) (by walk_at "jd") (by walk_at "jd") (Nat.le_of_ble_eq_true rfl)))) (List.map_id' _).symm) PassesOwn.never rfl (fun _ => rfl) (fun G7 H7 h7 e7 => ?_)
  refine ⟨fun pre σ' G' H' => ∃ o3, σ' = [some (.ref sa), some (.int m), some (.ref l4), o3, none, none, none, none] ∧ Hs H H G' H' [] ∧ Ex G7 G', ⟨none, rfl, h7, Ex.refl _⟩, ?_, ?_, ?_⟩
  · rintro pre σ' G' H' ⟨o3, rfl, hs, e⟩
    exact ⟨e, hs.ex⟩
  · rintro pre x post v σ' G' H' hxs ⟨o3, rfl, hs, e⟩ pv
    have px : Dx G' v x := Dx.mono e pv
    have ok : AskOk 0 x 0 := bad_all hm x (by rw [hxs]; simp)
    refine wg_name (n := 3) nd rfl (by walk_at "loc") (Or.inl rfl) ?_
    refine b_if (p := false) hs (JT.is (jt_cmp (jo_neS (jv_asked (m := 0) (i := 0) (d := x) U.asked hr (JV.is jv_int rfl) (by walk_at "jd") ok rfl (by walk_at "ns") (by walk_at "ns") rfl) jv_str) rfl) (by decide)) (fun e => by cases e) (fun _ H8 h8 => ?_)
    exact b_nil (b_nil ⟨G', _, rfl, h8, e⟩)
  rintro σ' G8 H8 ⟨o3, rfl, h8, e8⟩
  refine b_if (p := false) h8 (JT.is (jt_cmp (jo_neS (jv_asked (m := 4) (i := 1) (d := .list [iT [0, 1]]) U.asked hr (JV.is jv_int rfl) (by walk_at "jd") one4 rfl (by walk_at "ns") (by walk_at "ns") rfl) jv_str) rfl) (by decide)) (fun e => by cases e) (fun _ H9 h9 => b_nil ?_)
  refine b_setD (n := 4) (d := .list (pr0 m)) h9 (by walk_at "jd") nd rfl (by walk_at "loc") rfl (Or.inl rfl) (fun G10 H10 v10 h10 e10 d10 => ?_)
  refine b_setD (n := 4) (d := .list (pr0 m ++ pr1)) h10 (JN.toD (jn_cat (ds := pr0 m) (ds2 := pr1) (by walk_at "jd") (by walk_at "jd") (Nat.le_of_ble_eq_true rfl))) nd rfl (by walk_at "loc") rfl (Or.inl rfl) (fun G11 H11 v11 h11 e11 d11 => ?_)
  refine b_setD (n := 4) (d := .list ((pr0 m ++ pr1) ++ pr2)) h11 (JN.toD (jn_cat (ds := pr0 m ++ pr1) (ds2 := pr2) (by walk_at "jd") (by walk_at "jd") (Nat.le_of_ble_eq_true rfl))) nd rfl (by walk_at "loc") rfl (Or.inl rfl) (fun G12 H12 v12 h12 e12 d12 => ?_)
  refine b_for h12 (f := fun d => d) (xs := ((pr0 m ++ pr1) ++ pr2) ++ pr3 m) (JI.is (ji_list (JN.toD (jn_cat (ds := (pr0 m ++ pr1) ++ pr2) (ds2 := pr3 m) (by walk_at "jd") (by walk_at "jd") (Nat.le_of_ble_eq_true rfl)))) (List.map_id' _).symm) PassesOwn.never rfl (fun _ => rfl) (fun G13 H13 h13 e13 => ?_)
  refine ⟨fun pre σ' G' H' => ∃ o3, σ' = [some (.ref sa), some (.int m), some (.ref l4), o3, some v12, none, none, none] ∧ Hs H H G' H' [] ∧ Ex G13 G', ⟨o3, rfl, h13, Ex.refl _⟩, ?_, ?_, ?_⟩
  · rintro pre σ' G' H' ⟨o3, rfl, hs, e⟩
    exact ⟨e, hs.ex⟩
  · rintro pre x post v σ' G' H' hxs ⟨o3, rfl, hs, e⟩ pv
    have px : Dx G' v x := Dx.mono e pv
    have ok : AskOk 1 x 1 := pr_all hm x (by rw [hxs]; simp)
    refine wg_name (n := 3) nd rfl (by walk_at "loc") (Or.inl rfl) ?_
    refine b_if (p := false) hs (JT.is (jt_cmp (jo_neS (jv_asked (m := 1) (i := 1) (d := x) U.asked hr (JV.is jv_int rfl) (by walk_at "jd") ok rfl (by walk_at "ns") (by walk_at "ns") rfl) jv_str) rfl) (by decide)) (fun e => by cases e) (fun _ H8 h8 => ?_)
    exact b_nil (b_nil ⟨G', _, rfl, h8, e⟩)
  rintro σ' G14 H14 ⟨o3, rfl, h14, e14⟩
  refine b_for h14 (f := fun d => d) (xs := at0 m) (JI.is (ji_list (ds := at0 m) (by walk_at "jd")) (List.map_id' _).symm) PassesOwn.never rfl (fun _ => rfl) (fun G15 H15 h15 e15 => ?_)
  refine ⟨fun pre σ' G' H' => ∃ o3, σ' = [some (.ref sa), some (.int m), some (.ref l4), o3, some v12, none, none, none] ∧ Hs H H G' H' [] ∧ Ex G15 G', ⟨o3, rfl, h15, Ex.refl _⟩, ?_, ?_, ?_⟩
  · rintro pre σ' G' H' ⟨o3, rfl, hs, e⟩
    exact ⟨e, hs.ex⟩
  · rintro pre x post v σ' G' H' hxs ⟨o3, rfl, hs, e⟩ pv
    have px : Dx G' v x := Dx.mono e pv
    obtain ⟨k2, k3⟩ := at_all hm x (by rw [hxs]; simp)
    refine wg_name (n := 3) nd rfl (by walk_at "loc") (Or.inl rfl) ?_
    refine b_if (p := false) hs (JT.is (jt_w (jw_or (jt_cmp (jo_neS (jv_asked (m := 2) (i := 2) (d := x) U.asked hr (JV.is jv_int rfl) (by walk_at "jd") k2 rfl (by walk_at "ns") (by walk_at "ns") rfl) jv_str) rfl) (fun _ => jw_one_or (jt_cmp (jo_neS (jv_asked (m := 3) (i := 2) (d := x) U.asked hr (JV.is jv_int rfl) (by walk_at "jd") k3 rfl (by walk_at "ns") (by walk_at "ns") rfl) jv_str) rfl)))) (by decide)) (fun e => by cases e) (fun _ H8 h8 => ?_)
    exact b_nil (b_nil ⟨G', _, rfl, h8, e⟩)
  rintro σ' G16 H16 ⟨o3, rfl, h16, e16⟩
  refine b_if (p := false) h16 (JT.is (jt_w (jw_or (jt_cmp (jo_neS (jv_asked (m := 3) (i := 3) (d := .int 0) U.asked hr (JV.is jv_int rfl) (by walk_at "jd") none_at rfl (by walk_at "ns") (by walk_at "ns") rfl) jv_str) rfl) (fun _ => jw_or (jt_cmp (jo_neD (d1 := ePss (allSteady camp0)) (d2 := .list [.list []]) hu64 (jd_allP U.all (hr.mono (by decide)) (JPF.toP mo_Camp (jf_camp (L := camp0) T U.camp (hr.mono (by decide)) (JD.is (d1 := eLL camp0) (by walk_at "jd") rfl) valid0 rfl (by walk_at "ns") rfl)) valid0.six rfl (by walk_at "ns") rfl) (by walk_at "jd") (Shp.shaped ePss _) (by decide)) rfl)
    (fun _ => jw_one_or (jt_cmp (jo_neD (d1 := ePs (breakingL camp0 [])) (d2 := .list []) hu64 (JN.toD (jn_breakP (ps := []) U.brk (hr.mono (by decide)) (JPF.toP mo_Camp (jf_camp (L := camp0) T U.camp (hr.mono (by decide)) (JD.is (d1 := eLL camp0) (by walk_at "jd") rfl) valid0 rfl (by walk_at "ns") rfl)) (fun G' _ => JD.is (d1 := .list []) (by walk_at "jd") rfl) valid0.six (fun _ z => by simp at z) (by decide) (by decide) rfl (by walk_at "ns") (by walk_at "ns") rfl)) (by walk_at "jd") (Shp.shaped ePs _) (by decide)) rfl))))) (by rw [steady0, break0]; decide)) (fun e => by cases e) (fun _ H17 h17 => b_nil ?_)
  refine b_setLc (n := 7) (m := 5) (f0 := eN) (xs := List.range 6) (f := fun c => eNs ((List.range 6).filter fun x => !decide (x = c))) h17 (ji_range1 (n := 6) T.range (JV.is jv_int rfl) (by decide) rfl (by walk_at "ns")) (by decide) rfl nd rfl (fun _ _ _ _ _ => ⟨by walk_at "loc", by walk_at "loc"⟩) (by first | kernel_rfl | rfl) (fun _ => rfl) rfl rfl rfl (fun s h C cl fp c hc G' v e pv => ?_) (fun G18 H18 l18 vs18 h18 e18 d18 => ?_)
  · cases pv
    exact JN.toD (jn_lcT (n := 6) (f0 := eN) (xs := List.range 6) (p := fun x => !decide (x = c)) (f := eN) (ji_range1 (n := 6) T.range (JV.is jv_int rfl) (by decide) rfl (by walk_at "ns")) (by decide) rfl nd rfl (fun _ _ _ _ _ => ⟨by walk_at "loc", by walk_at "loc"⟩) (by first | kernel_rfl | rfl) (fun _ => rfl) (fun s2 h2 C2 cl2 fp2 y hy G2 u e2 pu => by
      cases pu
      exact JT.is (by walk_at "jt") (by congr 1; exact decide_eq_decide.mpr (by omega))) (fun s2 h2 C2 cl2 fp2 y hy hp G2 u e2 pu => by
      cases pu
      walk_at "jd"))
  obtain ⟨h19, e19⟩ := h18.fix
  have dw : Dx (upd G18 l18 (.lst vs18)) (.ref l18) (eLL whole6) := .lst upd_same (DxAll.mono e19 (by rw [show whole6.map eNs = (List.range 6).map fun c => eNs ((List.range 6).filter fun x => !decide (x = c)) from by unfold whole6; rw [List.map_map]; rfl]; exact d18))
  generalize upd G18 l18 (.lst vs18) = G19 at *
  refine b_ret h19 (v := .bl (true && true)) (jv_and (JV.is (jv_cmp (jo_eqD (d1 := ePss (allSteady whole6)) (d2 := .list [.list [iT [0, 1], iT [2, 3], iT [4, 5]]]) hu64 (jd_allP U.all (hr.mono (by decide)) (JPF.toP mo_Camp (jf_camp (L := whole6) T U.camp (hr.mono (by decide)) (by walk_at "jd") valid6 rfl (by walk_at "ns") rfl)) valid6.six rfl (by walk_at "ns") rfl) (by walk_at "jd") (Shp.shaped ePss _) (by decide)) rfl) (by rw [steady6]; decide)) (fun _ => jv_one (JV.is (jv_cmp (jo_eqI (jv_sizeP (L := empty6) T (JPF.toP mo_Camp (jf_camp (L := empty6) T U.camp (hr.mono (by decide)) (JD.is (JN.toD (jn_lc (n := 7) (f0 := eN) (xs := List.range 6) (f := fun _ => PyData.list []) (ji_range1 (n := 6) T.range (JV.is jv_int rfl) (by decide) rfl (by walk_at "ns")) (by decide) rfl nd rfl (fun _ _ _ _ _ => ⟨by walk_at "loc", by walk_at "loc"⟩) (by first | kernel_rfl | rfl) (fun _ => rfl) (fun s h C cl fp c hc G' v e pv => by walk_at "jd"))) ?emp) validE rfl (by walk_at "ns") rfl)) rfl) jv_int) rfl) rfl))) (fun H' h' => k H')
  case emp =>
    show PyData.list _ = PyData.list (empty6.map eNs)
    unfold empty6
    rw [List.map_map]
    rfl
end
end TP

set_option Elab.async false
set_option linter.all false
set_option maxRecDepth 100000
set_option maxHeartbeats 4000000
namespace TP
open PySem PySem.Spec PyProof.Rows L2
open Evl (Ex)
theorem all_mk {P : Program} {w : World} {K : PySem.W.Frag} {h : Heap} {mg : Str → Option Value} {fa C CS CR CE cB cP cN cS cT : Addr} {t0 : Tok} {nmS qS : Str} {NS : Addr} {bsS : List Value} {snS : List Str} {subS : List Value} {abS : Bool} {colS : Option Bool} {ddS : Option Addr} {m0S m1S m2S m3S m5S : Option Value} (X : K.In h) (G : h.Ns mainGlobals mg) (hfa : mg "law" = some (.ref fa))
    (aC : PySem.W.nsIn K mainGlobals "Camp" = some (some (.ref C)))
    (aCS : PySem.W.nsIn K mainGlobals "Steady" = some (some (.ref CS)))
    (aCR : PySem.W.nsIn K mainGlobals "Rings" = some (some (.ref CR)))
    (aCE : PySem.W.nsIn K mainGlobals "CampError" = some (some (.ref CE)))
    (acB : PySem.W.nsIn K mainGlobals "BadCamp" = some (some (.ref cB)))
    (acP : PySem.W.nsIn K mainGlobals "BadPairs" = some (some (.ref cP)))
    (acN : PySem.W.nsIn K mainGlobals "NoCamper" = some (some (.ref cN)))
    (acS : PySem.W.nsIn K mainGlobals "NoneSteady" = some (some (.ref cS)))
    (acT : PySem.W.nsIn K mainGlobals "BadText" = some (some (.ref cT)))
    (g_Camp_would : Gm K C "would" "Camp.would" s_Camp_would)
    (g_Camp_rather : Gm K C "rather" "Camp.rather" s_Camp_rather)
    (g_within : Gf K "within" s_within)
    (g_open_pairs : Gf K "open_pairs" s_open_pairs)
    (g_Camp___init__ : Gm K C "__init__" "Camp.__init__" s_Camp___init__)
    (g_Camp_camper : Gm K C "camper" "Camp.camper" s_Camp_camper)
    (g_mates_of : Gf K "mates_of" s_mates_of)
    (g_check_pairs : Gf K "check_pairs" s_check_pairs)
    (g_breaking : Gf K "breaking" s_breaking)
    (g_is_steady : Gf K "is_steady" s_is_steady)
    (g_pairings : Gf K "pairings" s_pairings)
    (g_all_steady : Gf K "all_steady" s_all_steady)
    (g_fits : Gf K "fits" s_fits)
    (g_all_nexts : Gf K "all_nexts" s_all_nexts)
    (g_rings_of : Gf K "rings_of" s_rings_of)
    (g_behind_of : Gf K "behind_of" s_behind_of)
    (g_good_rings : Gf K "good_rings" s_good_rings)
    (g_Steady___init__ : Gm K CS "__init__" "Steady.__init__" s_Steady___init__)
    (g_Rings___init__ : Gm K CR "__init__" "Rings.__init__" s_Rings___init__)
    (g_telling : Gf K "telling" s_telling)
    (g_NoneSteady___init__ : Gm K cS "__init__" "NoneSteady.__init__" s_NoneSteady___init__)
    (g_check_steady : Gf K "check_steady" s_check_steady)
    (g_mates : Gf K "mates" s_mates)
    (g_L_cell_at : Gf K "_law_cell_at" s_L_cell_at)
    (g_L_sort : Gf K "_law_sort" s_L_sort)
    (g_L_asked : Gf K "_law_asked" s_L_asked)
    (g_law : Gf K "law" s_law)
    (pg : PySem.W.plainGet K C Str.empty = true)
    (hd : PySem.W.hasDictIn K C = true)
    (po : PySem.W.plainOver K C = true)
    (sa : PySem.W.findIn K (.ref C) "__setattr__" = some (some (.builtin "object.__setattr__")))
    (mk : PySem.W.makesIn K C = true)
    (kc : PySem.W.keepIn K (.ref C) = true)
    (n_told : PySem.W.findIn K (.ref C) "told" = some none)
    (n_size : PySem.W.findIn K (.ref C) "size" = some none)
    (pgS : PySem.W.plainGet K CS Str.empty = true)
    (hdS : PySem.W.hasDictIn K CS = true)
    (poS : PySem.W.plainOver K CS = true)
    (saS : PySem.W.findIn K (.ref CS) "__setattr__" = some (some (.builtin "object.__setattr__")))
    (mkS : PySem.W.makesIn K CS = true)
    (kcS : PySem.W.keepIn K (.ref CS) = true)
    (n_pairs : PySem.W.findIn K (.ref CS) "pairs" = some none)
    (pgR : PySem.W.plainGet K CR Str.empty = true)
    (hdR : PySem.W.hasDictIn K CR = true)
    (poR : PySem.W.plainOver K CR = true)
    (saR : PySem.W.findIn K (.ref CR) "__setattr__" = some (some (.builtin "object.__setattr__")))
    (mkR : PySem.W.makesIn K CR = true)
    (kcR : PySem.W.keepIn K (.ref CR) = true)
    (n_rings : PySem.W.findIn K (.ref CR) "rings" = some none)
    (hn : PySem.W.specialIn K (.builtin "object.__class__") "__get__" = some (some (.builtin "getset_descriptor.__get__")))
    (htk : PySem.W.takesIn K (.builtin "object.__class__") = some true)
    (xcB : PySem.W.excIn K cB [.type "ValueError", .type "Exception", .type "BaseException", .type "object"] "ValueError.__new__" = true)
    (xcP : PySem.W.excIn K cP [.type "ValueError", .type "Exception", .type "BaseException", .type "object"] "ValueError.__new__" = true)
    (xcN : PySem.W.excIn K cN [.type "ValueError", .type "Exception", .type "BaseException", .type "object"] "ValueError.__new__" = true)
    (kpcB : PySem.W.keepIn K (.ref cB) = true)
    (scB : PySem.W.subIn K (.ref cB) (.type "BaseException") = some true)
    (tcB : PySem.W.typeIn K (.ref cB) = some (.type "type"))
    (icB : PySem.W.isClsIn K cB = true)
    (gacB : PySem.W.findIn K (.ref cB) "__getattribute__" = some (some (.builtin "BaseException.__getattribute__")))
    (gtcB : PySem.W.findIn K (.ref cB) "__getattr__" = some none)
    (cacB : PySem.W.findIn K (.ref cB) "__class__" = some (some (.builtin "object.__class__")))
    (hmcB : PySem.W.mroIn K cB (.type "object") = some true)
    (ecB : PySem.W.subIn K (.ref cB) (.ref CE) = some true)
    (vcB : PySem.W.subIn K (.ref cB) (.type "ValueError") = some true)
    (ncBcP : (Value.ref cB == Value.ref cP) = false)
    (qcBcP : PySem.W.subIn K (.ref cB) (.ref cP) = some false)
    (ncBcN : (Value.ref cB == Value.ref cN) = false)
    (qcBcN : PySem.W.subIn K (.ref cB) (.ref cN) = some false)
    (ncBcS : (Value.ref cB == Value.ref cS) = false)
    (qcBcS : PySem.W.subIn K (.ref cB) (.ref cS) = some false)
    (ncBcT : (Value.ref cB == Value.ref cT) = false)
    (qcBcT : PySem.W.subIn K (.ref cB) (.ref cT) = some false)
    (kpcP : PySem.W.keepIn K (.ref cP) = true)
    (scP : PySem.W.subIn K (.ref cP) (.type "BaseException") = some true)
    (tcP : PySem.W.typeIn K (.ref cP) = some (.type "type"))
    (icP : PySem.W.isClsIn K cP = true)
    (gacP : PySem.W.findIn K (.ref cP) "__getattribute__" = some (some (.builtin "BaseException.__getattribute__")))
    (gtcP : PySem.W.findIn K (.ref cP) "__getattr__" = some none)
    (cacP : PySem.W.findIn K (.ref cP) "__class__" = some (some (.builtin "object.__class__")))
    (hmcP : PySem.W.mroIn K cP (.type "object") = some true)
    (ecP : PySem.W.subIn K (.ref cP) (.ref CE) = some true)
    (vcP : PySem.W.subIn K (.ref cP) (.type "ValueError") = some true)
    (ncPcB : (Value.ref cP == Value.ref cB) = false)
    (qcPcB : PySem.W.subIn K (.ref cP) (.ref cB) = some false)
    (ncPcN : (Value.ref cP == Value.ref cN) = false)
    (qcPcN : PySem.W.subIn K (.ref cP) (.ref cN) = some false)
    (ncPcS : (Value.ref cP == Value.ref cS) = false)
    (qcPcS : PySem.W.subIn K (.ref cP) (.ref cS) = some false)
    (ncPcT : (Value.ref cP == Value.ref cT) = false)
    (qcPcT : PySem.W.subIn K (.ref cP) (.ref cT) = some false)
    (kpcN : PySem.W.keepIn K (.ref cN) = true)
    (scN : PySem.W.subIn K (.ref cN) (.type "BaseException") = some true)
    (tcN : PySem.W.typeIn K (.ref cN) = some (.type "type"))
    (icN : PySem.W.isClsIn K cN = true)
    (gacN : PySem.W.findIn K (.ref cN) "__getattribute__" = some (some (.builtin "BaseException.__getattribute__")))
    (gtcN : PySem.W.findIn K (.ref cN) "__getattr__" = some none)
    (cacN : PySem.W.findIn K (.ref cN) "__class__" = some (some (.builtin "object.__class__")))
    (hmcN : PySem.W.mroIn K cN (.type "object") = some true)
    (ecN : PySem.W.subIn K (.ref cN) (.ref CE) = some true)
    (vcN : PySem.W.subIn K (.ref cN) (.type "ValueError") = some true)
    (ncNcB : (Value.ref cN == Value.ref cB) = false)
    (qcNcB : PySem.W.subIn K (.ref cN) (.ref cB) = some false)
    (ncNcP : (Value.ref cN == Value.ref cP) = false)
    (qcNcP : PySem.W.subIn K (.ref cN) (.ref cP) = some false)
    (ncNcS : (Value.ref cN == Value.ref cS) = false)
    (qcNcS : PySem.W.subIn K (.ref cN) (.ref cS) = some false)
    (ncNcT : (Value.ref cN == Value.ref cT) = false)
    (qcNcT : PySem.W.subIn K (.ref cN) (.ref cT) = some false)
    (kpcS : PySem.W.keepIn K (.ref cS) = true)
    (scS : PySem.W.subIn K (.ref cS) (.type "BaseException") = some true)
    (tcS : PySem.W.typeIn K (.ref cS) = some (.type "type"))
    (icS : PySem.W.isClsIn K cS = true)
    (gacS : PySem.W.findIn K (.ref cS) "__getattribute__" = some (some (.builtin "BaseException.__getattribute__")))
    (gtcS : PySem.W.findIn K (.ref cS) "__getattr__" = some none)
    (cacS : PySem.W.findIn K (.ref cS) "__class__" = some (some (.builtin "object.__class__")))
    (hmcS : PySem.W.mroIn K cS (.type "object") = some true)
    (ecS : PySem.W.subIn K (.ref cS) (.ref CE) = some true)
    (vcS : PySem.W.subIn K (.ref cS) (.type "ValueError") = some true)
    (ncScB : (Value.ref cS == Value.ref cB) = false)
    (qcScB : PySem.W.subIn K (.ref cS) (.ref cB) = some false)
    (ncScP : (Value.ref cS == Value.ref cP) = false)
    (qcScP : PySem.W.subIn K (.ref cS) (.ref cP) = some false)
    (ncScN : (Value.ref cS == Value.ref cN) = false)
    (qcScN : PySem.W.subIn K (.ref cS) (.ref cN) = some false)
    (ncScT : (Value.ref cS == Value.ref cT) = false)
    (qcScT : PySem.W.subIn K (.ref cS) (.ref cT) = some false)
    (icT : PySem.W.isClsIn K cT = true)
    (tcT : PySem.W.typeIn K (.ref cT) = some (.type "type"))
    (sCE : PySem.W.subIn K (.ref CE) (.type "BaseException") = some true)
    (hdCE : PySem.W.hasDictIn K CE = true)
    (tCE : PySem.W.typeIn K (.ref CE) = some (.type "type"))
    (rdCE : PySem.W.readsIn K CE (.type "type") = true)
    (gaCE : PySem.W.specialIn K (.ref CE) "__getattribute__" = some (some (.builtin "type.__getattribute__")))
    (inCE : PySem.W.findCls K (.ref CE) (.type "type") "__init__" = some (.val (.builtin "ValueError.__init__")))
    (xLS : K.lookup cS = some (excClassObj nmS qS cS NS bsS [.ref CE, .type "ValueError", .type "Exception", .type "BaseException", .type "object"] true snS subS abS colS ddS m0S m1S m2S m3S m5S "ValueError.__new__"))
    (saS_ : PySem.W.findIn K (.ref cS) "__setattr__" = some (some (.builtin "object.__setattr__")))
    (nfS : PySem.W.findIn K (.ref cS) "rings" = some none)
    (z_len : PySem.W.nsIn K mainGlobals "len" = some none)
    (z_range : PySem.W.nsIn K mainGlobals "range" = some none)
    (z_list : PySem.W.nsIn K mainGlobals "list" = some none)
    (z_all : PySem.W.nsIn K mainGlobals "all" = some none)
    (z_any : PySem.W.nsIn K mainGlobals "any" = some none)
    (z_isinstance : PySem.W.nsIn K mainGlobals "isinstance" = some none)
    (z_int : PySem.W.nsIn K mainGlobals "int" = some none)
    (z_bool : PySem.W.nsIn K mainGlobals "bool" = some none)
    (z_set : PySem.W.nsIn K mainGlobals "set" = some none)
    (z_tuple : PySem.W.nsIn K mainGlobals "tuple" = some none)
    (z_min : PySem.W.nsIn K mainGlobals "min" = some none)
    (z_sorted : PySem.W.nsIn K mainGlobals "sorted" = some none)
    (z_ValueError : PySem.W.nsIn K mainGlobals "ValueError" = some none)
    (c_MOST : PySem.W.nsIn K mainGlobals "MOST" = some (some (.int 6 t0)))
    : ∃ fd : FuncData, (∀ (s : Shared) (v : Value), BindsTo s fd ⟨[v], []⟩ [("_law_script", v)]) ∧ ∀ base : Heap, K.In base → base.Ns mainGlobals mg → FnOk P w K mg base CX0 9 fa fd ["_law_script"] (spLaw K) := by
  have T : Tx K mg C := ⟨⟨pg, hd, po, sa⟩, n_told, n_size, PySem.W.mg_of X G aC, PySem.W.mg_none_of X G z_len, PySem.W.mg_none_of X G z_range, PySem.W.mg_none_of X G z_list, PySem.W.mg_none_of X G z_all, PySem.W.mg_none_of X G z_any, PySem.W.mg_none_of X G z_isinstance, PySem.W.mg_none_of X G z_int, PySem.W.mg_none_of X G z_bool, PySem.W.mg_none_of X G z_set, PySem.W.mg_none_of X G z_tuple, ⟨_, PySem.W.mg_of X G c_MOST⟩⟩
  have OcB : Own K mg "BadCamp" cB := ⟨PySem.W.mg_of X G acB, xcB, kpcB, scB, tcB⟩
  have OcP : Own K mg "BadPairs" cP := ⟨PySem.W.mg_of X G acP, xcP, kpcP, scP, tcP⟩
  have OcN : Own K mg "NoCamper" cN := ⟨PySem.W.mg_of X G acN, xcN, kpcN, scN, tcN⟩
  have KcB : ExcK K cB := ⟨icB, gacB, gtcB, scB, cacB, hn, htk, hmcB⟩
  have McB : PySem.W.exmOne K (.ref cB) (.ref CE) = some true := PySem.W.exm_ref sCE hdCE tCE ecB
  have QcB : Kd K cB cP cN cS cT cB 0 := ⟨KcB, kit_eq, kit_cl ncBcP icP tcP qcBcP, kit_cl ncBcN icN tcN qcBcN, kit_cl ncBcS icS tcS qcBcS, kit_cl ncBcT icT tcT qcBcT, kit_ve (by decide +kernel) vcB⟩
  have KcP : ExcK K cP := ⟨icP, gacP, gtcP, scP, cacP, hn, htk, hmcP⟩
  have McP : PySem.W.exmOne K (.ref cP) (.ref CE) = some true := PySem.W.exm_ref sCE hdCE tCE ecP
  have QcP : Kd K cB cP cN cS cT cP 1 := ⟨KcP, kit_cl ncPcB icB tcB qcPcB, kit_eq, kit_cl ncPcN icN tcN qcPcN, kit_cl ncPcS icS tcS qcPcS, kit_cl ncPcT icT tcT qcPcT, kit_ve (by decide +kernel) vcP⟩
  have KcN : ExcK K cN := ⟨icN, gacN, gtcN, scN, cacN, hn, htk, hmcN⟩
  have McN : PySem.W.exmOne K (.ref cN) (.ref CE) = some true := PySem.W.exm_ref sCE hdCE tCE ecN
  have QcN : Kd K cB cP cN cS cT cN 2 := ⟨KcN, kit_cl ncNcB icB tcB qcNcB, kit_cl ncNcP icP tcP qcNcP, kit_eq, kit_cl ncNcS icS tcS qcNcS, kit_cl ncNcT icT tcT qcNcT, kit_ve (by decide +kernel) vcN⟩
  have KcS : ExcK K cS := ⟨icS, gacS, gtcS, scS, cacS, hn, htk, hmcS⟩
  have McS : PySem.W.exmOne K (.ref cS) (.ref CE) = some true := PySem.W.exm_ref sCE hdCE tCE ecS
  have QcS : Kd K cB cP cN cS cT cS 3 := ⟨KcS, kit_cl ncScB icB tcB qcScB, kit_cl ncScP icP tcP qcScP, kit_cl ncScN icN tcN qcScN, kit_eq, kit_cl ncScT icT tcT qcScT, kit_ve (by decide +kernel) vcS⟩
  have bas : Bas K mg "CampError" CE (.type "type") := ⟨PySem.W.mg_of X G aCE, rdCE, gaCE, inCE⟩
  have oS : OexC K cS := ⟨⟨nmS, qS, NS, bsS, _, snS, subS, abS, colS, ddS, m0S, m1S, m2S, m3S, m5S, xLS, rfl⟩, saS_, scS, tcS, kpcS⟩
  have ta : Ta K mg CS CR := ⟨⟨pgS, hdS, poS, saS⟩, ⟨pgR, hdR, poR, saR⟩, n_pairs, n_rings, PySem.W.mg_of X G aCS, PySem.W.mg_of X G aCR⟩
  have c5 : Cl5 mg cB cP cN cS cT := ⟨PySem.W.mg_of X G acB, PySem.W.mg_of X G acP, PySem.W.mg_of X G acN, PySem.W.mg_of X G acS, PySem.W.mg_of X G acT, PySem.W.mg_none_of X G z_ValueError⟩
  obtain ⟨f9, fd9, a9, F9⟩ := g_law
  have e := hfa.symm.trans (PySem.W.mg_of X G a9)
  cases e
  obtain ⟨oc, od, kV, doc, pm, an, cdv, ct, osl, rfl, lk, hcd⟩ := F9.ex
  refine ⟨PySem.W.fnOf "law" "law" (defArgs s_law) (defBody s_law) (defScope s_law) .none kV doc pm an cdv ct, fun s v => .of_eq rfl, fun base _ _ => ?_⟩
  have Mw : Mt P w K mg base C "would" 1 (spWould K C) := g_Camp_would.mt ["self", "one", "other"] (fun _ _ F => ok_would F T) (fun _ _ _ _ _ _ us hl => match us, hl with | [_, _, _], _ => rfl)
  have Mr : Mt P w K mg base C "rather" 1 (spRather K C) := g_Camp_rather.mt ["self", "camper", "one", "other"] (fun _ _ F => ok_rather F T) (fun _ _ _ _ _ _ us hl => match us, hl with | [_, _, _, _], _ => rfl)
  have Dw : Df P w K mg base "within" 1 spWithin := g_within.df ["number", "low", "high"] X G (fun _ _ F => ok_within F T) (fun _ _ _ _ _ _ us hl => match us, hl with | [_, _, _], _ => rfl)
  have Dop : Df P w K mg base "open_pairs" 2 (spOpen K C) := g_open_pairs.df ["camp"] X G (fun _ _ F => ok_open F T Mw) (fun _ _ _ _ _ _ us hl => match us, hl with | [_], _ => rfl)
  have Mk : Mkr P w K mg base C 2 (spCamp C) := g_Camp___init__.mkr ["self", "lists"] mk kc (fun _ _ F => ok_camp F T Dw) (fun _ _ _ _ _ _ us hl => match us, hl with | [_, _], _ => rfl)
  have MkR : MkrX P w K mg base C 2 (spCampR C cB) := g_Camp___init__.mkrX ["self", "lists"] mk kc (fun _ _ F => ok_campR F T OcB Dw) (fun _ _ _ _ _ _ us hl => match us, hl with | [_, _], _ => rfl)
  have Mc : Mt P w K mg base C "camper" 2 (spCamper K C) := g_Camp_camper.mt ["self", "at"] (fun _ _ F => ok_camper F T Dw) (fun _ _ _ _ _ _ us hl => match us, hl with | [_, _], _ => rfl)
  have McR : MtX P w K mg base C "camper" 2 (spCamperR K C cN) := g_Camp_camper.mtX ["self", "at"] (fun _ _ F => ok_camperR F T OcN Dw) (fun _ _ _ _ _ _ us hl => match us, hl with | [_, _], _ => rfl)
  have Dm : Df P w K mg base "mates_of" 1 (spMates K C) := g_mates_of.df ["camp", "pairs"] X G (fun _ _ F => ok_mates F T) (fun _ _ _ _ _ _ us hl => match us, hl with | [_, _], _ => rfl)
  have Dc : Df P w K mg base "check_pairs" 2 (spCheck K C) := g_check_pairs.df ["camp", "pairs"] X G (fun _ _ F => ok_check F T Dw Mw) (fun _ _ _ _ _ _ us hl => match us, hl with | [_, _], _ => rfl)
  have DcR : DfX P w K mg base "check_pairs" 2 (spCheckR K C cP) := g_check_pairs.dfX ["camp", "pairs"] X G (fun _ _ F => ok_checkR F T OcP Dw Mw) (fun _ _ _ _ _ _ us hl => match us, hl with | [_, _], _ => rfl)
  have Db : Df P w K mg base "breaking" 3 (spBreaking K C) := g_breaking.df ["camp", "pairs"] X G (fun _ _ F => ok_breaking F T Dc Dm Dop Mr) (fun _ _ _ _ _ _ us hl => match us, hl with | [_, _], _ => rfl)
  have DbR : DfX P w K mg base "breaking" 3 (spBreakR K C cP) := g_breaking.dfX ["camp", "pairs"] X G (fun _ _ F => ok_breakR F DcR) (fun _ _ _ _ _ _ us hl => match us, hl with | [_, _], _ => rfl)
  have Dis : Df P w K mg base "is_steady" 2 (spIs K C) := g_is_steady.df ["camp", "pairs", "mates"] X G (fun _ _ F => ok_is F T Mr) (fun _ _ _ _ _ _ us hl => match us, hl with | [_, _, _], _ => rfl)
  have Dpa : Df P w K mg base "pairings" 3 (spPairings K C) := g_pairings.df ["camp"] X G (fun _ _ F => ok_pairings F T (PySem.W.mg_none_of X G z_sorted) Dop) (fun _ _ _ _ _ _ us hl => match us, hl with | [_], _ => rfl)
  have Das : Df P w K mg base "all_steady" 4 (spAll K C) := g_all_steady.df ["camp"] X G (fun _ _ F => ok_all F T Dop Dpa Dis Dm) (fun _ _ _ _ _ _ us hl => match us, hl with | [_], _ => rfl)
  have Dfi : Df P w K mg base "fits" 2 (spFits K C) := g_fits.df ["camp", "some", "camper", "other"] X G (fun _ _ F => ok_fits F T Mw Mr) (fun _ _ _ _ _ _ us hl => match us, hl with | [_, _, _, _], _ => rfl)
  have Dne : Df P w K mg base "all_nexts" 3 (spNexts K C) := g_all_nexts.df ["camp"] X G (fun _ _ F => ok_nexts F T Dfi) (fun _ _ _ _ _ _ us hl => match us, hl with | [_], _ => rfl)
  have Dro : Df P w K mg base "rings_of" 1 spRingsOf := g_rings_of.df ["nexts"] X G (fun _ _ F => ok_ringsof F T) (fun _ _ _ _ _ _ us hl => match us, hl with | [_], _ => rfl)
  have Dbe : Df P w K mg base "behind_of" 1 spBehind := g_behind_of.df ["rings"] X G (fun _ _ F => ok_behind F T) (fun _ _ _ _ _ _ us hl => match us, hl with | [_], _ => rfl)
  have Dgo : Df P w K mg base "good_rings" 3 (spGood K C) := g_good_rings.df ["camp", "rings"] X G (fun _ _ F => ok_good F T Mw Mr Dop Dbe) (fun _ _ _ _ _ _ us hl => match us, hl with | [_, _], _ => rfl)
  have MS : Mkr P w K mg base CS 1 (spSteady CS) := g_Steady___init__.mkr ["self", "pairs"] mkS kcS (fun _ _ F => ok_steady F T ta) (fun _ _ _ _ _ _ us hl => match us, hl with | [_, _], _ => rfl)
  have MR : Mkr P w K mg base CR 1 (spRings CR) := g_Rings___init__.mkr ["self", "rings"] mkR kcR (fun _ _ F => ok_rings F T ta) (fun _ _ _ _ _ _ us hl => match us, hl with | [_, _], _ => rfl)
  have Dte : Df P w K mg base "telling" 5 (spTell K C CS CR) := g_telling.df ["camp"] X G (fun _ _ F => ok_telling F T ta Das Dne Dro Dgo MS MR) (fun _ _ _ _ _ _ us hl => match us, hl with | [_], _ => rfl)
  have ON : OwnX P w K mg base "NoneSteady" cS "rings" := g_NoneSteady___init__.ownX ["self", "rings"] (PySem.W.mg_of X G acS) oS nfS (fun _ _ F => ok_noneInit F bas oS nfS) (fun _ _ _ _ _ _ us hl => match us, hl with | [_, _], _ => rfl)
  have DcS : DfX P w K mg base "check_steady" 6 (spSteadyR K C cS) := g_check_steady.dfX ["camp"] X G (fun _ _ F => ok_checkSR F T ta ON Das Dte) (fun _ _ _ _ _ _ us hl => match us, hl with | [_], _ => rfl)
  have DmN : DfX P w K mg base "mates" 3 (spMatesN K C cN) := g_mates.dfX ["camp", "camper"] X G (fun _ _ F => ok_matesN F T McR) (fun _ _ _ _ _ _ us hl => match us, hl with | [_, _], _ => rfl)
  have DmS : DfX P w K mg base "mates" 7 (spMatesS K C cS) := g_mates.dfX ["camp", "camper"] X G (fun _ _ F => ok_matesS F T Mc DcS) (fun _ _ _ _ _ _ us hl => match us, hl with | [_, _], _ => rfl)
  have Lc : Df P w K mg base "_law_cell_at" 1 (spCell K) := g_L_cell_at.df ["_law_script", "_law_k"] X G (fun _ _ F => ok_cell F T) (fun _ _ _ _ _ _ us hl => match us, hl with | [_, _], _ => rfl)
  have Lso : DfE P w K mg base "_law_sort" 1 (spSort K cB cP cN cS cT) := g_L_sort.dfE ["_law_error"] X G (fun _ _ F => ok_sort F T c5) (fun _ _ _ _ _ _ us hl => match us, hl with | [_], _ => rfl)
  have Las : Df P w K mg base "_law_asked" 8 spAsked := g_L_asked.df ["_law_door", "_law_thing"] X G (fun _ _ F => ok_asked F T ⟨c5, Mk, MkR, DbR, DmN, DmS, Lso, PySem.W.mg_of X G aCE, McB, McP, McN, McS, QcB, QcP, QcN, QcS⟩) (fun _ _ _ _ _ _ us hl => match us, hl with | [_, _], _ => rfl)
  exact ok_law F9 T ⟨Mk, Lc, Las, Das, Db⟩
theorem walk {l : PySem.W.OpenLaw} {q : Program} {loose : List Str} {XP : (Str → Option Value) → Heap → Prop} {YP : World → Heap → Prop} {d : DefRec} {K : Params → PySem.W.Frag} (hn : l.most = some 63) (hdf : d.params.defaults = [])
    (hY : ∀ (w : World) (h : Heap), YP w h → (K w.params).In h)
    (F : ∀ (w : World) (mg : Str → Option Value) (fa : Addr) (h : Heap), (K w.params).In h → h.Ns mainGlobals mg → mg d.name = some (.ref fa) →
      ∃ fd : FuncData, (∀ (s : Shared) (u : Value), BindsTo s fd ⟨[u], []⟩ [("_law_script", u)]) ∧ ∀ base : Heap, (K w.params).In base → base.Ns mainGlobals mg → FnOk l.prog w (K w.params) mg base CX0 9 fa fd ["_law_script"] (spLaw (K w.params))) :
    PySem.W.WalkO q loose XP YP l.row.toRowW d [] (fun f vs => PySem.call f vs) :=
  L2.walk_of (n := 63) (k := 9) (x := "_law_script") (CX := fun _ => CX0) (sp := fun w => spLaw (K w.params)) hn (by decide) hdf ⟨by decide, by decide, by decide⟩ hY F (fun _ _ a ns hl _ hS => ⟨a, ns, rfl, hS, hl, fun _ => rfl⟩) fun _ _ _ _ _ z => z
end TP

open PySem PySem.W PyProof.Rows in
set_option maxRecDepth 100000 in
set_option maxHeartbeats 0 in
theorem PySem.Challenge.cw_tentpairs_k07_refused_holds : PySem.Challenge.rw_tentpairs_k07_refused.Holds := by
  w_on; o_law; k_head; (case hw => w_witness2)
  k_fill
  refine TP.walk (l := PySem.Challenge.rw_tentpairs_k07_refused) rfl rfl (fun w h Y => PySem.W.kIn_of Y) ?F
  case F =>
    intro w mg fa h KX G hmg
    refine' TP.all_mk KX G hmg ?aC ?aCS ?aCR ?aCE ?acB ?acP ?acN ?acS ?acT ?g_Camp_would ?g_Camp_rather ?g_within ?g_open_pairs ?g_Camp___init__ ?g_Camp_camper ?g_mates_of ?g_check_pairs ?g_breaking ?g_is_steady ?g_pairings ?g_all_steady ?g_fits ?g_all_nexts ?g_rings_of ?g_behind_of ?g_good_rings ?g_Steady___init__ ?g_Rings___init__ ?g_telling ?g_NoneSteady___init__ ?g_check_steady ?g_mates ?g_L_cell_at ?g_L_sort ?g_L_asked ?g_law ?pg ?hd ?po ?sa ?mk ?kc ?n_told ?n_size ?pgS ?hdS ?poS ?saS ?mkS ?kcS ?n_pairs ?pgR ?hdR ?poR ?saR ?mkR ?kcR ?n_rings ?hn ?htk ?xcB ?xcP ?xcN ?kpcB ?scB ?tcB ?icB ?gacB ?gtcB ?cacB ?hmcB ?ecB ?vcB ?ncBcP ?qcBcP ?ncBcN ?qcBcN ?ncBcS ?qcBcS ?ncBcT ?qcBcT ?kpcP ?scP ?tcP ?icP ?gacP ?gtcP ?cacP ?hmcP ?ecP ?vcP ?ncPcB ?qcPcB ?ncPcN ?qcPcN ?ncPcS ?qcPcS ?ncPcT ?qcPcT ?kpcN ?scN ?tcN ?icN ?gacN ?gtcN ?cacN ?hmcN ?ecN ?vcN ?ncNcB ?qcNcB ?ncNcP ?qcNcP ?ncNcS ?qcNcS ?ncNcT ?qcNcT ?kpcS ?scS ?tcS ?icS ?gacS ?gtcS ?cacS ?hmcS ?ecS ?vcS ?ncScB ?qcScB ?ncScP ?qcScP ?ncScN ?qcScN ?ncScT ?qcScT ?icT ?tcT ?sCE ?hdCE ?tCE ?rdCE ?gaCE ?inCE ?xLS ?saS_ ?nfS ?z_len ?z_range ?z_list ?z_all ?z_any ?z_isinstance ?z_int ?z_bool ?z_set ?z_tuple ?z_min ?z_sorted ?z_ValueError ?c_MOST
    (case aC => k_is)
    (case aCS => k_is)
    (case aCR => k_is)
    (case aCE => k_is)
    (case acB => k_is)
    (case acP => k_is)
    (case acN => k_is)
    (case acS => k_is)
    (case acT => k_is)
    (case g_Camp_would => (refine' TP.gm_mk ?ga ?gi ?gl ?gc ?gk; (case ga => k_is); (case gi => k_is); (case gl => k_is); (case gc => k_is); (case gk => k_is)))
    (case g_Camp_rather => (refine' TP.gm_mk ?ga ?gi ?gl ?gc ?gk; (case ga => k_is); (case gi => k_is); (case gl => k_is); (case gc => k_is); (case gk => k_is)))
    (case g_within => (refine' TP.gf_mk ?ga ?gl ?gc ?gk; (case ga => k_is); (case gl => k_is); (case gc => k_is); (case gk => k_is)))
    (case g_open_pairs => (refine' TP.gf_mk ?ga ?gl ?gc ?gk; (case ga => k_is); (case gl => k_is); (case gc => k_is); (case gk => k_is)))
    (case g_Camp___init__ => (refine' TP.gm_mk ?ga ?gi ?gl ?gc ?gk; (case ga => k_is); (case gi => k_is); (case gl => k_is); (case gc => k_is); (case gk => k_is)))
    (case g_Camp_camper => (refine' TP.gm_mk ?ga ?gi ?gl ?gc ?gk; (case ga => k_is); (case gi => k_is); (case gl => k_is); (case gc => k_is); (case gk => k_is)))
    (case g_mates_of => (refine' TP.gf_mk ?ga ?gl ?gc ?gk; (case ga => k_is); (case gl => k_is); (case gc => k_is); (case gk => k_is)))
    (case g_check_pairs => (refine' TP.gf_mk ?ga ?gl ?gc ?gk; (case ga => k_is); (case gl => k_is); (case gc => k_is); (case gk => k_is)))
    (case g_breaking => (refine' TP.gf_mk ?ga ?gl ?gc ?gk; (case ga => k_is); (case gl => k_is); (case gc => k_is); (case gk => k_is)))
    (case g_is_steady => (refine' TP.gf_mk ?ga ?gl ?gc ?gk; (case ga => k_is); (case gl => k_is); (case gc => k_is); (case gk => k_is)))
    (case g_pairings => (refine' TP.gf_mk ?ga ?gl ?gc ?gk; (case ga => k_is); (case gl => k_is); (case gc => k_is); (case gk => k_is)))
    (case g_all_steady => (refine' TP.gf_mk ?ga ?gl ?gc ?gk; (case ga => k_is); (case gl => k_is); (case gc => k_is); (case gk => k_is)))
    (case g_fits => (refine' TP.gf_mk ?ga ?gl ?gc ?gk; (case ga => k_is); (case gl => k_is); (case gc => k_is); (case gk => k_is)))
    (case g_all_nexts => (refine' TP.gf_mk ?ga ?gl ?gc ?gk; (case ga => k_is); (case gl => k_is); (case gc => k_is); (case gk => k_is)))
    (case g_rings_of => (refine' TP.gf_mk ?ga ?gl ?gc ?gk; (case ga => k_is); (case gl => k_is); (case gc => k_is); (case gk => k_is)))
    (case g_behind_of => (refine' TP.gf_mk ?ga ?gl ?gc ?gk; (case ga => k_is); (case gl => k_is); (case gc => k_is); (case gk => k_is)))
    (case g_good_rings => (refine' TP.gf_mk ?ga ?gl ?gc ?gk; (case ga => k_is); (case gl => k_is); (case gc => k_is); (case gk => k_is)))
    (case g_Steady___init__ => (refine' TP.gm_mk ?ga ?gi ?gl ?gc ?gk; (case ga => k_is); (case gi => k_is); (case gl => k_is); (case gc => k_is); (case gk => k_is)))
    (case g_Rings___init__ => (refine' TP.gm_mk ?ga ?gi ?gl ?gc ?gk; (case ga => k_is); (case gi => k_is); (case gl => k_is); (case gc => k_is); (case gk => k_is)))
    (case g_telling => (refine' TP.gf_mk ?ga ?gl ?gc ?gk; (case ga => k_is); (case gl => k_is); (case gc => k_is); (case gk => k_is)))
    (case g_NoneSteady___init__ => (refine' TP.gm_mk ?ga ?gi ?gl ?gc ?gk; (case ga => k_is); (case gi => k_is); (case gl => k_is); (case gc => k_is); (case gk => k_is)))
    (case g_check_steady => (refine' TP.gf_mk ?ga ?gl ?gc ?gk; (case ga => k_is); (case gl => k_is); (case gc => k_is); (case gk => k_is)))
    (case g_mates => (refine' TP.gf_mk ?ga ?gl ?gc ?gk; (case ga => k_is); (case gl => k_is); (case gc => k_is); (case gk => k_is)))
    (case g_L_cell_at => (refine' TP.gf_mk ?ga ?gl ?gc ?gk; (case ga => k_is); (case gl => k_is); (case gc => k_is); (case gk => k_is)))
    (case g_L_sort => (refine' TP.gf_mk ?ga ?gl ?gc ?gk; (case ga => k_is); (case gl => k_is); (case gc => k_is); (case gk => k_is)))
    (case g_L_asked => (refine' TP.gf_mk ?ga ?gl ?gc ?gk; (case ga => k_is); (case gl => k_is); (case gc => k_is); (case gk => k_is)))
    (case g_law => (refine' TP.gf_mk ?ga ?gl ?gc ?gk; (case ga => k_is); (case gl => k_is); (case gc => k_is); (case gk => k_is)))
    (case pg => k_is)
    (case hd => k_is)
    (case po => k_is)
    (case sa => k_is)
    (case mk => k_is)
    (case kc => k_is)
    (case n_told => k_is)
    (case n_size => k_is)
    (case pgS => k_is)
    (case hdS => k_is)
    (case poS => k_is)
    (case saS => k_is)
    (case mkS => k_is)
    (case kcS => k_is)
    (case n_pairs => k_is)
    (case pgR => k_is)
    (case hdR => k_is)
    (case poR => k_is)
    (case saR => k_is)
    (case mkR => k_is)
    (case kcR => k_is)
    (case n_rings => k_is)
    (case hn => k_is)
    (case htk => k_is)
    (case xcB => k_exc)
    (case xcP => k_exc)
    (case xcN => k_exc)
    (case kpcB => k_is)
    (case scB => k_is)
    (case tcB => k_is)
    (case icB => k_is)
    (case gacB => k_is)
    (case gtcB => k_is)
    (case cacB => k_is)
    (case hmcB => k_is)
    (case ecB => k_is)
    (case vcB => k_is)
    (case ncBcP => rfl)
    (case qcBcP => k_is)
    (case ncBcN => rfl)
    (case qcBcN => k_is)
    (case ncBcS => rfl)
    (case qcBcS => k_is)
    (case ncBcT => rfl)
    (case qcBcT => k_is)
    (case kpcP => k_is)
    (case scP => k_is)
    (case tcP => k_is)
    (case icP => k_is)
    (case gacP => k_is)
    (case gtcP => k_is)
    (case cacP => k_is)
    (case hmcP => k_is)
    (case ecP => k_is)
    (case vcP => k_is)
    (case ncPcB => rfl)
    (case qcPcB => k_is)
    (case ncPcN => rfl)
    (case qcPcN => k_is)
    (case ncPcS => rfl)
    (case qcPcS => k_is)
    (case ncPcT => rfl)
    (case qcPcT => k_is)
    (case kpcN => k_is)
    (case scN => k_is)
    (case tcN => k_is)
    (case icN => k_is)
    (case gacN => k_is)
    (case gtcN => k_is)
    (case cacN => k_is)
    (case hmcN => k_is)
    (case ecN => k_is)
    (case vcN => k_is)
    (case ncNcB => rfl)
    (case qcNcB => k_is)
    (case ncNcP => rfl)
    (case qcNcP => k_is)
    (case ncNcS => rfl)
    (case qcNcS => k_is)
    (case ncNcT => rfl)
    (case qcNcT => k_is)
    (case kpcS => k_is)
    (case scS => k_is)
    (case tcS => k_is)
    (case icS => k_is)
    (case gacS => k_is)
    (case gtcS => k_is)
    (case cacS => k_is)
    (case hmcS => k_is)
    (case ecS => k_is)
    (case vcS => k_is)
    (case ncScB => rfl)
    (case qcScB => k_is)
    (case ncScP => rfl)
    (case qcScP => k_is)
    (case ncScN => rfl)
    (case qcScN => k_is)
    (case ncScT => rfl)
    (case qcScT => k_is)
    (case icT => k_is)
    (case tcT => k_is)
    (case sCE => k_is)
    (case hdCE => k_is)
    (case tCE => k_is)
    (case rdCE => k_is)
    (case gaCE => k_is)
    (case inCE => k_is)
    (case xLS => k_is)
    (case saS_ => k_is)
    (case nfS => k_is)
    (case z_len => k_is)
    (case z_range => k_is)
    (case z_list => k_is)
    (case z_all => k_is)
    (case z_any => k_is)
    (case z_isinstance => k_is)
    (case z_int => k_is)
    (case z_bool => k_is)
    (case z_set => k_is)
    (case z_tuple => k_is)
    (case z_min => k_is)
    (case z_sorted => k_is)
    (case z_ValueError => k_is)
    (case c_MOST => k_is)
#print axioms PySem.Challenge.cw_tentpairs_k07_refused_holds

