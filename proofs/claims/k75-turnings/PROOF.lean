import PyProof.Rows.All
import Wide.All
import OpenK.AllK
import Wide.FinOn
import HandS.ForMost
import HandS.Exc
import HandS.TryOnly
import HandS.TryMany
import HandS.ExcOwn
import HandS.ExcInit
import HandS.WordsExc
import HandS.Small
import HandS.IsInst
import HandS.Wide
import HandS.TupAny
import HandS.Deep
import HandS.Walk
import HandS.SortInts
import HandS.TupMul
import HandS.Defaults
import KE.GoesMore
import KE.GoesEnum
import HandS.Head0
import HandS.Head1
import HandS.Head2
import HandS.HeadEnd
import HandS.HeadHook1
import HandS.HeadHook2
import HandS.HeadHook4
import HandS.ExcIs
import PySem.Challenge.RW_onereader_k75_turnings
set_option Elab.async false
set_option linter.all false
set_option maxRecDepth 100000
set_option maxHeartbeats 4000000
namespace Mi
open PySem PySem.Spec PyProof.Rows L2

/-! ### data -/
inductive D where
  | non | bl (b : Bool) | int (i : Int) | str (x : Str)
  | tup (ds : List D) | lst (ds : List D)
  | dic (ks vs : List D)
  | obj (c : Str) (ns : List Str) (vs : List D)
/-- the world: the written part, the own classes by name -/
structure Wd where
  K : PySem.W.Frag
  cl : Str → Addr
  xf : Str → List Str
def keyD : Key → D
  | .inl i => .int i
  | .inr x => .str x

mutual
def Rp (w : Wd) (H : Hp) : V → D → Prop
  | v, .non => v = .non
  | v, .bl b => v = .bl b
  | v, .int i => v = .int i
  | v, .str x => v = .str x
  | v, .tup ds => ∃ a vs, v = .ref a ∧ SqT w.K H a vs ∧ RpL w H vs ds
  | v, .lst ds => ∃ a vs, v = .ref a ∧ H a = some (.lst vs) ∧ RpL w H vs ds
  | v, .dic ks ds => ∃ a vs, v = .ref a ∧ ((∃ m : List (Key × V), Rd H a (.dK m) ∧ m.map (fun p => keyD p.1) = ks ∧ m.map (·.2) = vs) ∨
      (∃ m : List (List Key × V), Rd H a (.dT m) ∧ m.map (fun p => D.tup (p.1.map keyD)) = ks ∧ m.map (·.2) = vs)) ∧ RpL w H vs ds
  | v, .obj c ns ds => ∃ a dx vs, v = .ref a ∧ H a = some (.ins (w.cl c) dx (ns.zip vs)) ∧ RpL w H vs ds ∧ ns.length = vs.length
def RpL (w : Wd) (H : Hp) : List V → List D → Prop
  | [], [] => True
  | v :: vs, d :: ds => Rp w H v d ∧ RpL w H vs ds
  | [], _ :: _ => False
  | _ :: _, [] => False
end
mutual
/-- the same, a list anywhere -/
def Rq (w : Wd) (H : Hp) : V → D → Prop
  | v, .non => v = .non
  | v, .bl b => v = .bl b
  | v, .int i => v = .int i
  | v, .str x => v = .str x
  | v, .tup ds => ∃ a vs, v = .ref a ∧ SqT w.K H a vs ∧ RqL w H vs ds
  | v, .lst ds => ∃ a vs, v = .ref a ∧ SqL w.K H a vs ∧ RqL w H vs ds
  | v, .dic ks ds => Rp w H v (.dic ks ds)
  | v, .obj c ns ds => Rp w H v (.obj c ns ds)
def RqL (w : Wd) (H : Hp) : List V → List D → Prop
  | [], [] => True
  | v :: vs, d :: ds => Rq w H v d ∧ RqL w H vs ds
  | [], _ :: _ => False
  | _ :: _, [] => False
end
/-- all that is tracked stays -/
def Ex (H H' : Hp) : Prop := ∀ a o, H a = some o → H' a = some o
def hide (H : Hp) (O : List Addr) : Hp := fun a => if a ∈ O then none else H a
/-- allocated -/
def Al (H : Hp) (O : List Addr) : Prop := ∀ a ∈ O, ∃ o, H a = some o
section
variable {w : Wd} {H H' H1 H2 H3 : Hp} {O O' O1 : List Addr} {a p : Addr} {v : V} {d : D} {vs : List V} {ds : List D}
theorem Ex.refl (H : Hp) : Ex H H := fun _ _ h => h
theorem Ex.trans (a : Ex H1 H2) (b : Ex H2 H3) : Ex H1 H3 := fun c o h => b c o (a c o h)
theorem Ex.new {o : HO} (h : H p = none) : Ex H (upd H p o) := fun a u e => by
  rw [upd_ne (ne_of_none e h)]
  exact e
theorem Ex.mut {o : HO} (e : Ex H H') (h : H p = none) : Ex H (upd H' p o) := fun a u ha => by
  rw [upd_ne (ne_of_none ha h)]
  exact e a u ha
theorem fresh_back (e : Ex H H') (h : H' p = none) : H p = none := by
  cases h1 : H p with
  | none => rfl
  | some o =>
    rw [e p o h1] at h
    cases h
theorem Al.ex (h : Al H O) (e : Ex H H') : Al H' O := fun a ha => by
  obtain ⟨o, q⟩ := h a ha
  exact ⟨o, e _ _ q⟩
theorem Al.not (h : Al H O) (n : H p = none) : p ∉ O := fun z => by
  obtain ⟨o, q⟩ := h p z
  rw [n] at q
  cases q
theorem ex_rd {u : HO} (e : Ex H H') (h : Rd H a u) : Rd H' a u := by
  rcases h with h | ⟨o, h⟩
  · exact .inl (e _ _ h)
  · exact .inr ⟨o, e _ _ h⟩
theorem ex_l {K : PySem.W.Frag} (e : Ex H H') (h : SqL K H a vs) : SqL K H' a vs := by
  rcases h with h | h
  · exact .inl (ex_rd e h)
  · exact .inr h
theorem ex_t {K : PySem.W.Frag} (e : Ex H H') (h : SqT K H a vs) : SqT K H' a vs := by
  rcases h with h | h
  · exact .inl (ex_rd e h)
  · exact .inr h
mutual
theorem Rp.ex (e : Ex H H') : ∀ {d : D} {v : V}, Rp w H v d → Rp w H' v d
  | .non, _, h => by simpa only [Rp] using h
  | .bl _, _, h => by simpa only [Rp] using h
  | .int _, _, h => by simpa only [Rp] using h
  | .str _, _, h => by simpa only [Rp] using h
  | .tup ds, _, h => by
    simp only [Rp] at h ⊢
    obtain ⟨a, vs, h1, h2, h3⟩ := h
    exact ⟨a, vs, h1, ex_t e h2, RpL.ex e h3⟩
  | .lst ds, _, h => by
    simp only [Rp] at h ⊢
    obtain ⟨a, vs, h1, h2, h3⟩ := h
    exact ⟨a, vs, h1, e _ _ h2, RpL.ex e h3⟩
  | .dic ks ds, _, h => by
    simp only [Rp] at h ⊢
    obtain ⟨a, vs, h1, h2, h3⟩ := h
    refine ⟨a, vs, h1, ?_, RpL.ex e h3⟩
    rcases h2 with ⟨m, r, h2⟩ | ⟨m, r, h2⟩
    · exact .inl ⟨m, ex_rd e r, h2⟩
    · exact .inr ⟨m, ex_rd e r, h2⟩
  | .obj c ns ds, _, h => by
    simp only [Rp] at h ⊢
    obtain ⟨a, dx, vs, h1, h2, h3, h4⟩ := h
    exact ⟨a, dx, vs, h1, e _ _ h2, RpL.ex e h3, h4⟩
theorem RpL.ex (e : Ex H H') : ∀ {ds : List D} {vs : List V}, RpL w H vs ds → RpL w H' vs ds
  | [], [], _ => by simp only [RpL]
  | _ :: _, [], h => by simp only [RpL] at h
  | [], _ :: _, h => by simp only [RpL] at h
  | d :: ds, v :: vs, h => by
    simp only [RpL] at h ⊢
    exact ⟨Rp.ex e h.1, RpL.ex e h.2⟩
end
mutual
theorem Rp.rq : ∀ {d : D} {v : V}, Rp w H v d → Rq w H v d
  | .non, _, h => by simpa only [Rp, Rq] using h
  | .bl _, _, h => by simpa only [Rp, Rq] using h
  | .int _, _, h => by simpa only [Rp, Rq] using h
  | .str _, _, h => by simpa only [Rp, Rq] using h
  | .tup ds, _, h => by
    simp only [Rp] at h
    obtain ⟨a, vs, h1, h2, h3⟩ := h
    simp only [Rq]
    exact ⟨a, vs, h1, h2, RpL.rq h3⟩
  | .lst ds, _, h => by
    simp only [Rp] at h
    obtain ⟨a, vs, h1, h2, h3⟩ := h
    simp only [Rq]
    exact ⟨a, vs, h1, .of h2, RpL.rq h3⟩
  | .dic ks ds, _, h => by simpa only [Rq] using h
  | .obj c ns ds, _, h => by simpa only [Rq] using h
theorem RpL.rq : ∀ {ds : List D} {vs : List V}, RpL w H vs ds → RqL w H vs ds
  | [], [], _ => by simp only [RqL]
  | _ :: _, [], h => by simp only [RpL] at h
  | [], _ :: _, h => by simp only [RpL] at h
  | d :: ds, v :: vs, h => by
    simp only [RpL] at h
    simp only [RqL]
    exact ⟨Rp.rq h.1, RpL.rq h.2⟩
end
theorem RqL.length : ∀ {ds : List D} {vs : List V}, RqL w H vs ds → vs.length = ds.length
  | [], [], _ => rfl
  | _ :: _, [], h => by simp only [RqL] at h
  | [], _ :: _, h => by simp only [RqL] at h
  | d :: ds, v :: vs, h => by
    simp only [RqL] at h
    rw [List.length_cons, List.length_cons, RqL.length h.2]
theorem RqL.ints : ∀ ns : List Int, RqL w H (ns.map V.int) (ns.map D.int)
  | [] => by simp only [List.map_nil, RqL]
  | n :: ns => by
    simp only [List.map_cons, RqL, Rq]
    exact ⟨trivial, RqL.ints ns⟩
theorem RpL.ints : ∀ ns : List Int, RpL w H (ns.map V.int) (ns.map D.int)
  | [] => by simp only [List.map_nil, RpL]
  | n :: ns => by
    simp only [List.map_cons, RpL, Rp]
    exact ⟨trivial, RpL.ints ns⟩
theorem hide_sub : Ex (hide H O) H := fun a o h => by
  unfold hide at h
  split at h
  · cases h
  · exact h
theorem hide_ex (e : Ex H H') : Ex (hide H O) (hide H' O) := fun a o h => by
  unfold hide at h ⊢
  split at h
  · cases h
  · rename_i n
    rw [if_neg n]
    exact e _ _ h
theorem hide_less (h : ∀ a ∈ O', a ∈ O) : Ex (hide H O) (hide H O') := fun a o e => by
  unfold hide at e ⊢
  split at e
  · cases e
  · rename_i n
    rw [if_neg fun z => n (h a z)]
    exact e
theorem hide_nil : hide H [] = H := by
  funext a
  simp [hide]
theorem hide_at {o : HO} (h : H p = some o) (n : p ∉ O) : hide H O p = some o := by
  unfold hide
  rw [if_neg n]
  exact h
theorem hide_in (n : p ∈ O) : hide H O p = none := by
  unfold hide
  rw [if_pos n]
theorem hide_none (n : H p = none) : hide H O p = none := by
  unfold hide
  split
  · rfl
  · exact n
theorem hide_app : hide (hide H O) O' = hide H (O ++ O') := by
  funext a
  unfold hide
  by_cases h : a ∈ O' <;> by_cases g : a ∈ O <;> simp [h, g]
/-- what is hidden may change -/
theorem hide_upd {o : HO} (h : p ∈ O) : hide (upd H p o) O = hide H O := by
  funext a
  unfold hide
  by_cases q : a ∈ O
  · rw [if_pos q, if_pos q]
  · rw [if_neg q, if_neg q, upd_ne]
    intro e
    exact q (e ▸ h)
theorem RpL.length : ∀ {ds : List D} {vs : List V}, RpL w H vs ds → vs.length = ds.length
  | [], [], _ => rfl
  | _ :: _, [], h => by simp only [RpL] at h
  | [], _ :: _, h => by simp only [RpL] at h
  | d :: ds, v :: vs, h => by
    simp only [RpL] at h
    rw [List.length_cons, List.length_cons, RpL.length h.2]
theorem RpL.get : ∀ {ds : List D} {vs : List V} {i : Nat} {d : D}, RpL w H vs ds → ds[i]? = some d → ∃ v, vs[i]? = some v ∧ Rp w H v d
  | [], [], _, _, _, e => by simp at e
  | _ :: _, [], _, _, h, _ => by simp only [RpL] at h
  | [], _ :: _, _, _, h, _ => by simp only [RpL] at h
  | d :: ds, v :: vs, 0, _, h, e => by
    simp only [RpL] at h
    simp only [List.getElem?_cons_zero, Option.some.injEq] at e
    subst e
    exact ⟨v, rfl, h.1⟩
  | d :: ds, v :: vs, i + 1, _, h, e => by
    simp only [RpL] at h
    simp only [List.getElem?_cons_succ] at e
    obtain ⟨u, h1, h2⟩ := RpL.get h.2 e
    exact ⟨u, by simpa using h1, h2⟩
theorem RpL.app : ∀ {ds es : List D} {vs us : List V}, RpL w H vs ds → RpL w H us es → RpL w H (vs ++ us) (ds ++ es)
  | [], _, [], _, _, g => g
  | _ :: _, _, [], _, h, _ => by simp only [RpL] at h
  | [], _, _ :: _, _, h, _ => by simp only [RpL] at h
  | d :: ds, es, v :: vs, us, h, g => by
    simp only [RpL, List.cons_append] at h ⊢
    exact ⟨h.1, RpL.app h.2 g⟩
theorem RpL.take : ∀ {ds : List D} {vs : List V} (n : Nat), RpL w H vs ds → RpL w H (vs.take n) (ds.take n)
  | _, _, 0, _ => by simp [RpL]
  | [], [], n + 1, _ => by simp [RpL]
  | _ :: _, [], _ + 1, h => by simp only [RpL] at h
  | [], _ :: _, _ + 1, h => by simp only [RpL] at h
  | d :: ds, v :: vs, n + 1, h => by
    simp only [RpL, List.take_succ_cons] at h ⊢
    exact ⟨h.1, RpL.take n h.2⟩
theorem RpL.drop : ∀ {ds : List D} {vs : List V} (n : Nat), RpL w H vs ds → RpL w H (vs.drop n) (ds.drop n)
  | _, _, 0, h => h
  | [], [], n + 1, _ => by simp [RpL]
  | _ :: _, [], _ + 1, h => by simp only [RpL] at h
  | [], _ :: _, _ + 1, h => by simp only [RpL] at h
  | d :: ds, v :: vs, n + 1, h => by
    simp only [RpL, List.drop_succ_cons] at h ⊢
    exact RpL.drop n h.2
theorem RpL.rev {ds : List D} {vs : List V} (h : RpL w H vs ds) : RpL w H vs.reverse ds.reverse := by
  induction ds generalizing vs with
  | nil => cases vs with
    | nil => simp [RpL]
    | cons _ _ => simp only [RpL] at h
  | cons d ds ih => cases vs with
    | nil => simp only [RpL] at h
    | cons v vs =>
      simp only [RpL, List.reverse_cons] at h ⊢
      refine RpL.app (ih h.2) ?_
      simp only [RpL]
      exact ⟨h.1, trivial⟩
theorem RpL.one {d : D} {v : V} (h : Rp w H v d) : RpL w H [v] [d] := by
  simp only [RpL]
  exact ⟨h, trivial⟩

/-! ### scalars: no reference within -/
def D.scal : D → Bool
  | .non | .bl _ | .int _ | .str _ => true
  | _ => false
theorem Rp.scal (s : d.scal = true) (h : Rp w H v d) : Rp w H' v d := by
  cases d <;> simp only [D.scal] at s <;> first | (simpa only [Rp] using h) | cases s
theorem RpL.scal : ∀ {ds : List D} {vs : List V}, ds.all D.scal = true → RpL w H vs ds → RpL w H' vs ds
  | [], [], _, _ => by simp only [RpL]
  | _ :: _, [], _, h => by simp only [RpL] at h
  | [], _ :: _, _, h => by simp only [RpL] at h
  | d :: ds, v :: vs, s, h => by
    simp only [RpL] at h ⊢
    simp only [List.all_cons, Bool.and_eq_true] at s
    exact ⟨Rp.scal s.1 h.1, RpL.scal s.2 h.2⟩
end

/-! ### trees: shared data, borrowed data, cells -/
inductive T where
  | sh (d : D) | ro (d : D) | lst (ts : List T) | scr (ns : List Int)
mutual
def T.d : T → D
  | .sh d => d
  | .ro d => d
  | .lst ts => .lst (T.ds ts)
  | .scr ns => .lst (ns.map D.int)
def T.ds : List T → List D
  | [] => []
  | t :: ts => t.d :: T.ds ts
end
mutual
/-- no script within -/
def T.plain : T → Bool
  | .scr _ => false
  | .lst ts => T.plains ts
  | _ => true
def T.plains : List T → Bool
  | [] => true
  | t :: ts => t.plain && T.plains ts
end
theorem T.ds_map : ∀ ts : List T, T.ds ts = ts.map T.d
  | [] => rfl
  | t :: ts => by rw [T.ds, T.ds_map ts, List.map_cons]
mutual
/-- may be read: A the own cells of the frame, C the hidden ones of its callers -/
def BwAt (w : Wd) (H : Hp) (A C : List Addr) : V → T → Prop
  | v, .sh d => Rp w (hide H (A ++ C)) v d
  | v, .ro d => Rp w (hide H A) v d
  | v, .lst ts => ∃ p vs, v = .ref p ∧ H p = some (.lst vs) ∧ BwAtL w H A C vs ts ∧ T.plains ts = true
  | v, .scr ns => ∃ p, v = .ref p ∧ SqL w.K (hide H A) p (ns.map V.int)
def BwAtL (w : Wd) (H : Hp) (A C : List Addr) : List V → List T → Prop
  | [], [] => True
  | v :: vs, t :: ts => BwAt w H A C v t ∧ BwAtL w H A C vs ts
  | [], _ :: _ => False
  | _ :: _, [] => False
end
mutual
/-- owned: the cells as are nobody else's -/
def OwAt (w : Wd) (H : Hp) (O : List Addr) : V → T → List Addr → Prop
  | v, .sh d, as => as = [] ∧ Rp w (hide H O) v d
  | _, .ro _, _ => False
  | v, .lst ts, as => ∃ p vs bs, v = .ref p ∧ as = p :: bs ∧ H p = some (.lst vs) ∧ OwAtL w H O vs ts bs
  | _, .scr _, _ => False
def OwAtL (w : Wd) (H : Hp) (O : List Addr) : List V → List T → List Addr → Prop
  | [], [], as => as = []
  | v :: vs, t :: ts, as => ∃ a1 a2, as = a1 ++ a2 ∧ OwAt w H O v t a1 ∧ OwAtL w H O vs ts a2
  | [], _ :: _, _ => False
  | _ :: _, [], _ => False
end
section
variable {w : Wd} {H H' H1 H2 Hb : Hp} {A C O O' : List Addr} {a p : Addr} {v : V} {d : D} {t : T} {vs : List V} {ts : List T} {as bs : List Addr}
mutual
theorem BwAt.ex (e : Ex H H') : ∀ {t : T} {v : V}, BwAt w H A C v t → BwAt w H' A C v t
  | .sh d, _, h => by
    simp only [BwAt] at h ⊢
    exact h.ex (hide_ex e)
  | .ro d, _, h => by
    simp only [BwAt] at h ⊢
    exact h.ex (hide_ex e)
  | .lst ts, _, h => by
    simp only [BwAt] at h ⊢
    obtain ⟨p, vs, h1, h2, h3, h4⟩ := h
    exact ⟨p, vs, h1, e _ _ h2, BwAtL.ex e h3, h4⟩
  | .scr ns, _, h => by
    simp only [BwAt] at h ⊢
    obtain ⟨p, h1, h2⟩ := h
    exact ⟨p, h1, ex_l (hide_ex e) h2⟩
theorem BwAtL.ex (e : Ex H H') : ∀ {ts : List T} {vs : List V}, BwAtL w H A C vs ts → BwAtL w H' A C vs ts
  | [], [], _ => by simp only [BwAtL]
  | _ :: _, [], h => by simp only [BwAtL] at h
  | [], _ :: _, h => by simp only [BwAtL] at h
  | t :: ts, v :: vs, h => by
    simp only [BwAtL] at h ⊢
    exact ⟨BwAt.ex e h.1, BwAtL.ex e h.2⟩
end
mutual
theorem BwAt.rq : ∀ {t : T} {v : V}, BwAt w H A C v t → Rq w H v t.d
  | .sh d, _, h => by
    simp only [BwAt] at h
    exact (h.ex hide_sub).rq
  | .ro d, _, h => by
    simp only [BwAt] at h
    exact (h.ex hide_sub).rq
  | .lst ts, _, h => by
    simp only [BwAt] at h
    obtain ⟨p, vs, h1, h2, h3, _⟩ := h
    simp only [T.d, Rq]
    exact ⟨p, vs, h1, .of h2, BwAtL.rq h3⟩
  | .scr ns, _, h => by
    simp only [BwAt] at h
    obtain ⟨p, h1, h2⟩ := h
    simp only [T.d, Rq]
    exact ⟨p, _, h1, ex_l hide_sub h2, RqL.ints ns⟩
theorem BwAtL.rq : ∀ {ts : List T} {vs : List V}, BwAtL w H A C vs ts → RqL w H vs (T.ds ts)
  | [], [], _ => by simp only [T.ds, RqL]
  | _ :: _, [], h => by simp only [BwAtL] at h
  | [], _ :: _, h => by simp only [BwAtL] at h
  | t :: ts, v :: vs, h => by
    simp only [BwAtL] at h
    simp only [T.ds, RqL]
    exact ⟨BwAt.rq h.1, BwAtL.rq h.2⟩
end
mutual
theorem BwAt.rp : ∀ {t : T} {v : V}, t.plain = true → BwAt w H A C v t → Rp w H v t.d
  | .sh d, _, _, h => by
    simp only [BwAt] at h
    exact h.ex hide_sub
  | .ro d, _, _, h => by
    simp only [BwAt] at h
    exact h.ex hide_sub
  | .lst ts, _, _, h => by
    simp only [BwAt] at h
    obtain ⟨p, vs, h1, h2, h3, h4⟩ := h
    simp only [T.d, Rp]
    exact ⟨p, vs, h1, h2, BwAtL.rp h4 h3⟩
  | .scr ns, _, q, _ => by
    simp only [T.plain] at q
    cases q
theorem BwAtL.rp : ∀ {ts : List T} {vs : List V}, T.plains ts = true → BwAtL w H A C vs ts → RpL w H vs (T.ds ts)
  | [], [], _, _ => by simp only [T.ds, RpL]
  | _ :: _, [], _, h => by simp only [BwAtL] at h
  | [], _ :: _, _, h => by simp only [BwAtL] at h
  | t :: ts, v :: vs, q, h => by
    simp only [BwAtL] at h
    simp only [T.plains, Bool.and_eq_true] at q
    simp only [T.ds, RpL]
    exact ⟨BwAt.rp q.1 h.1, BwAtL.rp q.2 h.2⟩
end
mutual
/-- what an owned tree leans on -/
theorem OwAt.keep (e : Ex (hide H O) (hide H' O')) : ∀ {t : T} {v : V} {as : List Addr}, OwAt w H O v t as → (∀ a ∈ as, H' a = H a) → OwAt w H' O' v t as
  | .sh d, _, _, h, _ => by
    simp only [OwAt] at h ⊢
    exact ⟨h.1, h.2.ex e⟩
  | .ro d, _, _, h, _ => by simp only [OwAt] at h
  | .scr d, _, _, h, _ => by simp only [OwAt] at h
  | .lst ts, _, _, h, k => by
    simp only [OwAt] at h ⊢
    obtain ⟨p, vs, bs, h1, h2, h3, h4⟩ := h
    subst h2
    exact ⟨p, vs, bs, h1, rfl, (k p List.mem_cons_self).trans h3, OwAtL.keep e h4 fun a ha => k a (List.mem_cons_of_mem _ ha)⟩
theorem OwAtL.keep (e : Ex (hide H O) (hide H' O')) : ∀ {ts : List T} {vs : List V} {as : List Addr}, OwAtL w H O vs ts as → (∀ a ∈ as, H' a = H a) → OwAtL w H' O' vs ts as
  | [], [], _, h, _ => by simpa only [OwAtL] using h
  | _ :: _, [], _, h, _ => by simp only [OwAtL] at h
  | [], _ :: _, _, h, _ => by simp only [OwAtL] at h
  | t :: ts, v :: vs, _, h, k => by
    simp only [OwAtL] at h ⊢
    obtain ⟨a1, a2, h1, h2, h3⟩ := h
    subst h1
    exact ⟨a1, a2, rfl, OwAt.keep e h2 fun a ha => k a (List.mem_append_left _ ha), OwAtL.keep e h3 fun a ha => k a (List.mem_append_right _ ha)⟩
end
mutual
theorem OwAt.al : ∀ {t : T} {v : V} {as : List Addr}, OwAt w H O v t as → Al H as
  | .sh d, _, _, h => by
    simp only [OwAt] at h
    rw [h.1]
    intro a ha
    cases ha
  | .ro d, _, _, h => by simp only [OwAt] at h
  | .scr d, _, _, h => by simp only [OwAt] at h
  | .lst ts, _, _, h => by
    simp only [OwAt] at h
    obtain ⟨p, vs, bs, h1, h2, h3, h4⟩ := h
    subst h2
    intro a ha
    rcases List.mem_cons.mp ha with rfl | ha
    · exact ⟨_, h3⟩
    · exact OwAtL.al h4 a ha
theorem OwAtL.al : ∀ {ts : List T} {vs : List V} {as : List Addr}, OwAtL w H O vs ts as → Al H as
  | [], [], _, h => by
    simp only [OwAtL] at h
    subst h
    intro a ha
    cases ha
  | _ :: _, [], _, h => by simp only [OwAtL] at h
  | [], _ :: _, _, h => by simp only [OwAtL] at h
  | t :: ts, v :: vs, _, h => by
    simp only [OwAtL] at h
    obtain ⟨a1, a2, h1, h2, h3⟩ := h
    subst h1
    intro a ha
    rcases List.mem_append.mp ha with ha | ha
    · exact OwAt.al h2 a ha
    · exact OwAtL.al h3 a ha
end
mutual
/-- an owned tree, frozen -/
theorem OwAt.rp (hs : ∀ a ∈ O', a ∈ O) : ∀ {t : T} {v : V} {as : List Addr}, OwAt w H O v t as → (∀ a ∈ as, a ∉ O') → Rp w (hide H O') v t.d
  | .sh d, _, _, h, _ => by
    simp only [OwAt] at h
    exact h.2.ex (hide_less hs)
  | .ro d, _, _, h, _ => by simp only [OwAt] at h
  | .scr d, _, _, h, _ => by simp only [OwAt] at h
  | .lst ts, _, _, h, k => by
    simp only [OwAt] at h
    obtain ⟨p, vs, bs, h1, h2, h3, h4⟩ := h
    subst h2
    simp only [T.d, Rp]
    exact ⟨p, vs, h1, hide_at h3 (k p List.mem_cons_self), OwAtL.rp hs h4 fun a ha => k a (List.mem_cons_of_mem _ ha)⟩
theorem OwAtL.rp (hs : ∀ a ∈ O', a ∈ O) : ∀ {ts : List T} {vs : List V} {as : List Addr}, OwAtL w H O vs ts as → (∀ a ∈ as, a ∉ O') → RpL w (hide H O') vs (T.ds ts)
  | [], [], _, _, _ => by simp only [T.ds, RpL]
  | _ :: _, [], _, h, _ => by simp only [OwAtL] at h
  | [], _ :: _, _, h, _ => by simp only [OwAtL] at h
  | t :: ts, v :: vs, _, h, k => by
    simp only [OwAtL] at h
    obtain ⟨a1, a2, h1, h2, h3⟩ := h
    subst h1
    simp only [T.ds, RpL]
    exact ⟨OwAt.rp hs h2 fun a ha => k a (List.mem_append_left _ ha), OwAtL.rp hs h3 fun a ha => k a (List.mem_append_right _ ha)⟩
end
mutual
theorem OwAt.plain : ∀ {t : T} {v : V} {as : List Addr}, OwAt w H O v t as → t.plain = true
  | .sh d, _, _, _ => rfl
  | .ro d, _, _, h => by simp only [OwAt] at h
  | .scr d, _, _, h => by simp only [OwAt] at h
  | .lst ts, _, _, h => by
    simp only [OwAt] at h
    obtain ⟨p, vs, bs, h1, h2, h3, h4⟩ := h
    simp only [T.plain]
    exact OwAtL.plains h4
theorem OwAtL.plains : ∀ {ts : List T} {vs : List V} {as : List Addr}, OwAtL w H O vs ts as → T.plains ts = true
  | [], [], _, _ => rfl
  | _ :: _, [], _, h => by simp only [OwAtL] at h
  | [], _ :: _, _, h => by simp only [OwAtL] at h
  | t :: ts, v :: vs, _, h => by
    simp only [OwAtL] at h
    obtain ⟨a1, a2, h1, h2, h3⟩ := h
    simp only [T.plains, Bool.and_eq_true]
    exact ⟨OwAt.plain h2, OwAtL.plains h3⟩
end
mutual
/-- an owned tree, read -/
theorem OwAt.bw (e : Ex (hide H O) (hide H (A ++ C))) : ∀ {t : T} {v : V} {as : List Addr}, OwAt w H O v t as → BwAt w H A C v t
  | .sh d, _, _, h => by
    simp only [OwAt] at h
    simp only [BwAt]
    exact h.2.ex e
  | .ro d, _, _, h => by simp only [OwAt] at h
  | .scr d, _, _, h => by simp only [OwAt] at h
  | .lst ts, _, _, h => by
    simp only [OwAt] at h
    obtain ⟨p, vs, bs, h1, h2, h3, h4⟩ := h
    simp only [BwAt]
    exact ⟨p, vs, h1, h3, OwAtL.bw e h4, OwAtL.plains h4⟩
theorem OwAtL.bw (e : Ex (hide H O) (hide H (A ++ C))) : ∀ {ts : List T} {vs : List V} {as : List Addr}, OwAtL w H O vs ts as → BwAtL w H A C vs ts
  | [], [], _, _ => by simp only [BwAtL]
  | _ :: _, [], _, h => by simp only [OwAtL] at h
  | [], _ :: _, _, h => by simp only [OwAtL] at h
  | t :: ts, v :: vs, _, h => by
    simp only [OwAtL] at h
    obtain ⟨a1, a2, h1, h2, h3⟩ := h
    simp only [BwAtL]
    exact ⟨OwAt.bw e h2, OwAtL.bw e h3⟩
end
theorem OwAtL.leaves : ∀ {ds : List D} {vs : List V}, RpL w (hide H O) vs ds → OwAtL w H O vs (ds.map T.sh) []
  | [], [], _ => by simp only [List.map_nil, OwAtL]
  | _ :: _, [], h => by simp only [RpL] at h
  | [], _ :: _, h => by simp only [RpL] at h
  | d :: ds, v :: vs, h => by
    simp only [RpL] at h
    simp only [List.map_cons, OwAtL]
    exact ⟨[], [], rfl, (by simp only [OwAt]; exact ⟨trivial, h.1⟩), OwAtL.leaves h.2⟩
theorem OwAtL.length : ∀ {ts : List T} {vs : List V} {as : List Addr}, OwAtL w H O vs ts as → vs.length = ts.length
  | [], [], _, _ => rfl
  | _ :: _, [], _, h => by simp only [OwAtL] at h
  | [], _ :: _, _, h => by simp only [OwAtL] at h
  | t :: ts, v :: vs, _, h => by
    simp only [OwAtL] at h
    obtain ⟨a1, a2, h1, h2, h3⟩ := h
    rw [List.length_cons, List.length_cons, OwAtL.length h3]
theorem BwAtL.length : ∀ {ts : List T} {vs : List V}, BwAtL w H A C vs ts → vs.length = ts.length
  | [], [], _ => rfl
  | _ :: _, [], h => by simp only [BwAtL] at h
  | [], _ :: _, h => by simp only [BwAtL] at h
  | t :: ts, v :: vs, h => by
    simp only [BwAtL] at h
    rw [List.length_cons, List.length_cons, BwAtL.length h.2]
theorem BwAtL.get : ∀ {ts : List T} {vs : List V} {i : Nat} {t : T}, BwAtL w H A C vs ts → ts[i]? = some t → ∃ v, vs[i]? = some v ∧ BwAt w H A C v t
  | [], [], _, _, _, e => by simp at e
  | _ :: _, [], _, _, h, _ => by simp only [BwAtL] at h
  | [], _ :: _, _, _, h, _ => by simp only [BwAtL] at h
  | d :: ds, v :: vs, 0, _, h, e => by
    simp only [BwAtL] at h
    simp only [List.getElem?_cons_zero, Option.some.injEq] at e
    subst e
    exact ⟨v, rfl, h.1⟩
  | d :: ds, v :: vs, i + 1, _, h, e => by
    simp only [BwAtL] at h
    simp only [List.getElem?_cons_succ] at e
    obtain ⟨u, h1, h2⟩ := BwAtL.get h.2 e
    exact ⟨u, by simpa using h1, h2⟩
end
end Mi

set_option Elab.async false
set_option linter.all false
set_option maxRecDepth 100000
set_option maxHeartbeats 4000000
namespace Mi
open PySem PySem.Spec PyProof.Rows L2
noncomputable section

/-! ### results -/
inductive Res (α : Type) where
  | ok (a : α) | exc (c : Str) (vs : List D) | bad
def Res.bnd {α β : Type} (r : Res α) (f : α → Res β) : Res β := match r with
  | .ok a => f a
  | .exc c vs => .exc c vs
  | .bad => .bad
@[simp] theorem Res.bnd_ok {α β : Type} (a : α) (f : α → Res β) : (Res.ok a).bnd f = f a := rfl
@[simp] theorem Res.bnd_exc {α β : Type} (c : Str) (vs : List D) (f : α → Res β) : (Res.exc c vs : Res α).bnd f = .exc c vs := rfl
@[simp] theorem Res.bnd_bad {α β : Type} (f : α → Res β) : (Res.bad : Res α).bnd f = .bad := rfl
def Res.of {α : Type} : Option α → Res α
  | some a => .ok a
  | none => .bad
@[simp] theorem Res.of_some {α : Type} (a : α) : Res.of (some a) = .ok a := rfl
@[simp] theorem Res.of_none {α : Type} : Res.of (none : Option α) = .bad := rfl
def Res.iff {α : Type} (c : Prop) (r : Res α) : Res α := @ite _ c (Classical.propDecidable c) r .bad
@[simp] theorem Res.iff_pos {α : Type} {c : Prop} {r : Res α} (h : c) : Res.iff c r = r := by
  unfold Res.iff
  exact if_pos h
/-- what an expression gives: a tree that may be read, a new tree -/
inductive Vl where
  | bw (t : T) | fr (t : T)
def Vl.rd : Vl → T
  | .bw t => t
  | .fr t => .sh t.d
def Vl.d (x : Vl) : D := x.rd.d
abbrev Vl.sh (d : D) : Vl := .bw (.sh d)
/-- what may be shared -/
def T.shr : T → Option D
  | .sh d => some d
  | .ro d => if d.scal then some d else none
  | _ => none
def Vl.shr (x : Vl) : Option D := x.rd.shr
/-- what may be laid into a cell -/
def Vl.kp : Vl → Option T
  | .bw t => t.shr.map T.sh
  | .fr t => some t
/-- the items of a sequence, to be shared -/
def D.its : D → Option (List D)
  | .tup ds => some ds
  | .lst ds => some ds
  | _ => none
def shrs : List T → Option (List D)
  | [] => some []
  | t :: ts => match t.shr, shrs ts with
    | some d, some ds => some (d :: ds)
    | _, _ => none
def T.its : T → Option (List D)
  | .sh d => d.its
  | .ro d => match d.its with
    | some ds => if ds.all D.scal then some ds else none
    | none => none
  | .lst ts => shrs ts
  | .scr _ => none
/-- what is only read: shared if no reference is within -/
def roT (d : D) : T := if d.scal then .sh d else .ro d
/-- the items of a sequence, to be read -/
def T.kids : T → Option (List T)
  | .sh d => d.its.map fun ds => ds.map T.sh
  | .ro d => d.its.map fun ds => ds.map roT
  | .lst ts => some ts
  | .scr ns => some ((ns.map D.int).map T.sh)
/-- an argument of a call: shared or only to be read -/
def Vl.arg (x : Vl) : T := match x.rd with
  | .sh d => .sh d
  | .ro d => .ro d
  | .lst ts => .ro (.lst (T.ds ts))
  | .scr ns => .scr ns
/-- a call's answer -/
def Vl.out : Vl → Res Vl
  | .fr t => .ok (.fr t)
  | .bw (.sh d) => .ok (.bw (.sh d))
  | _ => .bad

/-! ### equality -/
mutual
def D.py : D → PyData
  | .non => .none
  | .bl b => .bool b
  | .int i => .int i
  | .str x => .str x
  | .tup ds => .tuple (D.pys ds)
  | .lst ds => .list (D.pys ds)
  | .dic _ _ => .dict []
  | .obj _ _ _ => .dict []
def D.pys : List D → List PyData
  | [] => []
  | d :: ds => d.py :: D.pys ds
end
def D.fit (d : D) : Bool := SeqAt.shaped d.py
def eqR (d e : D) : Option Bool := if d.fit && e.fit then some (PyData.eqv d.py e.py) else none
/-- x in xs -/
def memR (x : D) (ds : List D) : Option Bool := if x.fit && (D.lst ds).fit then some (ds.any fun e => PyData.eqv e.py x.py) else none

/-! ### types -/
inductive Ty where
  | non | bl | int | str | tup | lst | dic
  deriving DecidableEq
def Ty.nm : Ty → String
  | .non => "NoneType" | .bl => "bool" | .int => "int" | .str => "str" | .tup => "tuple" | .lst => "list" | .dic => "dict"
def D.ty : D → Option Ty
  | .non => some .non | .bl _ => some .bl | .int _ => some .int | .str _ => some .str | .tup _ => some .tup | .lst _ => some .lst
  | _ => none
def isTy (t c : Ty) : Bool := decide (t = c) || (decide (t = .bl) && decide (c = .int))

/-! ### the small language -/
inductive Bop where
  | add | sub | mul | fdiv | mod | pow
  deriving DecidableEq
inductive Cop where
  | eq | ne | lt | le | gt | ge | isN | noN | isIn | noIn
  deriving DecidableEq
inductive Bi where
  | int | len | list | tuple | sum | abs | min2 | max2
  deriving DecidableEq
/-- what is walked: a sequence (list or tuple), a text, a range, an enumeration -/
inductive Src where
  | seq | txt | rng1 | rng2 | enum
  deriving DecidableEq
inductive Tg where
  | nm (i : Nat) | tp (is : List Nat)
inductive E where
  | var (i : Nat)
  | cst (d : D)
  | glob (x : Str)
  | bin (op : Bop) (a b : E)
  | neg (a : E)
  | cmp (op : Cop) (a b : E)
  | cmp2 (o1 o2 : Cop) (a b c : E)
  | and (a b : E) | or (a b : E)
  | not (a : E)
  | ite (c a b : E)
  | tup (es : List E) | lst (es : List E)
  | ix (a i : E)
  | sl (a : E) (lo hi : List E)
  | call (f : Str) (es : List E)
  | bi (b : Bi) (es : List E)
  | isi (a : E) (cs : List Ty) (many : Bool)
  | comp (t : Tg) (k : Src) (es : List E) (cs : List E) (e : E)
inductive S where
  | asg (t : Tg) (e : E)
  | own (i : Nat) (e : E)
  | aug (i : Nat) (op : Bop) (e : E)
  | app (i : Nat) (e : E)
  | setI (i : Nat) (k e : E)
  | drop (e : E)
  | ret (e : E) | retN
  | ifS (c : E) (a b : List S)
  | forS (t : Tg) (k : Src) (es : List E) (body : List S)
  | whl (n : Nat) (c : E) (body : List S)
  | brk | cnt | pss
  | rse (c : Str) (es : List E)
  | tryS (body : List S) (c : Str) (x : List Nat) (h : List S)
  | frz (i : Nat)
structure Fn where
  name : Str
  ps : List Str
  run : List T → Res Vl
structure Cfg where
  N : List Str
  funs : List Fn
  consts : List (Str × D)
  free : List Str
  exA : List Str
def Cfg.fn (c : Cfg) (f : Str) : Option Fn := c.funs.find? fun g => g.name == f

/-! ### its meaning -/
def okI (i : Int) : Res Vl := .ok (.sh (.int i))
def okB (b : Bool) : Res Vl := .ok (.sh (.bl b))
def okS (x : Str) : Res Vl := .ok (.sh (.str x))
def frL (ds : List D) : Res Vl := .ok (.fr (.lst (ds.map T.sh)))
def mulOk (i j : Int) : Prop := CMul i j ∨ CMulW i j
def repOk (k : Int) (n : Nat) : Prop := -(2 ^ 63) ≤ k ∧ k < 2 ^ 63 ∧ n * k.toNat ≤ sizeLine
instance (k : Int) (n : Nat) : Decidable (repOk k n) := by unfold repOk; infer_instance
instance (i j : Int) : Decidable (CMul i j) := by unfold CMul; infer_instance
instance (i j : Int) : Decidable (CMulW i j) := by unfold CMulW; infer_instance
instance (i j : Int) : Decidable (mulOk i j) := by unfold mulOk; infer_instance
instance (i j : Int) : Decidable (CDivW i j) := by unfold CDivW; infer_instance
instance (i j : Int) : Decidable (CPow i j) := by unfold CPow; infer_instance
def binV (op : Bop) (x y : Vl) : Res Vl :=
  match op, x.d, y.d with
  | .add, .int i, .int j => okI (i + j)
  | .add, .str a, .str b => .iff (a.length + b.length ≤ sizeLine) (okS (a ++ b))
  | .add, .lst _, .lst _ => (Res.of x.rd.its).bnd fun ds => (Res.of y.rd.its).bnd fun es => .iff (ds.length + es.length ≤ sizeLine) (frL (ds ++ es))
  | .add, .tup ds, .tup es => (Res.of x.shr).bnd fun _ => (Res.of y.shr).bnd fun _ => .iff (ds.length + es.length ≤ sizeLine) (.ok (.sh (.tup (ds ++ es))))
  | .sub, .int i, .int j => okI (i - j)
  | .mul, .int i, .int j => .iff (mulOk i j) (okI (i * j))
  | .mul, .lst _, .int k => (Res.of x.rd.its).bnd fun ds => .iff (repOk k ds.length) (frL (List.replicate k.toNat ds).flatten)
  | .fdiv, .int i, .int j => .iff (CDivW i j) (okI (i / j))
  | .mod, .int i, .int j => .iff (0 < j) (okI (i % j))
  | .pow, .int i, .int j => .iff (CPow i j) (okI (i ^ j.toNat))
  | _, _, _ => .bad
/-- the order of two scalars -/
def ltR : D → D → Option Bool
  | .int i, .int j => some (decide (i < j))
  | .str a, .str b => some (decide (a.cps.toList < b.cps.toList))
  | _, _ => none
def leR : D → D → Option Bool
  | .int i, .int j => some (decide (i ≤ j))
  | .str a, .str b => some (!decide (b.cps.toList < a.cps.toList))
  | _, _ => none
def inR (x y : D) : Option Bool :=
  match x, y with
  | .str a, .str b => match a.cps.toList with
    | [c] => some (decide (c ∈ b.cps.toList))
    | _ => none
  | x, .lst ds => memR x ds
  | x, .tup ds => memR x ds
  | _, _ => none
def D.isN : D → Bool
  | .non => true
  | _ => false
def cmpR (op : Cop) (d e : D) : Option Bool :=
  match op with
  | .eq => eqR d e
  | .ne => (eqR d e).map fun b => !b
  | .lt => ltR d e
  | .le => leR d e
  | .gt => ltR e d
  | .ge => leR e d
  | .isN => match e with | .non => some d.isN | _ => none
  | .noN => match e with | .non => some (!d.isN) | _ => none
  | .isIn => inR d e
  | .noIn => (inR d e).map fun b => !b
def truR : D → Option Bool
  | .non => some false
  | .bl b => some b
  | .int i => some (i != 0)
  | .str x => if x.length ≤ sizeLine then some ((x.length : Int) != 0) else none
  | .tup ds => some (!ds.isEmpty)
  | .lst ds => some (!ds.isEmpty)
  | _ => none
/-- an item by its place -/
def ixV (x y : Vl) : Res Vl :=
  match y.d with
  | .int i => match x.rd with
    | .sh (.str z) => .iff (z.length ≤ sizeLine) ((Res.of (atI z.cps.toList i)).bnd fun c => okS ⟨#[c]⟩)
    | .ro (.str z) => .iff (z.length ≤ sizeLine) ((Res.of (atI z.cps.toList i)).bnd fun c => okS ⟨#[c]⟩)
    | t => (Res.of t.kids).bnd fun ks => (Res.of (atI ks i)).bnd fun t => .ok (.bw t)
  | _ => .bad
def optI : List Vl → Option (Option Int)
  | [] => some none
  | [x] => match x.d with
    | .int i => some (some i)
    | _ => none
  | _ => none
def cutL {α : Type} (xs : List α) (lo hi : Option Int) : List α := (xs.drop (HT.sIx xs.length 0 lo)).take (HT.sIx xs.length xs.length hi - HT.sIx xs.length 0 lo)
def slV (x : Vl) (lo hi : Option Int) : Res Vl :=
  match x.d with
  | .str z => .iff (z.length ≤ sizeLine) (okS (cutS z lo hi))
  | .lst _ => (Res.of x.rd.its).bnd fun ds => frL (cutL ds lo hi)
  | .tup ds => (Res.of x.shr).bnd fun _ => .ok (.sh (.tup (cutL ds lo hi)))
  | _ => .bad
def sumR : List D → Option Int
  | [] => some 0
  | .int i :: ds => (sumR ds).map fun s => i + s
  | _ :: _ => none
def biV (b : Bi) (xs : List Vl) : Res Vl :=
  match b, xs with
  | .int, [x] => match x.d with
    | .int i => okI i
    | .bl b => okI (if b then 1 else 0)
    | _ => .bad
  | .len, [x] => match x.d with
    | .str z => .iff (z.length ≤ sizeLine) (okI z.length)
    | .lst ds => okI ds.length
    | .tup ds => okI ds.length
    | _ => .bad
  | .list, [x] => (Res.of x.rd.its).bnd frL
  | .tuple, [x] => match x.d with
    | .tup ds => (Res.of x.shr).bnd fun _ => .ok (.sh (.tup ds))
    | .lst _ => (Res.of x.rd.its).bnd fun ds => .ok (.sh (.tup ds))
    | _ => .bad
  | .sum, [x] => match x.d with
    | .lst ds => (Res.of (sumR ds)).bnd okI
    | .tup ds => (Res.of (sumR ds)).bnd okI
    | _ => .bad
  | .abs, [x] => match x.d with
    | .int i => okI (if i < 0 then -i else i)
    | _ => .bad
  | .min2, [x, y] => match x.d, y.d with
    | .int i, .int j => okI (if j < i then j else i)
    | _, _ => .bad
  | .max2, [x, y] => match x.d, y.d with
    | .int i, .int j => okI (if j > i then j else i)
    | _, _ => .bad
  | _, _ => .bad
/-- what a walk gives, turn by turn -/
def enumT : Nat → List T → Option (List T)
  | _, [] => some []
  | n, .sh d :: ts => (enumT (n + 1) ts).map fun us => .sh (.tup [.int n, d]) :: us
  | n, .ro d :: ts => (enumT (n + 1) ts).map fun us => (if d.scal then T.sh (.tup [.int n, d]) else T.ro (.tup [.int n, d])) :: us
  | _, _ :: _ => none
def small (i : Int) : Prop := -(2 ^ 62) ≤ i ∧ i < 2 ^ 62
instance (i : Int) : Decidable (small i) := by unfold small; infer_instance
def srcV (k : Src) (xs : List Vl) : Res (List T) :=
  match k, xs with
  | .seq, [x] => Res.of x.rd.kids
  | .txt, [x] => match x.d with
    | .str z => .ok (z.cps.toList.map fun c => T.sh (.str ⟨#[c]⟩))
    | _ => .bad
  | .rng1, [x] => match x.d with
    | .int j => .iff (small j) (.ok ((List.range j.toNat).map fun i => T.sh (.int (0 + (i : Nat)))))
    | _ => .bad
  | .rng2, [x, y] => match x.d, y.d with
    | .int i, .int j => .iff (small i ∧ small j) (.ok ((List.range (j - i).toNat).map fun k => T.sh (.int (i + (k : Nat)))))
    | _, _ => .bad
  | .enum, [x] => match x.d with
    | .str z => Res.of (enumT 0 (z.cps.toList.map fun c => T.sh (.str ⟨#[c]⟩)))
    | _ => (Res.of x.rd.kids).bnd fun ts => Res.of (enumT 0 ts)
  | _, _ => .bad
abbrev Env := List (Option T)
/-- a target takes what comes -/
def setAll : List Nat → List T → Env → Option Env
  | [], [], ρ => some ρ
  | i :: is, t :: ts, ρ => if i < ρ.length then setAll is ts (ρ.set i (some t)) else none
  | _, _, _ => none
def tgV (g : Tg) (t : T) (ρ : Env) : Option Env :=
  match g with
  | .nm i => if i < ρ.length then some (ρ.set i (some t)) else none
  | .tp is => match t with
    | .sh d => match d.its with
      | some ds => setAll is (ds.map T.sh) ρ
      | none => none
    | .ro d => match d.its with
      | some ds => setAll is (ds.map roT) ρ
      | none => none
    | _ => none
def wipeE (ρ : Env) : List Nat → Env
  | [] => ρ
  | v :: vs => (wipeE ρ vs).set v none
def Tg.slots : Tg → List Nat
  | .nm i => [i]
  | .tp is => is
def optAll {α β : Type} (f : α → Option β) : List α → Option (List β)
  | [] => some []
  | a :: as => match f a, optAll f as with
    | some b, some bs => some (b :: bs)
    | _, _ => none
/-- a comprehension's turns -/
def compGo (f : T → Res (Option Vl)) : List T → Res (List D)
  | [] => .ok []
  | t :: ts => match f t with
    | .ok none => compGo f ts
    | .ok (some x) => (Res.of x.shr).bnd fun k => (compGo f ts).bnd fun ks => .ok (k :: ks)
    | _ => .bad
mutual
def ev (c : Cfg) : E → Env → Res Vl
  | .var i, ρ => match ρ[i]? with
    | some (some t) => .ok (.bw t)
    | _ => .bad
  | .cst d, _ => .iff (d.scal = true) (.ok (.sh d))
  | .glob x, _ => match c.consts.lookup x with
    | some d => .ok (.sh d)
    | none => .bad
  | .bin op a b, ρ => (ev c a ρ).bnd fun x => (ev c b ρ).bnd fun y => binV op x y
  | .neg a, ρ => (ev c a ρ).bnd fun x => match x.d with
    | .int i => okI (-i)
    | _ => .bad
  | .cmp op a b, ρ => (ev c a ρ).bnd fun x => (ev c b ρ).bnd fun y => (Res.of (cmpR op x.d y.d)).bnd okB
  | .cmp2 o1 o2 a b e, ρ => (ev c a ρ).bnd fun x => (ev c b ρ).bnd fun y => (Res.of (cmpR o1 x.d y.d)).bnd fun k =>
    if k then (ev c e ρ).bnd fun z => (Res.of (cmpR o2 y.d z.d)).bnd okB else okB false
  | .and a b, ρ => (ev c a ρ).bnd fun x => match x.d with
    | .bl k => if k then (ev c b ρ).bnd fun y => match y.d with | .bl l => okB l | _ => .bad else okB false
    | _ => .bad
  | .or a b, ρ => (ev c a ρ).bnd fun x => match x.d with
    | .bl k => if k then okB true else (ev c b ρ).bnd fun y => match y.d with | .bl l => okB l | _ => .bad
    | _ => .bad
  | .not a, ρ => (ev c a ρ).bnd fun x => match x.d with
    | .bl k => okB (!k)
    | _ => .bad
  | .ite t a b, ρ => (evT c t ρ).bnd fun k => if k then ev c a ρ else ev c b ρ
  | .tup es, ρ => (evs c es ρ).bnd fun xs => (Res.of (optAll Vl.shr xs)).bnd fun ds => .iff (ds.length ≤ sizeLine) (.ok (.sh (.tup ds)))
  | .lst es, ρ => (evs c es ρ).bnd fun xs => (Res.of (optAll Vl.shr xs)).bnd fun ds => .iff (ds.length ≤ sizeLine) (frL ds)
  | .ix a i, ρ => (ev c a ρ).bnd fun x => (ev c i ρ).bnd fun y => ixV x y
  | .sl a lo hi, ρ => (ev c a ρ).bnd fun x => (evs c lo ρ).bnd fun l => (Res.of (optI l)).bnd fun l' => (evs c hi ρ).bnd fun h => (Res.of (optI h)).bnd fun h' => slV x l' h'
  | .call f es, ρ => (evs c es ρ).bnd fun xs => match c.fn f with
    | some g => .iff (xs.length = g.ps.length) ((g.run (xs.map Vl.arg)).bnd Vl.out)
    | none => .bad
  | .bi b es, ρ => (evs c es ρ).bnd fun xs => biV b xs
  | .isi a cs _, ρ => (ev c a ρ).bnd fun x => match x.d.ty with
    | some t => okB (cs.any fun k => isTy t k)
    | none => .bad
  | .comp g k es cs e, ρ => (evs c es ρ).bnd fun xs => (srcV k xs).bnd fun ts =>
    (compGo (fun t => (Res.of (tgV g t (wipeE ρ g.slots))).bnd fun ρ1 => (evTs c cs ρ1).bnd fun b => if b then (ev c e ρ1).bnd fun x => .ok (some x) else .ok none) ts).bnd fun ks =>
      .iff (ts.length ≤ 1000000) (frL ks)
def evs (c : Cfg) : List E → Env → Res (List Vl)
  | [], _ => .ok []
  | e :: es, ρ => (ev c e ρ).bnd fun x => (evs c es ρ).bnd fun xs => .ok (x :: xs)
def evT (c : Cfg) : E → Env → Res Bool
  | .and a b, ρ => (evT c a ρ).bnd fun k => if k then evT c b ρ else .ok false
  | .or a b, ρ => (evT c a ρ).bnd fun k => if k then .ok true else evT c b ρ
  | .not a, ρ => (evT c a ρ).bnd fun k => .ok (!k)
  | .ite _ _ _, _ => .bad
  | .cst d, ρ => (ev c (.cst d) ρ).bnd fun x => Res.of (truR x.d)
  | .var i, ρ => (ev c (.var i) ρ).bnd fun x => Res.of (truR x.d)
  | .glob i, ρ => (ev c (.glob i) ρ).bnd fun x => Res.of (truR x.d)
  | .bin o a b, ρ => (ev c (.bin o a b) ρ).bnd fun x => Res.of (truR x.d)
  | .neg a, ρ => (ev c (.neg a) ρ).bnd fun x => Res.of (truR x.d)
  | .cmp o a b, ρ => (ev c (.cmp o a b) ρ).bnd fun x => Res.of (truR x.d)
  | .cmp2 o p a b e, ρ => (ev c (.cmp2 o p a b e) ρ).bnd fun x => Res.of (truR x.d)
  | .tup es, ρ => (ev c (.tup es) ρ).bnd fun x => Res.of (truR x.d)
  | .lst es, ρ => (ev c (.lst es) ρ).bnd fun x => Res.of (truR x.d)
  | .ix a i, ρ => (ev c (.ix a i) ρ).bnd fun x => Res.of (truR x.d)
  | .sl a l h, ρ => (ev c (.sl a l h) ρ).bnd fun x => Res.of (truR x.d)
  | .call f es, ρ => (ev c (.call f es) ρ).bnd fun x => Res.of (truR x.d)
  | .bi b es, ρ => (ev c (.bi b es) ρ).bnd fun x => Res.of (truR x.d)
  | .isi a cs m, ρ => (ev c (.isi a cs m) ρ).bnd fun x => Res.of (truR x.d)
  | .comp g k es cs e, ρ => (ev c (.comp g k es cs e) ρ).bnd fun x => Res.of (truR x.d)
def evTs (c : Cfg) : List E → Env → Res Bool
  | [], _ => .ok true
  | e :: es, ρ => (evT c e ρ).bnd fun b => if b then evTs c es ρ else .ok false
end
inductive Out where
  | nx (ρ : Env) | ret (x : Vl) | brk (ρ : Env) | cnt (ρ : Env) | exc (c : Str) (vs : List D) (ρ : Env) | bad
def Res.go {α : Type} (r : Res α) (ρ : Env) (f : α → Out) : Out := match r with
  | .ok a => f a
  | .exc c vs => .exc c vs ρ
  | .bad => .bad
@[simp] theorem Res.go_ok {α : Type} (a : α) (ρ : Env) (f : α → Out) : (Res.ok a).go ρ f = f a := rfl
@[simp] theorem Res.go_exc {α : Type} (c : Str) (vs : List D) (ρ : Env) (f : α → Out) : (Res.exc c vs : Res α).go ρ f = .exc c vs ρ := rfl
@[simp] theorem Res.go_bad {α : Type} (ρ : Env) (f : α → Out) : (Res.bad : Res α).go ρ f = .bad := rfl
def forGo (g : Tg) (body : Env → Out) : List T → Env → Out
  | [], ρ => .nx ρ
  | t :: ts, ρ => match tgV g t ρ with
    | none => .bad
    | some ρ1 => match body ρ1 with
      | .nx ρ2 => forGo g body ts ρ2
      | .cnt ρ2 => forGo g body ts ρ2
      | .brk ρ2 => .nx ρ2
      | o => o
def whGo (test : Env → Res Bool) (body : Env → Out) : Nat → Env → Out
  | 0, _ => .bad
  | n + 1, ρ => (test ρ).go ρ fun b => if b then (match body ρ with
      | .nx ρ2 => whGo test body n ρ2
      | .cnt ρ2 => whGo test body n ρ2
      | .brk ρ2 => .nx ρ2
      | o => o) else .nx ρ
/-- an item that a walk may give over a body that changes cells -/
def T.still : T → Bool
  | .lst _ => false
  | _ => true
mutual
def exec (c : Cfg) : S → Env → Out
  | .asg g e, ρ => (ev c e ρ).go ρ fun x => match (match x.rd with | .ro d => some (if d.scal then T.sh d else T.ro d) | .sh d => some (T.sh d) | _ => none) with
    | some t => (Res.of (tgV g t ρ)).go ρ .nx
    | none => .bad
  | .own i e, ρ => (ev c e ρ).go ρ fun x => match x with
    | .fr (.lst ts) => if i < ρ.length then .nx (ρ.set i (some (.lst ((T.ds ts).map T.sh)))) else .bad
    | _ => .bad
  | .aug i op e, ρ => match ρ[i]? with
    | some (some t) => (ev c e ρ).go ρ fun y => match t.d, y.d with
      | .int a, .int b => (match op with
        | .add => Out.nx (ρ.set i (some (.sh (.int (a + b)))))
        | .sub => Out.nx (ρ.set i (some (.sh (.int (a - b)))))
        | _ => .bad)
      | _, _ => .bad
    | _ => .bad
  | .app i e, ρ => match ρ[i]? with
    | some (some (.lst ts)) => (ev c e ρ).go ρ fun x => match x.shr with
      | some d => if ts.length < sizeLine then .nx (ρ.set i (some (.lst (ts ++ [.sh d])))) else .bad
      | none => .bad
    | _ => .bad
  | .setI i k e, ρ => match ρ[i]? with
    | some (some (.lst ts)) => (ev c e ρ).go ρ fun x => (ev c k ρ).go ρ fun y => match y.d, x.shr with
      | .int n, some d => (match ixN ts.length n with
        | some j => Out.nx (ρ.set i (some (.lst (ts.set j (.sh d)))))
        | none => .bad)
      | _, _ => .bad
    | _ => .bad
  | .drop e, ρ => (ev c e ρ).go ρ fun _ => .nx ρ
  | .ret e, ρ => (ev c e ρ).go ρ fun x => match e, x with
    | _, .fr t => .ret (.fr t)
    | _, .bw (.sh d) => .ret (.sh d)
    | _, .bw (.ro d) => if d.scal then .ret (.sh d) else .bad
    | .var _, .bw (.lst ts) => .ret (.fr (.lst ts))
    | _, _ => .bad
  | .retN, _ => .ret (.sh .non)
  | .ifS t a b, ρ => (evT c t ρ).go ρ fun k => if k then execs c a ρ else execs c b ρ
  | .forS g k es body, ρ => (evs c es ρ).go ρ fun xs => (srcV k xs).go ρ fun ts => if ts.all T.still && xs.all (fun x => x.rd.still) then forGo g (execs c body) ts ρ else .bad
  | .whl n t body, ρ => whGo (evT c t) (execs c body) n ρ
  | .brk, ρ => .brk ρ
  | .cnt, ρ => .cnt ρ
  | .pss, ρ => .nx ρ
  | .rse x es, ρ => if x ∈ c.exA then (evs c es ρ).go ρ fun xs => if xs.length ≤ sizeLine then .exc x [] ρ else .bad else .bad
  | .tryS _ _ _ _, _ => .bad
  | .frz i, ρ => match ρ[i]? with
    | some (some (.lst ts)) => .nx (ρ.set i (some (.sh (.lst (T.ds ts)))))
    | _ => .bad
def execs (c : Cfg) : List S → Env → Out
  | [], ρ => .nx ρ
  | s :: ss, ρ => match exec c s ρ with
    | .nx ρ1 => execs c ss ρ1
    | o => o
end
/-- a def -/
def runDef (c : Cfg) (body : List S) (args : List T) : Res Vl :=
  if !args.all T.still then .bad else match execs c body (args.map some ++ List.replicate (c.N.length - args.length) none) with
  | .nx _ => .ok (.sh .non)
  | .ret x => .ok x
  | .exc k vs _ => .exc k vs
  | _ => .bad
end
end Mi

set_option Elab.async false
set_option linter.all false
set_option maxRecDepth 100000
set_option maxHeartbeats 4000000
namespace Mi
open PySem PySem.Spec PyProof.Rows L2

/-! ### values at addresses -/
def VAt (w : Wd) (A C : List Addr) (Hb : Hp) (v : V) (x : Vl) (H : Hp) : Prop := match x with
  | .bw t => BwAt w H A C v t
  | .fr t => ∃ as, OwAt w H (as ++ (A ++ C)) v t as ∧ as.Nodup ∧ ∀ a ∈ as, Hb a = none
def XAt (w : Wd) (O : List Addr) (H : Hp) (k : Value) (dx : Option Addr) (c : Str) (vs : List D) : Prop :=
  k = .ref (w.cl c) ∧ ((vs = [] ∧ dx = none) ∨ (vs ≠ [] ∧ ∃ a fs, dx = some a ∧ H a = some (.xd fs) ∧ fs.map (·.1) = w.xf c ∧ RpL w (hide H O) (fs.map (·.2)) vs))
section
variable {w : Wd} {H H' H1 H2 Hb Hb' : Hp} {A C O O' : List Addr} {a p : Addr} {v u : V} {d : D} {t : T} {x y z : Vl} {vs : List V} {ts : List T} {ds : List D} {as bs : List Addr}
theorem VAt.ex (e : Ex H H') (h : VAt w A C Hb v x H) : VAt w A C Hb v x H' := by
  cases x with
  | bw t => exact BwAt.ex e h
  | fr t =>
    obtain ⟨as, h1, h2, h3⟩ := h
    refine ⟨as, h1.keep (hide_ex e) fun a ha => ?_, h2, h3⟩
    obtain ⟨o, q⟩ := h1.al a ha
    rw [q, e _ _ q]
theorem VAt.base (e : Ex Hb Hb') (h : VAt w A C Hb' v x H) : VAt w A C Hb v x H := by
  cases x with
  | bw t => exact h
  | fr t =>
    obtain ⟨as, h1, h2, h3⟩ := h
    exact ⟨as, h1, h2, fun a ha => fresh_back e (h3 a ha)⟩
theorem VAt.rd (al : Al Hb (A ++ C)) (h : VAt w A C Hb v x H) : BwAt w H A C v x.rd := by
  cases x with
  | bw t => exact h
  | fr t =>
    obtain ⟨as, h1, h2, h3⟩ := h
    simp only [Vl.rd, BwAt]
    exact h1.rp (fun a ha => List.mem_append_right _ ha) fun a ha => al.not (h3 a ha)
theorem VAt.rq (al : Al Hb (A ++ C)) (h : VAt w A C Hb v x H) : Rq w H v x.d := (h.rd al).rq
theorem T.shr_d {t : T} {d : D} (h : t.shr = some d) : d = t.d := by
  cases t with
  | sh e => simp only [T.shr, Option.some.injEq] at h; rw [← h, T.d]
  | ro e =>
    simp only [T.shr] at h
    split at h
    · simp only [Option.some.injEq] at h; rw [← h, T.d]
    · cases h
  | lst ts => cases h
  | scr ns => cases h
theorem BwAt.shr (h : BwAt w H A C v t) (s : t.shr = some d) : Rp w (hide H (A ++ C)) v d := by
  cases t with
  | sh e =>
    simp only [T.shr, Option.some.injEq] at s
    subst s
    simpa only [BwAt] using h
  | ro e =>
    simp only [T.shr] at s
    split at s
    · rename_i q
      simp only [Option.some.injEq] at s
      subst s
      simp only [BwAt] at h
      exact h.scal q
    · cases s
  | lst ts => cases s
  | scr ns => cases s
theorem BwAt.sh_of (h : Rp w (hide H (A ++ C)) v d) : BwAt w H A C v (.sh d) := by simpa only [BwAt] using h
theorem VAt.sh_of (h : Rp w (hide H (A ++ C)) v d) : VAt w A C Hb v (.sh d) H := BwAt.sh_of h
theorem VAt.shr (al : Al Hb (A ++ C)) (h : VAt w A C Hb v x H) (s : x.shr = some d) : Rp w (hide H (A ++ C)) v d := (h.rd al).shr s
/-- a scalar -/
theorem VAt.of_scal (s : d.scal = true) (h : Rp w H v d) : VAt w A C Hb v (.sh d) H := VAt.sh_of (h.scal s)
theorem VAt.i {i : Int} : VAt w A C Hb (.int i) (.sh (.int i)) H := VAt.sh_of (by simp only [Rp])
theorem VAt.b {b : Bool} : VAt w A C Hb (.bl b) (.sh (.bl b)) H := VAt.sh_of (by simp only [Rp])
theorem VAt.s {z : Str} : VAt w A C Hb (.str z) (.sh (.str z)) H := VAt.sh_of (by simp only [Rp])
/-- the sequence that a tree is -/
theorem shrs_d : ∀ {ts : List T} {ds : List D}, shrs ts = some ds → ds = T.ds ts
  | [], ds, h => by
    simp only [shrs, Option.some.injEq] at h
    rw [← h, T.ds]
  | t :: ts, ds, h => by
    simp only [shrs] at h
    split at h
    · rename_i d es h1 h2
      simp only [Option.some.injEq] at h
      rw [← h, T.ds, T.shr_d h1, shrs_d h2]
    · cases h
theorem BwAtL.shrs : ∀ {ts : List T} {vs : List V} {ds : List D}, BwAtL w H A C vs ts → shrs ts = some ds → RpL w (hide H (A ++ C)) vs ds
  | [], [], ds, _, h => by
    simp only [Mi.shrs, Option.some.injEq] at h
    rw [← h]
    simp only [RpL]
  | _ :: _, [], _, h, _ => by simp only [BwAtL] at h
  | [], _ :: _, _, h, _ => by simp only [BwAtL] at h
  | t :: ts, v :: vs, ds, h, s => by
    simp only [BwAtL] at h
    simp only [Mi.shrs] at s
    split at s
    · rename_i d es h1 h2
      simp only [Option.some.injEq] at s
      rw [← s]
      simp only [RpL]
      exact ⟨h.1.shr h1, BwAtL.shrs h.2 h2⟩
    · cases s
/-- a list or a tuple by its datum -/
def SqAt (w : Wd) (H : Hp) (a : Addr) (vs : List V) (d : D) : Prop := match d with
  | .lst _ => H a = some (.lst vs)
  | .tup _ => SqT w.K H a vs
  | _ => False
theorem D.its_some {d : D} {ds : List D} (h : d.its = some ds) : d = .lst ds ∨ d = .tup ds := by
  cases d <;> simp only [D.its, Option.some.injEq] at h <;> first | (subst h; exact .inl rfl) | (subst h; exact .inr rfl) | cases h
theorem Rp.seq (h : Rp w H v d) (s : d.its = some ds) : ∃ a vs, v = .ref a ∧ SqAt w H a vs d ∧ RpL w H vs ds := by
  rcases D.its_some s with rfl | rfl
  · simp only [Rp] at h
    obtain ⟨a, vs, h1, h2, h3⟩ := h
    exact ⟨a, vs, h1, h2, h3⟩
  · simp only [Rp] at h
    obtain ⟨a, vs, h1, h2, h3⟩ := h
    exact ⟨a, vs, h1, h2, h3⟩
theorem SqAt.ex (e : Ex H H') (h : SqAt w H a vs d) : SqAt w H' a vs d := by
  cases d <;> first | exact e _ _ h | exact ex_t e h | exact h
theorem BwAt.its (h : BwAt w H A C v t) (s : t.its = some ds) : ∃ a vs, v = .ref a ∧ SqAt w H a vs t.d ∧ RpL w (hide H (A ++ C)) vs ds ∧ (t.d = .lst ds ∨ t.d = .tup ds) := by
  cases t with
  | sh d =>
    simp only [T.its] at s
    simp only [BwAt] at h
    obtain ⟨a, vs, h1, h2, h3⟩ := h.seq s
    exact ⟨a, vs, h1, h2.ex hide_sub, h3, D.its_some s⟩
  | ro d =>
    simp only [T.its] at s
    split at s
    · rename_i es q
      split at s
      · rename_i sc
        simp only [Option.some.injEq] at s
        subst s
        simp only [BwAt] at h
        obtain ⟨a, vs, h1, h2, h3⟩ := h.seq q
        exact ⟨a, vs, h1, h2.ex hide_sub, h3.scal sc, D.its_some q⟩
      · cases s
    · cases s
  | lst ts =>
    simp only [T.its] at s
    simp only [BwAt] at h
    obtain ⟨p, vs, h1, h2, h3, _⟩ := h
    refine ⟨p, vs, h1, ?_, h3.shrs s, .inl ?_⟩
    · simp only [T.d]
      exact h2
    · simp only [T.d]
      rw [shrs_d s]
  | scr ns => cases s
theorem BwAtL.of_sh : ∀ {ds : List D} {vs : List V}, RpL w (hide H (A ++ C)) vs ds → BwAtL w H A C vs (ds.map T.sh)
  | [], [], _ => by simp only [List.map_nil, BwAtL]
  | _ :: _, [], h => by simp only [RpL] at h
  | [], _ :: _, h => by simp only [RpL] at h
  | d :: ds, v :: vs, h => by
    simp only [RpL] at h
    simp only [List.map_cons, BwAtL, BwAt]
    exact ⟨h.1, BwAtL.of_sh h.2⟩
theorem BwAt.roT {v : V} {d : D} (h : Rp w (hide H A) v d) : BwAt w H A C v (roT d) := by
  unfold Mi.roT
  split
  · rename_i sc
    simp only [BwAt]
    exact h.scal sc
  · simpa only [BwAt] using h
theorem BwAtL.of_ro : ∀ {ds : List D} {vs : List V}, RpL w (hide H A) vs ds → BwAtL w H A C vs (ds.map roT)
  | [], [], _ => by simp only [List.map_nil, BwAtL]
  | _ :: _, [], h => by simp only [RpL] at h
  | [], _ :: _, h => by simp only [RpL] at h
  | d :: ds, v :: vs, h => by
    simp only [RpL] at h
    simp only [List.map_cons, BwAtL]
    exact ⟨.roT h.1, BwAtL.of_ro h.2⟩
theorem roT_d (d : D) : (roT d).d = d := by
  unfold Mi.roT
  split <;> rfl
theorem T.ds_sh : ∀ ds : List D, T.ds (ds.map T.sh) = ds
  | [] => rfl
  | d :: ds => by rw [List.map_cons, T.ds, T.ds_sh ds, T.d]
theorem T.ds_ro : ∀ ds : List D, T.ds (ds.map roT) = ds
  | [] => rfl
  | d :: ds => by rw [List.map_cons, T.ds, T.ds_ro ds, roT_d]
/-- .. a list anywhere -/
def KqAt (w : Wd) (H : Hp) (a : Addr) (vs : List V) (d : D) : Prop := match d with
  | .lst _ => SqL w.K H a vs
  | .tup _ => SqT w.K H a vs
  | _ => False
theorem SqAt.kq (h : SqAt w H a vs d) : KqAt w H a vs d := by
  cases d <;> first | exact .of h | exact h
theorem KqAt.ex (e : Ex H H') (h : KqAt w H a vs d) : KqAt w H' a vs d := by
  cases d <;> first | exact ex_l e h | exact ex_t e h | exact h
theorem BwAt.kids (h : BwAt w H A C v t) (s : t.kids = some ts) : ∃ a vs, v = .ref a ∧ KqAt w H a vs t.d ∧ BwAtL w H A C vs ts ∧ (t.d = .lst (T.ds ts) ∨ t.d = .tup (T.ds ts)) := by
  cases t with
  | sh d =>
    simp only [T.kids, Option.map_eq_some_iff] at s
    obtain ⟨ds, s1, rfl⟩ := s
    simp only [BwAt] at h
    obtain ⟨a, vs, h1, h2, h3⟩ := h.seq s1
    rw [T.ds_sh]
    exact ⟨a, vs, h1, (h2.ex hide_sub).kq, .of_sh h3, D.its_some s1⟩
  | ro d =>
    simp only [T.kids, Option.map_eq_some_iff] at s
    obtain ⟨ds, s1, rfl⟩ := s
    simp only [BwAt] at h
    obtain ⟨a, vs, h1, h2, h3⟩ := h.seq s1
    rw [T.ds_ro]
    exact ⟨a, vs, h1, (h2.ex hide_sub).kq, .of_ro h3, D.its_some s1⟩
  | lst us =>
    simp only [T.kids, Option.some.injEq] at s
    subst s
    simp only [BwAt] at h
    obtain ⟨p, vs, h1, h2, h3, _⟩ := h
    refine ⟨p, vs, h1, ?_, h3, .inl (by simp only [T.d])⟩
    simp only [T.d]
    exact .of h2
  | scr ns =>
    simp only [T.kids, Option.some.injEq] at s
    subst s
    simp only [BwAt] at h
    obtain ⟨p, h1, h2⟩ := h
    refine ⟨p, _, h1, ?_, .of_sh (RpL.ints ns), .inl ?_⟩
    · simp only [T.d]
      exact ex_l hide_sub h2
    · rw [T.ds_sh, T.d]
/-- a new list of shared items -/
theorem VAt.new (e : Ex Hb H) (n : H p = none) (h : RpL w (hide H (A ++ C)) vs ds) : VAt w A C Hb (.ref p) (.fr (.lst (ds.map T.sh))) (upd H p (.lst vs)) := by
  refine ⟨[p], ?_, by simp, fun a ha => ?_⟩
  · simp only [OwAt]
    refine ⟨p, vs, [], rfl, rfl, upd_same, OwAtL.leaves ?_⟩
    refine h.ex fun a o q => ?_
    by_cases z : a = p
    · subst z
      rw [hide_none n] at q
      cases q
    · unfold hide at q ⊢
      split at q
      · cases q
      · rename_i n2
        rw [if_neg (by simp only [List.singleton_append, List.mem_cons, not_or]; exact ⟨z, n2⟩), upd_ne z]
        exact q
  · have e' : a = p := by simpa using ha
    subst e'
    exact fresh_back e n
/-- a new tuple -/
theorem VAt.tup (al : Al H (A ++ C)) (n : H p = none) (h : RpL w (hide H (A ++ C)) vs ds) : VAt w A C Hb (.ref p) (.sh (.tup ds)) (upd H p (.tup vs)) := by
  refine VAt.sh_of ?_
  simp only [Rp]
  exact ⟨p, vs, rfl, .of (hide_at upd_same (al.not n)), h.ex (hide_ex (Ex.new n))⟩
end

/-! ### evaluations -/
structure EnvOk (w : Wd) (H : Hp) (A C : List Addr) (σ : L2.St) (ρ : Env) : Prop where
  len : σ.length = ρ.length
  get : ∀ (i : Nat) (t : T), ρ[i]? = some (some t) → ∃ v, σ[i]? = some (some v) ∧ BwAt w H A C v t
def EvR (w : Wd) (A C : List Addr) (W : WX) (te : TE) (σ : L2.St) (H : Hp) : Res Vl → Prop
  | .ok x => ∀ H1, Ex H H1 → ∀ Q : VK, (∀ v H2, Ex H1 H2 → VAt w A C H1 v x H2 → Q v H2) → te σ H1 Q
  | .exc c vs => ∀ H1, Ex H H1 → ∀ Q : VK, (∀ k dx H2, Ex H1 H2 → XAt w (A ++ C) H2 k dx c vs → W k dx σ H2) → te σ H1 Q
  | .bad => True
def VAtL (w : Wd) (A C : List Addr) (Hb : Hp) : List V → List Vl → Hp → Prop
  | [], [], _ => True
  | v :: vs, x :: xs, H => VAt w A C Hb v x H ∧ VAtL w A C Hb vs xs H
  | [], _ :: _, _ => False
  | _ :: _, [], _ => False
def EvA (w : Wd) (A C : List Addr) (W : WX) (ta : TA) (σ : L2.St) (H : Hp) : Res (List Vl) → Prop
  | .ok xs => ∀ H1, Ex H H1 → ∀ Q : List V → Hp → Prop, (∀ vs H2, Ex H1 H2 → VAtL w A C H1 vs xs H2 → Q vs H2) → ta σ H1 Q
  | .exc c vs => ∀ H1, Ex H H1 → ∀ Q : List V → Hp → Prop, (∀ k dx H2, Ex H1 H2 → XAt w (A ++ C) H2 k dx c vs → W k dx σ H2) → ta σ H1 Q
  | .bad => True
/-- an operation on values: it raises nothing -/
def OpOk (w : Wd) (A C : List Addr) (Hb H : Hp) (t : Hp → VK → Prop) : Res Vl → Prop
  | .ok z => ∀ Q : VK, (∀ v H2, Ex H H2 → VAt w A C Hb v z H2 → Q v H2) → t H Q
  | .exc _ _ => False
  | .bad => True
section
variable {w : Wd} {W : WX} {H H' H1 H2 Hb Hb' : Hp} {A C : List Addr} {σ : L2.St} {ρ : Env} {ta tb tc te : TE} {r ra rb rc : Res Vl}
theorem EnvOk.ex (e : Ex H H') (h : EnvOk w H A C σ ρ) : EnvOk w H' A C σ ρ := ⟨h.len, fun i t q => by
  obtain ⟨v, h1, h2⟩ := h.get i t q
  exact ⟨v, h1, h2.ex e⟩⟩
theorem VAtL.ex (e : Ex H H') : ∀ {vs : List V} {xs : List Vl}, VAtL w A C Hb vs xs H → VAtL w A C Hb vs xs H'
  | [], [], _ => by simp only [VAtL]
  | _ :: _, [], h => by simp only [VAtL] at h
  | [], _ :: _, h => by simp only [VAtL] at h
  | v :: vs, x :: xs, h => by
    simp only [VAtL] at h ⊢
    exact ⟨h.1.ex e, VAtL.ex e h.2⟩
theorem VAtL.base (e : Ex Hb Hb') : ∀ {vs : List V} {xs : List Vl}, VAtL w A C Hb' vs xs H → VAtL w A C Hb vs xs H
  | [], [], _ => by simp only [VAtL]
  | _ :: _, [], h => by simp only [VAtL] at h
  | [], _ :: _, h => by simp only [VAtL] at h
  | v :: vs, x :: xs, h => by
    simp only [VAtL] at h ⊢
    exact ⟨h.1.base e, VAtL.base e h.2⟩
theorem EvR.mono {te' : TE} (h : ∀ H Q, te σ H Q → te' σ H Q) (e : EvR w A C W te σ H r) : EvR w A C W te' σ H r := by
  cases r with
  | ok x => exact fun H1 e1 Q q => h _ _ (e H1 e1 Q q)
  | exc c vs => exact fun H1 e1 Q q => h _ _ (e H1 e1 Q q)
  | bad => trivial
theorem EvR.ex (e : Ex H H') (h : EvR w A C W te σ H r) : EvR w A C W te σ H' r := by
  cases r with
  | ok x => exact fun H1 e1 Q q => h H1 (e.trans e1) Q q
  | exc c vs => exact fun H1 e1 Q q => h H1 (e.trans e1) Q q
  | bad => trivial
/-- one operand -/
theorem ev1 {f : Vl → Res Vl} {g : V → Hp → VK → Prop} (ha : EvR w A C W ta σ H ra) (hr : ∀ x, ra = .ok x → ∀ Hb v H1, Ex H Hb → Ex Hb H1 → VAt w A C Hb v x H1 → OpOk w A C Hb H1 (g v) (f x)) :
    EvR w A C W (fun σ H Q => ta σ H fun v H1 => g v H1 Q) σ H (ra.bnd f) := by
  cases ra with
  | ok x =>
    rw [Res.bnd_ok]
    have k := hr x rfl
    cases hf : f x with
    | ok z =>
      intro H1 e1 Q q
      refine ha H1 e1 _ fun v H2 e2 h2 => ?_
      have := k H1 v H2 e1 e2 h2
      rw [hf] at this
      exact this Q fun v' H3 e3 h3 => q v' H3 (e2.trans e3) h3
    | exc c vs =>
      intro H1 e1 Q q
      refine ha H1 e1 _ fun v H2 e2 h2 => ?_
      have := k H1 v H2 e1 e2 h2
      rw [hf] at this
      exact this.elim
    | bad => trivial
  | exc c vs => exact fun H1 e1 Q q => ha H1 e1 _ q
  | bad => trivial
/-- what comes behind an operand -/
theorem evb {f : Vl → Res Vl} {t : V → TE} (ha : EvR w A C W ta σ H ra) (hr : ∀ x, ra = .ok x → ∀ Hb v H1, Ex H Hb → Ex Hb H1 → VAt w A C Hb v x H1 → EvR w A C W (t v) σ H1 (f x)) :
    EvR w A C W (fun σ H Q => ta σ H fun v H1 => t v σ H1 Q) σ H (ra.bnd f) := by
  cases ra with
  | ok x =>
    rw [Res.bnd_ok]
    have k := hr x rfl
    cases hf : f x with
    | ok z =>
      intro H1 e1 Q q
      refine ha H1 e1 _ fun v H2 e2 h2 => ?_
      have := k H1 v H2 e1 e2 h2
      rw [hf] at this
      exact this H2 (Ex.refl H2) Q fun v' H3 e3 h3 => q v' H3 (e2.trans e3) (h3.base e2)
    | exc c vs =>
      intro H1 e1 Q q
      refine ha H1 e1 _ fun v H2 e2 h2 => ?_
      have := k H1 v H2 e1 e2 h2
      rw [hf] at this
      exact this H2 (Ex.refl H2) Q fun k dx H3 e3 h3 => q k dx H3 (e2.trans e3) h3
    | bad => trivial
  | exc c vs => exact fun H1 e1 Q q => ha H1 e1 _ q
  | bad => trivial
/-- two operands -/
theorem ev2 {f : Vl → Vl → Res Vl} {g : V → V → Hp → VK → Prop} (ha : EvR w A C W ta σ H ra) (hb : ∀ x, ra = .ok x → ∀ H1, Ex H H1 → EvR w A C W tb σ H1 rb)
    (hr : ∀ x y, ra = .ok x → rb = .ok y → ∀ Hb v u H1, Ex H Hb → Ex Hb H1 → VAt w A C Hb v x H1 → VAt w A C Hb u y H1 → OpOk w A C Hb H1 (g v u) (f x y)) :
    EvR w A C W (tOp g ta tb) σ H (ra.bnd fun x => rb.bnd fun y => f x y) := by
  cases ra with
  | ok x =>
    rw [Res.bnd_ok]
    cases rb with
    | ok y =>
      rw [Res.bnd_ok]
      have k := hr x y rfl rfl
      cases hf : f x y with
      | ok z =>
        intro H1 e1 Q q
        refine ha H1 e1 _ fun v H2 e2 h2 => ?_
        refine hb x rfl H2 (e1.trans e2) H2 (Ex.refl H2) _ fun u H3 e3 h3 => ?_
        have := k H1 v u H3 e1 (e2.trans e3) (h2.ex e3) (h3.base e2)
        rw [hf] at this
        exact this Q fun v' H4 e4 h4 => q v' H4 ((e2.trans e3).trans e4) h4
      | exc c vs =>
        intro H1 e1 Q q
        refine ha H1 e1 _ fun v H2 e2 h2 => ?_
        refine hb x rfl H2 (e1.trans e2) H2 (Ex.refl H2) _ fun u H3 e3 h3 => ?_
        have := k H1 v u H3 e1 (e2.trans e3) (h2.ex e3) (h3.base e2)
        rw [hf] at this
        exact this.elim
      | bad => trivial
    | exc c vs =>
      intro H1 e1 Q q
      refine ha H1 e1 _ fun v H2 e2 h2 => ?_
      exact hb x rfl H2 (e1.trans e2) H2 (Ex.refl H2) _ fun k dx H3 e3 h3 => q k dx H3 (e2.trans e3) h3
    | bad => trivial
  | exc c vs => exact fun H1 e1 Q q => ha H1 e1 _ q
  | bad => trivial
/-- an argument list -/
theorem ea_nil : EvA w A C W tNil σ H (.ok []) := fun H1 _ Q q => q [] H1 (Ex.refl H1) (by simp only [VAtL])
theorem ea_cons {tr : TA} {rs : Res (List Vl)} (ha : EvR w A C W ta σ H ra) (hr : ∀ H1, Ex H H1 → EvA w A C W tr σ H1 rs) :
    EvA w A C W (tCons ta tr) σ H (ra.bnd fun x => rs.bnd fun xs => .ok (x :: xs)) := by
  cases ra with
  | ok x =>
    rw [Res.bnd_ok]
    cases rs with
    | ok xs =>
      rw [Res.bnd_ok]
      intro H1 e1 Q q
      refine ha H1 e1 _ fun v H2 e2 h2 => ?_
      refine hr H2 (e1.trans e2) H2 (Ex.refl H2) _ fun vs H3 e3 h3 => ?_
      refine q (v :: vs) H3 (e2.trans e3) ?_
      simp only [VAtL]
      exact ⟨h2.ex e3, h3.base e2⟩
    | exc c vs =>
      intro H1 e1 Q q
      refine ha H1 e1 _ fun v H2 e2 h2 => ?_
      exact hr H2 (e1.trans e2) H2 (Ex.refl H2) _ fun k dx H3 e3 h3 => q k dx H3 (e2.trans e3) h3
    | bad => trivial
  | exc c vs => exact fun H1 e1 Q q => ha H1 e1 _ q
  | bad => trivial
/-- an operation on an argument list -/
theorem eva {ta : TA} {rs : Res (List Vl)} {f : List Vl → Res Vl} {g : List V → Hp → VK → Prop} (ha : EvA w A C W ta σ H rs)
    (hr : ∀ xs, rs = .ok xs → ∀ Hb vs H1, Ex H Hb → Ex Hb H1 → VAtL w A C Hb vs xs H1 → OpOk w A C Hb H1 (g vs) (f xs)) :
    EvR w A C W (fun σ H Q => ta σ H fun vs H1 => g vs H1 Q) σ H (rs.bnd f) := by
  cases rs with
  | ok x =>
    rw [Res.bnd_ok]
    have k := hr x rfl
    cases hf : f x with
    | ok z =>
      intro H1 e1 Q q
      refine ha H1 e1 _ fun v H2 e2 h2 => ?_
      have := k H1 v H2 e1 e2 h2
      rw [hf] at this
      exact this Q fun v' H3 e3 h3 => q v' H3 (e2.trans e3) h3
    | exc c vs =>
      intro H1 e1 Q q
      refine ha H1 e1 _ fun v H2 e2 h2 => ?_
      have := k H1 v H2 e1 e2 h2
      rw [hf] at this
      exact this.elim
    | bad => trivial
  | exc c vs => exact fun H1 e1 Q q => ha H1 e1 _ q
  | bad => trivial
end
end Mi

set_option Elab.async false
set_option linter.all false
set_option maxRecDepth 100000
set_option maxHeartbeats 4000000
namespace Mi
open PySem PySem.Spec PyProof.Rows L2

theorem op_mulA {X : Cx} : OpR X (binaryOp .Mult) (rI mulOk fun i j => .int (i * j)) := opI fun _ _ _ _ _ _ _ hc q => mul_int q (hc.elim CMul.ok CMulW.ok)
def Bop.py : Bop → Operator
  | .add => .Add | .sub => .Sub | .mul => .Mult | .fdiv => .FloorDiv | .mod => .Mod | .pow => .Pow
def rStr : R2 := fun x y H Q => ∃ i j, x = .str i ∧ y = .str j ∧ i.length + j.length ≤ sizeLine ∧ Q (.str (i ++ j)) H
def rOr (r r' : R2) : R2 := fun x y H Q => r x y H Q ∨ r' x y H Q
def rBin (K : PySem.W.Frag) : Bop → R2
  | .add => rOr (rI0 fun i j => .int (i + j)) (rOr rStr (rOr rCat (rCatA K)))
  | .sub => rI0 fun i j => .int (i - j)
  | .mul => rOr (rI mulOk fun i j => .int (i * j)) rRep
  | .fdiv => rI CDivW fun i j => .int (i / j)
  | .mod => rI (fun _ j => 0 < j) fun i j => .int (i % j)
  | .pow => rI CPow fun i j => .int (i ^ j.toNat)
theorem op_bin {X : Cx} : ∀ op : Bop, OpR X (binaryOp op.py) (rBin X.K op)
  | .add => op_add.or ((op_add_str (X := X)).or (op_cat.or op_catA))
  | .sub => op_sub
  | .mul => op_mulA.or op_rep
  | .fdiv => op_fdivW
  | .mod => op_mod
  | .pow => op_pow
section
variable {w : Wd} {W : WX} {H H' H1 H2 Hb Hb' : Hp} {A C : List Addr} {σ : L2.St} {ρ : Env} {v u : V} {x y z : Vl} {d e : D} {t : T}
theorem op_bad {g : Hp → VK → Prop} : OpOk w A C Hb H g .bad := trivial
theorem op_iff {g : Hp → VK → Prop} {c : Prop} {r : Res Vl} (h : c → OpOk w A C Hb H g r) : OpOk w A C Hb H g (.iff c r) := by
  unfold Res.iff
  split
  · exact h (by assumption)
  · exact op_bad
theorem op_of {α : Type} {g : Hp → VK → Prop} {o : Option α} {f : α → Res Vl} (h : ∀ a, o = some a → OpOk w A C Hb H g (f a)) : OpOk w A C Hb H g ((Res.of o).bnd f) := by
  cases o with
  | none => exact op_bad
  | some a => exact h a rfl
theorem op_i {g : Hp → VK → Prop} {i : Int} (h : ∀ Q, Q (.int i) H → g H Q) : OpOk w A C Hb H g (okI i) := fun Q q => h Q (q _ H (Ex.refl H) VAt.i)
theorem op_b {g : Hp → VK → Prop} {b : Bool} (h : ∀ Q, Q (.bl b) H → g H Q) : OpOk w A C Hb H g (okB b) := fun Q q => h Q (q _ H (Ex.refl H) VAt.b)
theorem op_s {g : Hp → VK → Prop} {b : Str} (h : ∀ Q, Q (.str b) H → g H Q) : OpOk w A C Hb H g (okS b) := fun Q q => h Q (q _ H (Ex.refl H) VAt.s)
theorem op_bw {g : Hp → VK → Prop} {t : T} {v : V} (h : ∀ Q, Q v H → g H Q) (hv : BwAt w H A C v t) : OpOk w A C Hb H g (.ok (.bw t)) := fun Q q => h Q (q _ H (Ex.refl H) hv)
theorem op_new {g : Hp → VK → Prop} {vs : List V} {ds : List D} (eb : Ex Hb H) (hv : RpL w (hide H (A ++ C)) vs ds) (h : ∀ Q : VK, (∀ p, H p = none → Q (.ref p) (upd H p (.lst vs))) → g H Q) : OpOk w A C Hb H g (frL ds) :=
  fun Q q => h Q fun p n => q _ _ (Ex.new n) (VAt.new eb n hv)
theorem op_tup {g : Hp → VK → Prop} {vs : List V} {ds : List D} (al : Al H (A ++ C)) (hv : RpL w (hide H (A ++ C)) vs ds) (h : ∀ Q : VK, (∀ p, H p = none → Q (.ref p) (upd H p (.tup vs))) → g H Q) : OpOk w A C Hb H g (.ok (.sh (.tup ds))) :=
  fun Q q => h Q fun p n => q _ _ (Ex.new n) (VAt.tup al n hv)
theorem rp_i {i : Int} (h : Rq w H v (.int i)) : v = .int i := by simpa only [Rq] using h
theorem rp_b {i : Bool} (h : Rq w H v (.bl i)) : v = .bl i := by simpa only [Rq] using h
theorem rp_s {i : Str} (h : Rq w H v (.str i)) : v = .str i := by simpa only [Rq] using h
theorem rp_n (h : Rq w H v .non) : v = .non := by simpa only [Rq] using h
/-- the parts of a value whose datum is known -/
theorem VAt.int {i : Int} (al : Al Hb (A ++ C)) (h : VAt w A C Hb v x H) (e : x.d = .int i) : v = .int i := rp_i (w := w) (H := H) (by rw [← e]; exact h.rq al)
theorem VAt.bl {i : Bool} (al : Al Hb (A ++ C)) (h : VAt w A C Hb v x H) (e : x.d = .bl i) : v = .bl i := rp_b (w := w) (H := H) (by rw [← e]; exact h.rq al)
theorem VAt.str {i : Str} (al : Al Hb (A ++ C)) (h : VAt w A C Hb v x H) (e : x.d = .str i) : v = .str i := rp_s (w := w) (H := H) (by rw [← e]; exact h.rq al)
theorem VAt.non (al : Al Hb (A ++ C)) (h : VAt w A C Hb v x H) (e : x.d = .non) : v = .non := rp_n (w := w) (H := H) (by rw [← e]; exact h.rq al)
theorem VAt.its {ds : List D} (al : Al Hb (A ++ C)) (h : VAt w A C Hb v x H) (s : x.rd.its = some ds) : ∃ a vs, v = .ref a ∧ SqAt w H a vs x.d ∧ RpL w (hide H (A ++ C)) vs ds ∧ (x.d = .lst ds ∨ x.d = .tup ds) := (h.rd al).its s
theorem sq_l {ds : List D} {a : Addr} {vs : List V} (h : SqAt w H a vs d) (e : d = .lst ds) : H a = some (.lst vs) := by
  subst e
  exact h
theorem sq_t {ds : List D} {a : Addr} {vs : List V} (h : SqAt w H a vs d) (e : d = .tup ds) : SqT w.K H a vs := by
  subst e
  exact h
theorem VAt.tupS {d : D} {ds : List D} (al : Al Hb (A ++ C)) (h : VAt w A C Hb v x H) (e : x.d = .tup ds) (s : x.shr = some d) : Rp w (hide H (A ++ C)) v (.tup ds) ∧ ∃ a vs, v = .ref a ∧ SqT w.K (hide H (A ++ C)) a vs ∧ RpL w (hide H (A ++ C)) vs ds := by
  have q := h.shr al s
  have ed : d = .tup ds := (T.shr_d s).trans e
  rw [ed] at q
  refine ⟨q, ?_⟩
  simpa only [Rp] using q
theorem RpL.rep {vs : List V} {ds : List D} (h : RpL w H vs ds) : ∀ n : Nat, RpL w H (List.replicate n vs).flatten (List.replicate n ds).flatten
  | 0 => by simp [RpL]
  | n + 1 => by
    rw [List.replicate_succ, List.replicate_succ, List.flatten_cons, List.flatten_cons]
    exact h.app (RpL.rep h n)
theorem RpL.nil_iff {vs : List V} {ds : List D} (h : RpL w H vs ds) : vs = [] ↔ ds = [] := by
  have e := h.length
  constructor
  · rintro rfl
    exact List.length_eq_zero_iff.mp e.symm
  · rintro rfl
    exact List.length_eq_zero_iff.mp e
theorem bin_ok (al : Al Hb (A ++ C)) (eb : Ex Hb H) (hx : VAt w A C Hb v x H) (hy : VAt w A C Hb u y H) (op : Bop) : OpOk w A C Hb H (rBin w.K op v u) (binV op x y) := by
  have alH := al.ex eb
  unfold binV
  split
  · rename_i i j h1 h2
    cases hx.int al h1
    cases hy.int al h2
    exact op_i fun Q q => .inl ⟨i, j, rfl, rfl, q⟩
  · rename_i a b h1 h2
    cases hx.str al h1
    cases hy.str al h2
    exact op_iff fun hc => op_s fun Q q => .inr (.inl ⟨a, b, rfl, rfl, hc, q⟩)
  · rename_i d1 d2 h1 h2
    refine op_of fun ds e1 => op_of fun es e2 => op_iff fun hc => ?_
    obtain ⟨a, vs, rfl, s1, r1, _⟩ := hx.its al e1
    obtain ⟨b, us, rfl, s2, r2, _⟩ := hy.its al e2
    exact op_new eb (r1.app r2) fun Q q => .inr (.inr (.inl ⟨a, b, vs, us, rfl, rfl, sq_l s1 h1, sq_l s2 h2, by rw [r1.length, r2.length]; exact hc, q⟩))
  · rename_i ds es h1 h2
    refine op_of fun d1 e1 => op_of fun d2 e2 => op_iff fun hc => ?_
    obtain ⟨q1, k1⟩ := hx.tupS al h1 e1
    obtain ⟨a, vs, rfl, t1, r1⟩ := k1
    obtain ⟨q2, k2⟩ := hy.tupS al h2 e2
    obtain ⟨b, us, rfl, t2, r2⟩ := k2
    intro Q q
    refine .inr (.inr (.inr ⟨a, b, vs, us, rfl, rfl, ex_t hide_sub t1, ex_t hide_sub t2, by rw [r1.length, r2.length]; exact hc, fun z => ?_, fun z1 z2 => ?_, fun z1 z2 p n => ?_⟩))
    · refine q _ H (Ex.refl H) ?_
      rw [r1.nil_iff.mp z, List.nil_append]
      exact VAt.sh_of q2
    · refine q _ H (Ex.refl H) ?_
      rw [r2.nil_iff.mp z2, List.append_nil]
      exact VAt.sh_of q1
    · exact q _ _ (Ex.new n) (VAt.tup alH n (r1.app r2))
  · rename_i i j h1 h2
    cases hx.int al h1
    cases hy.int al h2
    exact op_i fun Q q => ⟨i, j, rfl, rfl, q⟩
  · rename_i i j h1 h2
    cases hx.int al h1
    cases hy.int al h2
    exact op_iff fun hc => op_i fun Q q => .inl ⟨i, j, rfl, rfl, hc, q⟩
  · rename_i d1 k h1 h2
    cases hy.int al h2
    refine op_of fun ds e1 => op_iff fun hc => ?_
    obtain ⟨a, vs, rfl, s1, r1, _⟩ := hx.its al e1
    exact op_new eb (r1.rep _) fun Q q => .inr ⟨a, k, vs, rfl, rfl, sq_l s1 h1, hc.1, hc.2.1, by rw [r1.length]; exact hc.2.2, q⟩
  · rename_i i j h1 h2
    cases hx.int al h1
    cases hy.int al h2
    exact op_iff fun hc => op_i fun Q q => ⟨i, j, rfl, rfl, hc, q⟩
  · rename_i i j h1 h2
    cases hx.int al h1
    cases hy.int al h2
    exact op_iff fun hc => op_i fun Q q => ⟨i, j, rfl, rfl, hc, q⟩
  · rename_i i j h1 h2
    cases hx.int al h1
    cases hy.int al h2
    exact op_iff fun hc => op_i fun Q q => ⟨i, j, rfl, rfl, hc, q⟩
  · exact op_bad
end
end Mi

set_option Elab.async false
set_option linter.all false
set_option maxRecDepth 100000
set_option maxHeartbeats 4000000
namespace Mi
open PySem PySem.Spec PyProof.Rows L2

/-! ### data as the library knows it -/
section
variable {w : Wd} {H : Hp}
mutual
theorem Rq.dp : ∀ {d : D} {v : V}, Rq w H v d → d.py.canLay0 = true → Dp w.K H v d.py
  | .non, _, h, _ => by
    simp only [Rq] at h
    subst h
    exact .non
  | .bl b, _, h, _ => by
    simp only [Rq] at h
    subst h
    exact .bl b
  | .int i, _, h, _ => by
    simp only [Rq] at h
    subst h
    exact .int i
  | .str x, _, h, _ => by
    simp only [Rq] at h
    subst h
    exact .str x
  | .tup ds, _, h, c => by
    simp only [Rq] at h
    obtain ⟨a, vs, rfl, h2, h3⟩ := h
    simp only [D.py, PyData.canLay0] at c ⊢
    exact .tup h2 (RqL.dp h3 c)
  | .lst ds, _, h, c => by
    simp only [Rq] at h
    obtain ⟨a, vs, rfl, h2, h3⟩ := h
    simp only [D.py, PyData.canLay0] at c ⊢
    exact .lst h2 (RqL.dp h3 c)
  | .dic _ _, _, _, c => by
    simp only [D.py, PyData.canLay0] at c
    cases c
  | .obj _ _ _, _, _, c => by
    simp only [D.py, PyData.canLay0] at c
    cases c
theorem RqL.dp : ∀ {ds : List D} {vs : List V}, RqL w H vs ds → PyData.canLayAll0 (D.pys ds) = true → DpAll w.K H vs (D.pys ds)
  | [], [], _, _ => by
    simp only [D.pys]
    exact .nil
  | _ :: _, [], h, _ => by simp only [RqL] at h
  | [], _ :: _, h, _ => by simp only [RqL] at h
  | d :: ds, v :: vs, h, c => by
    simp only [RqL] at h
    simp only [D.pys, PyData.canLayAll0, Bool.and_eq_true] at c ⊢
    exact .cons (Rq.dp h.1 c.1) (RqL.dp h.2 c.2)
end
end
theorem D.pys_any (f : PyData → Bool) : ∀ ds : List D, (D.pys ds).any f = ds.any fun e => f e.py
  | [] => rfl
  | d :: ds => by rw [D.pys, List.any_cons, List.any_cons, D.pys_any f ds]

/-! ### in a tuple -/
def rInT (K : PySem.W.Frag) : R2 := fun x y H Q => ∃ d ds, Dp K H x d ∧ Dp K H y (.tuple ds) ∧ SeqAt.shaped d = true ∧ SeqAt.shaped (.list ds) = true ∧ Q (.bl (ds.any fun z => PyData.eqv z d)) H
def rNoT (K : PySem.W.Frag) : R2 := fun x y H Q => ∃ d ds, Dp K H x d ∧ Dp K H y (.tuple ds) ∧ SeqAt.shaped d = true ∧ SeqAt.shaped (.list ds) = true ∧ Q (.bl (!ds.any fun z => PyData.eqv z d)) H
theorem lay_lst {ds : List PyData} (h : SeqAt.shaped (.list ds) = true) : PyData.canLayAll0 ds = true := by
  have e := SeqAt.canLay_of_shaped h
  simpa only [PyData.canLay0] using e
theorem room65 {A : Around} {xs : List PyData} {d : PyData} (h : SeqAt.shaped d = true) (hu : A.units + 65 < cLine) : A.units + 1 + min (PyData.depthAll xs) d.depth < cLine := by
  have a := SeqAt.depth_of_shaped h
  have b := Nat.min_le_right (PyData.depthAll xs) d.depth
  omega
theorem op_inT {X : Cx} (hu : X.A.units + 65 < cLine) : OpR X (compareOp .In) (rInT X.K) := fun pins s σ H x y v u Q I rx ry h => by
  obtain ⟨d, ds, k1, k2, k3, k4, k5⟩ := h
  have ⟨_, e1⟩ := Dp.reads I _ _ _ k1 rx
  have ⟨_, e2⟩ := Dp.reads I _ _ _ k2 ry
  exact SeqAt.in_tuple_reads e2 e1 (lay_lst k4) (SeqAt.canLay_of_shaped k3) (room65 k3 hu) ⟨.bl _, _, I, rfl, k5⟩
theorem op_noT {X : Cx} (hu : X.A.units + 65 < cLine) : OpR X (compareOp .NotIn) (rNoT X.K) := fun pins s σ H x y v u Q I rx ry h => by
  obtain ⟨d, ds, k1, k2, k3, k4, k5⟩ := h
  have ⟨_, e1⟩ := Dp.reads I _ _ _ k1 rx
  have ⟨_, e2⟩ := Dp.reads I _ _ _ k2 ry
  exact SeqAt.notIn_tuple_reads e2 e1 (lay_lst k4) (SeqAt.canLay_of_shaped k3) (room65 k3 hu) ⟨.bl _, _, I, rfl, k5⟩

/-! ### comparisons -/
def Cop.py : Cop → CmpOp
  | .eq => .Eq | .ne => .NotEq | .lt => .Lt | .le => .LtE | .gt => .Gt | .ge => .GtE | .isN => .Is | .noN => .IsNot | .isIn => .In | .noIn => .NotIn
def rS2 (p : List Nat → List Nat → Bool) : R2 := fun x y H Q => ∃ i j, x = .str i ∧ y = .str j ∧ Q (.bl (p i.cps.toList j.cps.toList)) H
def rSg (neg : Bool) : R2 := fun x y H Q => ∃ (c : Nat) (z : Str), x = .str ⟨#[c]⟩ ∧ y = .str z ∧ Q (.bl (if neg then !decide (c ∈ z.cps.toList) else decide (c ∈ z.cps.toList))) H
def rCmp (K : PySem.W.Frag) : Cop → R2
  | .eq => rEqD K
  | .ne => rNeD K
  | .lt => rOr (rI0 fun i j => .bl (decide (i < j))) (rS2 fun a b => decide (a < b))
  | .le => rOr (rI0 fun i j => .bl (decide (i ≤ j))) (rS2 fun a b => !decide (b < a))
  | .gt => rOr (rI0 fun i j => .bl (decide (j < i))) (rS2 fun a b => decide (b < a))
  | .ge => rOr (rI0 fun i j => .bl (decide (j ≤ i))) (rS2 fun a b => !decide (a < b))
  | .isN => fun x y H Q => y = .non ∧ Q (.bl (decide (x = .non))) H
  | .noN => fun x y H Q => y = .non ∧ Q (.bl (!decide (x = .non))) H
  | .isIn => rOr (rSg false) (rOr (rInD K) (rInT K))
  | .noIn => rOr (rSg true) (rOr (rNotInD K) (rNoT K))
theorem op_cmp {X : Cx} (hu : X.A.units + 65 < cLine) : ∀ op : Cop, OpR X (compareOp op.py) (rCmp X.K op)
  | .eq => op_eqD (by omega)
  | .ne => op_neD (by omega)
  | .lt => op_lt.or op_lt_str
  | .le => op_le.or op_le_str
  | .gt => op_gt.or op_gt_str
  | .ge => op_ge.or op_ge_str
  | .isN => op_isN
  | .noN => op_notN
  | .isIn => OpR.or op_in_sign ((op_inD hu).or (op_inT hu))
  | .noIn => OpR.or op_notIn_sign ((op_notInD hu).or (op_noT hu))
section
variable {w : Wd} {W : WX} {H H' H1 H2 Hb Hb' : Hp} {A C : List Addr} {σ : L2.St} {ρ : Env} {v u : V} {x y z : Vl} {d e : D} {t : T}
theorem fit_dp (h : Rq w H v d) (f : d.fit = true) : Dp w.K H v d.py := h.dp (SeqAt.canLay_of_shaped f)
theorem ltR_ok {b : Bool} {Q : VK} (hx : Rq w H v d) (hy : Rq w H u e) (h : ltR d e = some b) (q : Q (.bl b) H) : rCmp w.K .lt v u H Q ∧ rCmp w.K .gt u v H Q := by
  unfold ltR at h
  split at h
  · rename_i i j
    cases rp_i hx
    cases rp_i hy
    cases h
    exact ⟨.inl ⟨i, j, rfl, rfl, q⟩, .inl ⟨j, i, rfl, rfl, q⟩⟩
  · rename_i i j
    cases rp_s hx
    cases rp_s hy
    cases h
    exact ⟨.inr ⟨i, j, rfl, rfl, q⟩, .inr ⟨j, i, rfl, rfl, q⟩⟩
  · cases h
theorem leR_ok {b : Bool} {Q : VK} (hx : Rq w H v d) (hy : Rq w H u e) (h : leR d e = some b) (q : Q (.bl b) H) : rCmp w.K .le v u H Q ∧ rCmp w.K .ge u v H Q := by
  unfold leR at h
  split at h
  · rename_i i j
    cases rp_i hx
    cases rp_i hy
    cases h
    exact ⟨.inl ⟨i, j, rfl, rfl, q⟩, .inl ⟨j, i, rfl, rfl, q⟩⟩
  · rename_i i j
    cases rp_s hx
    cases rp_s hy
    cases h
    exact ⟨.inr ⟨i, j, rfl, rfl, q⟩, .inr ⟨j, i, rfl, rfl, q⟩⟩
  · cases h
theorem one_sign {a : Str} {c : Nat} (h : a.cps.toList = [c]) : a = ⟨#[c]⟩ := by
  obtain ⟨⟨l⟩⟩ := a
  simp only at h
  rw [h]
theorem inR_ok {b : Bool} {Q : VK} (neg : Bool) (hx : Rq w H v d) (hy : Rq w H u e) (h : inR d e = some b) (q : Q (.bl (if neg then !b else b)) H) : rCmp w.K (if neg then .noIn else .isIn) v u H Q := by
  unfold inR at h
  split at h
  · rename_i a z
    cases rp_s hx
    cases rp_s hy
    split at h
    · rename_i c hc
      cases h
      cases one_sign hc
      cases neg
      · exact .inl ⟨c, z, rfl, rfl, q⟩
      · exact .inl ⟨c, z, rfl, rfl, q⟩
    · cases h
  · rename_i ds
    unfold memR at h
    split at h
    · rename_i hf
      simp only [Bool.and_eq_true] at hf
      cases h
      have k1 := fit_dp hx hf.1
      have k2 := fit_dp hy hf.2
      simp only [D.py] at k2
      have f2 : SeqAt.shaped (.list (D.pys ds)) = true := by
        have := hf.2
        unfold D.fit at this
        simpa only [D.py] using this
      rw [← D.pys_any (fun z => PyData.eqv z d.py)] at q
      cases neg
      · exact .inr (.inl ⟨_, _, k1, k2, hf.1, f2, q⟩)
      · exact .inr (.inl ⟨_, _, k1, k2, hf.1, f2, q⟩)
    · cases h
  · rename_i ds
    unfold memR at h
    split at h
    · rename_i hf
      simp only [Bool.and_eq_true] at hf
      cases h
      have k1 := fit_dp hx hf.1
      have f2 : SeqAt.shaped (.list (D.pys ds)) = true := by
        have := hf.2
        unfold D.fit at this
        simpa only [D.py] using this
      have k2 : Dp w.K H u (.tuple (D.pys ds)) := by
        have := hy.dp (d := .tup ds) (by
          simp only [D.py, PyData.canLay0]
          exact lay_lst f2)
        simpa only [D.py] using this
      rw [← D.pys_any (fun z => PyData.eqv z d.py)] at q
      cases neg
      · exact .inr (.inr ⟨_, _, k1, k2, hf.1, f2, q⟩)
      · exact .inr (.inr ⟨_, _, k1, k2, hf.1, f2, q⟩)
    · cases h
  · cases h
theorem rq_non (h : Rq w H v d) : decide (v = .non) = d.isN := by
  cases d with
  | non => rw [rp_n h]; rfl
  | bl b => rw [rp_b h]; rfl
  | int b => rw [rp_i h]; rfl
  | str b => rw [rp_s h]; rfl
  | tup ds =>
    simp only [Rq] at h
    obtain ⟨a, vs, rfl, _⟩ := h
    rfl
  | lst ds =>
    simp only [Rq] at h
    obtain ⟨a, vs, rfl, _⟩ := h
    rfl
  | dic ks ds =>
    simp only [Rq, Rp] at h
    obtain ⟨a, vs, rfl, _⟩ := h
    rfl
  | obj c ns ds =>
    simp only [Rq, Rp] at h
    obtain ⟨a, dx, vs, rfl, _⟩ := h
    rfl
theorem cmpR_ok {b : Bool} {Q : VK} (hx : Rq w H v d) (hy : Rq w H u e) (op : Cop) (h : cmpR op d e = some b) (q : Q (.bl b) H) : rCmp w.K op v u H Q := by
  cases op with
  | eq =>
    simp only [cmpR, eqR] at h
    split at h
    · rename_i hf
      simp only [Bool.and_eq_true] at hf
      cases h
      exact ⟨_, _, fit_dp hx hf.1, fit_dp hy hf.2, hf.1, hf.2, q⟩
    · cases h
  | ne =>
    simp only [cmpR, eqR] at h
    split at h
    · rename_i hf
      simp only [Bool.and_eq_true] at hf
      cases h
      exact ⟨_, _, fit_dp hx hf.1, fit_dp hy hf.2, hf.1, hf.2, q⟩
    · cases h
  | lt => exact (ltR_ok hx hy h q).1
  | le => exact (leR_ok hx hy h q).1
  | gt => exact (ltR_ok hy hx h q).2
  | ge => exact (leR_ok hy hx h q).2
  | isN =>
    simp only [cmpR] at h
    split at h
    · cases h
      exact ⟨rp_n hy, by rw [rq_non hx]; exact q⟩
    · cases h
  | noN =>
    simp only [cmpR] at h
    split at h
    · cases h
      refine ⟨rp_n hy, ?_⟩
      rw [rq_non hx]
      exact q
    · cases h
  | isIn => exact inR_ok false hx hy h q
  | noIn =>
    simp only [cmpR, Option.map_eq_some_iff] at h
    obtain ⟨b', h1, rfl⟩ := h
    exact inR_ok true hx hy h1 q
theorem cmp_ok (al : Al Hb (A ++ C)) (hx : VAt w A C Hb v x H) (hy : VAt w A C Hb u y H) (op : Cop) : OpOk w A C Hb H (rCmp w.K op v u) ((Res.of (cmpR op x.d y.d)).bnd okB) :=
  op_of fun b hb => op_b fun Q q => cmpR_ok (hx.rq al) (hy.rq al) op hb q

/-! ### items, slices -/
theorem atI_map {α β : Type} {f : α → β} {xs : List α} {i : Int} : atI (xs.map f) i = (atI xs i).map f := by
  unfold atI
  rw [List.length_map]
  cases ixN xs.length i with
  | none => rfl
  | some j => simp
theorem atI_bw {ts : List T} {vs : List V} {i : Int} {t : T} (h : BwAtL w H A C vs ts) (e : atI ts i = some t) : ∃ v, atI vs i = some v ∧ BwAt w H A C v t := by
  unfold atI at e ⊢
  rw [h.length]
  cases q : ixN ts.length i with
  | none => rw [q] at e; cases e
  | some j =>
    rw [q] at e
    exact h.get e
theorem kq_ix {a : Addr} {vs : List V} {i : Int} {v' : V} {ts : List T} {Q : VK} (k : KqAt w H a vs d) (hd : d = .lst (T.ds ts) ∨ d = .tup (T.ds ts)) (e : atI vs i = some v') (q : Q v' H) : rIx w.K (.ref a) (.int i) H Q := by
  rcases hd with rfl | rfl
  · exact .inl ⟨a, vs, i, v', rfl, rfl, k, e, q⟩
  · exact .inr (.inl ⟨a, vs, i, v', rfl, rfl, k, e, q⟩)
theorem ix_ok (al : Al Hb (A ++ C)) (eb : Ex Hb H) (hx : VAt w A C Hb v x H) (hy : VAt w A C Hb u y H) : OpOk w A C Hb H (rIx w.K v u) (ixV x y) := by
  have hb := hx.rd al
  unfold ixV
  split
  · rename_i i h1
    cases hy.int al h1
    split
    · rename_i z h2
      have ev : v = .str z := hx.str al (by unfold Vl.d; rw [h2, T.d])
      subst ev
      exact op_iff fun hz => op_of fun c hc => op_s fun Q q => .inr (.inr ⟨z, i, c, rfl, rfl, hz, hc, q⟩)
    · rename_i z h2
      have ev : v = .str z := hx.str al (by unfold Vl.d; rw [h2, T.d])
      subst ev
      exact op_iff fun hz => op_of fun c hc => op_s fun Q q => .inr (.inr ⟨z, i, c, rfl, rfl, hz, hc, q⟩)
    · refine op_of fun ks hk => op_of fun t ht => ?_
      obtain ⟨a, vs, rfl, k1, k2, k3⟩ := hb.kids hk
      obtain ⟨v', e1, e2⟩ := atI_bw k2 ht
      exact op_bw (fun Q q => kq_ix k1 k3 e1 q) e2
  · exact op_bad
theorem RpL.cut {vs : List V} {ds : List D} (h : RpL w H vs ds) (lo hi : Option Int) : RpL w H (cutV vs lo hi) (cutL ds lo hi) := by
  unfold cutV cutL
  rw [h.length]
  exact (h.drop _).take _
def rSlX (K : PySem.W.Frag) : V → Option Int → Option Int → Hp → VK → Prop := fun x lo hi H Q => rSlS x lo hi H Q ∨ rSlL K x lo hi H Q ∨ rSlA K x lo hi H Q
theorem sl_x {X : Cx} : SlR X (rSlX X.K) := sl_str.or (sl_list.or sl_tupA)
theorem sl_ok (al : Al Hb (A ++ C)) (eb : Ex Hb H) (hx : VAt w A C Hb v x H) (lo hi : Option Int) : OpOk w A C Hb H (rSlX w.K v lo hi) (slV x lo hi) := by
  have alH := al.ex eb
  unfold slV
  split
  · rename_i z h1
    cases hx.str al h1
    exact op_iff fun hz => op_s fun Q q => .inl ⟨z, rfl, hz, q⟩
  · rename_i d1 h1
    refine op_of fun ds hd => ?_
    obtain ⟨a, vs, rfl, s1, r1, _⟩ := hx.its al hd
    exact op_new eb (r1.cut lo hi) fun Q q => .inr (.inl ⟨a, vs, rfl, .of (sq_l s1 h1), q⟩)
  · rename_i ds h1
    refine op_of fun d1 hd => ?_
    obtain ⟨q1, a, vs, rfl, s1, r1⟩ := hx.tupS al h1 hd
    intro Q q
    refine .inr (.inr ⟨a, vs, rfl, ex_t hide_sub s1, fun z => ?_, fun _ p n => ?_⟩)
    · refine q _ H (Ex.refl H) ?_
      have e : cutL ds lo hi = ds := by
        unfold cutL
        rw [← r1.length, z.1, z.2]
        simp
        rw [r1.length]
        simp
      rw [e]
      exact VAt.sh_of q1
    · exact q _ _ (Ex.new n) (VAt.tup alH n (r1.cut lo hi))
  · exact op_bad
end
end Mi

set_option Elab.async false
set_option linter.all false
set_option maxRecDepth 100000
set_option maxHeartbeats 4000000
namespace Mi
open PySem PySem.Spec PyProof.Rows L2

/-! ### sum of a tuple -/
theorem preSum_take (ns : List Int) : ∀ n, n ≤ ns.length → preSum (fun i => ns.getD i 0) n = (ns.take n).sum
  | 0, _ => rfl
  | n + 1, h => by
    have h1 : n < ns.length := h
    rw [preSum, preSum_take ns n (by omega), List.take_add_one, List.getElem?_eq_getElem h1, List.sum_append]
    simp [List.getD_eq_getElem?_getD, List.getElem?_eq_getElem h1]
def rSumT (K : PySem.W.Frag) : List V → Hp → VK → Prop := fun vs H Q => ∃ (a : Addr) (ns : List Int), vs = [V.ref a] ∧ SqT K H a (ns.map V.int) ∧ Q (.int ns.sum) H
theorem cr_sumT {X : Cx} (hc : X.calm = true) : CallR X (.builtin "sum") (rSumT X.K) := by
  intro pins s σ H vs us Q I r h
  obtain ⟨a, ns, rfl, hs, q⟩ := h
  obtain ⟨us', rv, tp, _⟩ := I.tuple hs
  have lu := rv.length
  rw [List.length_map] at lu
  have ha : a < s.heap.objs.size := by
    obtain ⟨o, e, _⟩ := tp
    exact Heap.lt_size e
  rw [Vals.ref1 r]
  refine call_sum_walkG (wpAny_pyIter_tuple (show s.heap.IsTuple a us'.toArray from tp) ⟨_, _, _, _, _, _, fun i => ns.getD i 0, rfl,
    Walks.tuple (A := X.A.in1) (I.ok.hd hc) s.heap.objs.size a (Nat.ne_of_lt ha) us'.toArray, ⟨⟨_, Heap.get?_push_size _ rfl, rfl, rfl⟩, ?_⟩, ?_, ?_, ?_⟩)
  · obtain ⟨o, e1, e2⟩ := tp
    exact ⟨o, Heap.get?_push_of_some _ e1, e2⟩
  · intro b hb
    rw [Heap.size_push]
    simp only [List.mem_cons, List.not_mem_nil, or_false] at hb
    rcases hb with e | e
    · rw [e]
      exact Nat.lt_succ_self _
    · rw [e]
      exact Nat.lt_succ_of_lt ha
  · intro i u hu
    rw [List.getElem?_toArray] at hu
    have hi : i < us'.length := (List.getElem?_eq_some_iff.mp hu).1
    have hn : i < ns.length := by omega
    obtain ⟨u2, e1, e2⟩ := rv.get (i := i) (x := .int ns[i]) (by rw [List.getElem?_map, List.getElem?_eq_getElem hn]; rfl)
    rw [hu] at e1
    cases e1
    obtain ⟨t, e3⟩ := e2
    refine ⟨t, ?_⟩
    rw [e3]
    simp [List.getD_eq_getElem?_getD, List.getElem?_eq_getElem hn]
  · intro h' tk t' hk
    rw [List.size_toArray, preSum_take ns _ (by omega), ← lu, List.take_length]
    refine ⟨.int _, H, I.kept (fun b o e => hk b o ?_ (Heap.get?_push_of_some _ e)), ⟨_, rfl⟩, q⟩
    intro z
    simp only [List.mem_cons, List.not_mem_nil, or_false] at z
    exact absurd (Heap.lt_size e) (by rw [z]; exact Nat.lt_irrefl _)

/-! ### built-ins -/
def Bi.nm : Bi → Str
  | .int => "int" | .len => "len" | .list => "list" | .tuple => "tuple" | .sum => "sum" | .abs => "abs" | .min2 => "min" | .max2 => "max"
/-- a type, a function -/
def Bi.ty : Bi → Option String
  | .int => some "int" | .list => some "list" | .tuple => some "tuple"
  | _ => none
def Bi.id : Bi → String
  | .int => "int" | .len => "len" | .list => "list" | .tuple => "tuple" | .sum => "sum" | .abs => "abs" | .min2 => "min" | .max2 => "max"
def Bi.py (b : Bi) : Value := match b.ty with
  | some T => .type T
  | none => .builtin b.id
def cOr (r r' : List V → Hp → VK → Prop) : List V → Hp → VK → Prop := fun xs H Q => r xs H Q ∨ r' xs H Q
def rBi (K : PySem.W.Frag) : Bi → List V → Hp → VK → Prop
  | .int => fun xs H Q => (∃ i, xs = [.int i] ∧ Q (.int i) H) ∨ ∃ k, xs = [.bl k] ∧ Q (.int (if k then 1 else 0)) H
  | .len => cOr (fun xs H Q => ∃ p ys, xs = [.ref p] ∧ (SqL K H p ys ∨ SqT K H p ys) ∧ Q (.int ys.length) H)
      (fun xs H Q => ∃ z, xs = [.str z] ∧ z.length ≤ sizeLine ∧ Q (.int z.length) H)
  | .list => fun xs H Q => ∃ p ys, xs = [.ref p] ∧ (SqL K H p ys ∨ SqT K H p ys) ∧ ∀ l, H l = none → Q (.ref l) (upd H l (.lst ys))
  | .tuple => fun xs H Q => ∃ p ys, xs = [.ref p] ∧ ((SqL K H p ys ∧ ∀ l, H l = none → Q (.ref l) (upd H l (.tup ys))) ∨ (SqT K H p ys ∧ Q (.ref p) H))
  | .sum => cOr (rSum K) (rSumT K)
  | .abs => fun xs H Q => ∃ i, xs = [.int i] ∧ Q (.int (if i < 0 then -i else i)) H
  | .min2 => fun xs H Q => ∃ i j, xs = [.int i, .int j] ∧ Q (.int (if j < i then j else i)) H
  | .max2 => fun xs H Q => ∃ i j, xs = [.int i, .int j] ∧ Q (.int (if j > i then j else i)) H
theorem call_bi {X : Cx} (hc : X.calm = true) : ∀ b : Bi, CallR X b.py (rBi X.K b)
  | .int => call_int1
  | .len => CallR.or call_len_seq call_len_str
  | .list => call_list_of
  | .tuple => call_tuple_of
  | .sum => CallR.or (cr_sum hc) (cr_sumT hc)
  | .abs => call_abs
  | .min2 => call_min2 hc
  | .max2 => call_max2 hc
section
variable {w : Wd} {W : WX} {H H' H1 H2 Hb Hb' : Hp} {A C : List Addr} {σ : L2.St} {ρ : Env} {v u : V} {x y z : Vl} {d e : D} {t : T} {vs : List V} {xs : List Vl}
theorem vatL1 (h : VAtL w A C Hb vs [x] H) : ∃ v, vs = [v] ∧ VAt w A C Hb v x H := by
  cases vs with
  | nil => simp only [VAtL] at h
  | cons v vs =>
    cases vs with
    | nil =>
      simp only [VAtL] at h
      exact ⟨v, rfl, h.1⟩
    | cons _ _ => simp only [VAtL, and_false] at h
theorem vatL2 (h : VAtL w A C Hb vs [x, y] H) : ∃ v u, vs = [v, u] ∧ VAt w A C Hb v x H ∧ VAt w A C Hb u y H := by
  cases vs with
  | nil => simp only [VAtL] at h
  | cons v vs =>
    simp only [VAtL] at h
    obtain ⟨u, rfl, k⟩ := vatL1 h.2
    exact ⟨v, u, rfl, h.1, k⟩
theorem vatL0 (h : VAtL w A C Hb vs [] H) : vs = [] := by
  cases vs with
  | nil => rfl
  | cons v vs => simp only [VAtL] at h
theorem VAtL.length : ∀ {vs : List V} {xs : List Vl}, VAtL w A C Hb vs xs H → vs.length = xs.length
  | [], [], _ => rfl
  | _ :: _, [], h => by simp only [VAtL] at h
  | [], _ :: _, h => by simp only [VAtL] at h
  | v :: vs, x :: xs, h => by
    simp only [VAtL] at h
    rw [List.length_cons, List.length_cons, VAtL.length h.2]
theorem sumR_ints : ∀ {ds : List D} {vs : List V} {i : Int}, RqL w H vs ds → sumR ds = some i → ∃ ns : List Int, vs = ns.map V.int ∧ i = ns.sum
  | [], [], i, _, e => by
    simp only [sumR, Option.some.injEq] at e
    exact ⟨[], rfl, by rw [← e]; rfl⟩
  | _ :: _, [], _, h, _ => by simp only [RqL] at h
  | [], _ :: _, _, h, _ => by simp only [RqL] at h
  | d :: ds, v :: vs, i, h, e => by
    simp only [RqL] at h
    cases d with
    | int k =>
      simp only [sumR, Option.map_eq_some_iff] at e
      obtain ⟨s, e1, rfl⟩ := e
      obtain ⟨ns, rfl, rfl⟩ := sumR_ints h.2 e1
      rw [rp_i h.1]
      exact ⟨k :: ns, rfl, by rw [List.sum_cons]⟩
    | _ => simp only [sumR] at e; cases e
theorem bi_ok (al : Al Hb (A ++ C)) (eb : Ex Hb H) (hx : VAtL w A C Hb vs xs H) (b : Bi) : OpOk w A C Hb H (rBi w.K b vs) (biV b xs) := by
  have alH := al.ex eb
  unfold biV
  split
  · rename_i x
    obtain ⟨v, rfl, hv⟩ := vatL1 hx
    split
    · rename_i i h1
      cases hv.int al h1
      exact op_i fun Q q => .inl ⟨i, rfl, q⟩
    · rename_i i h1
      cases hv.bl al h1
      exact op_i fun Q q => .inr ⟨i, rfl, q⟩
    · exact op_bad
  · rename_i x
    obtain ⟨v, rfl, hv⟩ := vatL1 hx
    have hq := hv.rq al
    split
    · rename_i z h1
      cases hv.str al h1
      exact op_iff fun hz => op_i fun Q q => .inr ⟨z, rfl, hz, q⟩
    · rename_i ds h1
      rw [h1] at hq
      simp only [Rq] at hq
      obtain ⟨a, us, rfl, k1, k2⟩ := hq
      refine op_i fun Q q => .inl ⟨a, us, rfl, .inl k1, ?_⟩
      rw [k2.length]
      exact q
    · rename_i ds h1
      rw [h1] at hq
      simp only [Rq] at hq
      obtain ⟨a, us, rfl, k1, k2⟩ := hq
      refine op_i fun Q q => .inl ⟨a, us, rfl, .inr k1, ?_⟩
      rw [k2.length]
      exact q
    · exact op_bad
  · rename_i x
    obtain ⟨v, rfl, hv⟩ := vatL1 hx
    refine op_of fun ds hd => ?_
    obtain ⟨a, us, rfl, s1, r1, hk⟩ := hv.its al hd
    refine op_new eb r1 fun Q q => ⟨a, us, rfl, ?_, q⟩
    rcases hk with e | e
    · exact .inl (.of (sq_l s1 e))
    · exact .inr (sq_t s1 e)
  · rename_i x
    obtain ⟨v, rfl, hv⟩ := vatL1 hx
    split
    · rename_i ds h1
      refine op_of fun d1 hd => ?_
      obtain ⟨q1, a, us, rfl, s1, r1⟩ := hv.tupS al h1 hd
      exact fun Q q => ⟨a, us, rfl, .inr ⟨ex_t hide_sub s1, q _ H (Ex.refl H) (VAt.sh_of q1)⟩⟩
    · rename_i d1 h1
      refine op_of fun ds hd => ?_
      obtain ⟨a, us, rfl, s1, r1, hk⟩ := hv.its al hd
      exact op_tup alH r1 fun Q q => ⟨a, us, rfl, .inl ⟨.of (sq_l s1 h1), q⟩⟩
    · exact op_bad
  · rename_i x
    obtain ⟨v, rfl, hv⟩ := vatL1 hx
    have hq := hv.rq al
    split
    · rename_i ds h1
      rw [h1] at hq
      simp only [Rq] at hq
      obtain ⟨a, us, rfl, k1, k2⟩ := hq
      refine op_of fun i hi => ?_
      obtain ⟨ns, rfl, rfl⟩ := sumR_ints k2 hi
      exact op_i fun Q q => .inl ⟨a, ns, rfl, k1, q⟩
    · rename_i ds h1
      rw [h1] at hq
      simp only [Rq] at hq
      obtain ⟨a, us, rfl, k1, k2⟩ := hq
      refine op_of fun i hi => ?_
      obtain ⟨ns, rfl, rfl⟩ := sumR_ints k2 hi
      exact op_i fun Q q => .inr ⟨a, ns, rfl, k1, q⟩
    · exact op_bad
  · rename_i x
    obtain ⟨v, rfl, hv⟩ := vatL1 hx
    split
    · rename_i i h1
      cases hv.int al h1
      exact op_i fun Q q => ⟨i, rfl, q⟩
    · exact op_bad
  · rename_i x y
    obtain ⟨v, u, rfl, hv, hu⟩ := vatL2 hx
    split
    · rename_i i j h1 h2
      cases hv.int al h1
      cases hu.int al h2
      exact op_i fun Q q => ⟨i, j, rfl, q⟩
    · exact op_bad
  · rename_i x y
    obtain ⟨v, u, rfl, hv, hu⟩ := vatL2 hx
    split
    · rename_i i j h1 h2
      cases hv.int al h1
      cases hu.int al h2
      exact op_i fun Q q => ⟨i, j, rfl, q⟩
    · exact op_bad
  · exact op_bad

/-! ### isinstance -/
theorem kit_all : ∀ t c : Ty, kitB t.nm c.nm = some (isTy t c) := by
  intro t c
  cases t <;> cases c <;> decide +kernel
theorem kitAny_tys {K : PySem.W.Frag} (t : Ty) : ∀ cs : List Ty, PySem.W.kitAny K (.type t.nm) (cs.map fun c => Value.type c.nm) = some (cs.any fun c => isTy t c)
  | [] => kitAny_nil
  | c :: cs => by
    rw [List.map_cons, List.any_cons]
    refine kitAny_cons (kit_ty (kit_all t c)) (fun hb => ?_) fun hb => ?_
    · rw [kitAny_tys t cs, hb, Bool.false_or]
    · rw [hb, Bool.true_or]
theorem ty_x {t : Ty} (h : Rq w H v d) (e : d.ty = some t) : TyX w.K H v (.type t.nm) := by
  cases d with
  | non =>
    cases e
    rw [rp_n h]
    exact .base .non
  | bl b =>
    cases e
    rw [rp_b h]
    exact .base (.bl b)
  | int b =>
    cases e
    rw [rp_i h]
    exact .base (.int b)
  | str b =>
    cases e
    rw [rp_s h]
    exact .base (.str b)
  | tup ds =>
    cases e
    simp only [Rq] at h
    obtain ⟨a, vs, rfl, k1, k2⟩ := h
    rcases k1 with (k1 | ⟨o, k1⟩) | ⟨o, its, n, k1, c, _⟩
    · exact .base (.tup k1)
    · exact .fTuple k1
    · exact .kTuple k1 c
  | lst ds =>
    cases e
    simp only [Rq] at h
    obtain ⟨a, vs, rfl, k1, k2⟩ := h
    rcases k1 with (k1 | ⟨o, k1⟩) | ⟨o, its, n, k1, c, _⟩
    · exact .base (.lst k1)
    · exact .base (.frz k1)
    · exact .kList k1 c
  | dic ks ds => cases e
  | obj c ns ds => cases e
end
end Mi

set_option Elab.async false
set_option linter.all false
set_option maxRecDepth 100000
set_option maxHeartbeats 4000000
namespace Mi
open PySem PySem.Spec PyProof.Rows L2

/-! ### enumerate over a tuple, over a text -/
theorem meets_enum1 {v : Value} {o : Obj} {G : Heap → Prop} (B : Begins v o G) : Meets (Builtin.«enumerate.__new__» ⟨[.type "enumerate", v], []⟩) (fun _ R s => G s.heap ∧
    R (.ok (.ret (.ref (s.heap.push o).objs.size)))
      { s with heap := (s.heap.push o).push { cls := .type "enumerate", data := .fields #[.none, .bool false, .ref s.heap.objs.size, rawInt 0, .none, .none] } }) := by
  refine .of_wp fun prog w A R s hh => ?_
  obtain ⟨hp, g, d, tk, os⟩ := s
  obtain ⟨hG, hR⟩ := hh
  have sub := sub_enumerate
  have step : ∀ {A' : Around} {E : Value → Shared → Prop} {Q : Value → Shared → Prop}, Q (.ref hp.objs.size) ⟨hp.push o, g, d, tk, os⟩ → wpAny (model prog w) A' (pyIter v) Q E ⟨hp, g, d, tk, os⟩ :=
    fun q => B.iter _ _ _ _ ⟨hp, g, d, tk, os⟩ _ hG q
  wp_walk using step
  refine wpAny_stack_any fun _ => wpAny_pure ?_
  split
  · rename_i c _ _ _ _ _
    rcases (c == Value.type "enumerate") with _ | _ <;> (wp_walk using step; exact ⟨_, rfl, hR⟩)
  · wp_walk using step
    exact ⟨_, rfl, hR⟩
theorem call_enum1 {prog : Program} {w : World} {A : Around} {E : Value → Shared → Prop} {s : Shared} {v : Value} {o : Obj} {G : Heap → Prop} {Q : Value → Shared → Prop} (B : Begins v o G) (hG : G s.heap)
    (k : ∀ h', IsEnum h' (s.heap.objs.size + 1) s.heap.objs.size 0 .none → h'.get? s.heap.objs.size = some o → (∀ b u, s.heap.get? b = some u → h'.get? b = some u) → Q (.ref (s.heap.objs.size + 1)) { s with heap := h' }) :
    wpAny (model prog w) A (call (.type "enumerate") [v]) Q E s := by
  have sz : (s.heap.push o).objs.size = s.heap.objs.size + 1 := Heap.size_push ..
  have e1 := Heap.get?_push_size (s.heap.push o) (o := { cls := .type "enumerate", data := .fields #[.none, .bool false, .ref s.heap.objs.size, rawInt 0, .none, .none] }) rfl
  rw [sz] at e1
  refine callType_new F.called_enumerate (by decide) (F.typeCall_enumerate_1 _) (F.newCall_enumerate_1 _) (fun ob => F.args_object_init_2 ob _) F.entry_enumerate_new (meets_enum1 B) ⟨hG, ?_⟩
  show _ ∧ _
  rw [sz]
  exact ⟨⟨_, e1, rfl⟩, k _ e1 (Heap.get?_push_of_some _ (Heap.get?_push_size _ B.free)) fun b u q => Heap.get?_push_of_some _ (Heap.get?_push_of_some _ q)⟩

theorem not_tup {a : String} {P : Prop} (h : ¬ "tuple" = a) (e : Value.type "tuple" = .type a) : P := by
  injection e with e
  exact absurd e h
/-- one turn of an enumeration -/
theorem enum_turn {X : Cx} {pins : List (Addr × Obj)} {s : Shared} {σ : L2.St} {H : Hp} {E : Value → Shared → Prop} {e it : Addr} {fp : List Addr} {n i : Nat} {Pv : Nat → Value → Prop} {St : Nat → Heap → Prop} {old : Value} {elts : List Expr} {kk : Nat} {tpos : Pos}
    {Y : V → Hp → Prop} {tn : Heap → Prop} (I : Inv X pins σ H s) (D : Draws X.prog X.w X.A.in1 it fp n Pv St) (he : IsEnum s.heap e it i old) (hs : St i s.heap) (hi : i < n) (ne : e ≠ it) (hef : e ∉ fp) (fo : ∀ b ∈ [e, it], FpOk X pins H b)
    (yv : ∀ u, Pv i u → ∃ x, L2.RelV x u ∧ ∀ T, H T = none → Y (.ref T) (upd H T (.tup [.int (i : Nat), x])))
    (tv : ∀ h' u, IsEnum h' e it ((i : Int) + 1) u → (∃ h0, St (i + 1) h0 ∧ ∀ b o, b ≠ e → h0.get? b = some o → h'.get? b = some o) → tn h') :
    wpAny (model X.prog X.w) X.A (pyNext (.ref e)) (fun r s1 => ∃ u, r = some u ∧
      wpAny (model X.prog X.w) X.A (letOwnedTupleGo (.Tuple elts kk tpos) (.ref e) u) (fun _ s2 => ∃ x H', Inv X pins σ H' s2 ∧ L2.RelV x u ∧ Y x H' ∧ tn s2.heap ∧ ∀ b ∈ [e, it], H' b = none) E s1) E s := by
  have hel : e < s.heap.objs.size := Heap.lt_size he
  have hil : it < s.heap.objs.size := by
    obtain ⟨_, q⟩ := D.live _ _ hs
    exact Heap.lt_size q
  refine wpAny_pyNext_enum_itemD D he hs hi ne hef fun u h1 tk hu ho hs1 hT hz hk => ?_
  refine ⟨_, rfl, wpAny_letOwnedTupleGo_enum (s := { s with heap := h1, toks := tk + 1 }) ho fun h2 he2 sb => ?_⟩
  obtain ⟨x, rx, yx⟩ := yv u hu
  have hT2 : h2.get? s.heap.objs.size = some { cls := .type "tuple", data := .seq #[.int i tk, u] } := (sb.2 _ (Nat.ne_of_gt hel)).trans hT
  have nw : ObjOk X.prog X.w (upd H s.heap.objs.size (.tup [.int (i : Nat), x])) h2 s.heap.objs.size (.tup [.int (i : Nat), x]) :=
    ⟨by show 2 ≤ sizeLine; decide, [.int i tk, u], .cons ⟨_, rfl⟩ (.cons rx .nil), ⟨_, hT2, rfl, _, rfl⟩⟩
  have keep : ∀ b ob, b ∉ [e, it] → s.heap.get? b = some ob → h2.get? b = some ob := fun b ob hb q => by
    simp only [List.mem_cons, List.not_mem_nil, or_false, not_or] at hb
    exact (sb.2 b hb.1).trans (hk b ob hb.1 hb.2 q)
  have I1 : Inv X pins σ (upd H s.heap.objs.size (.tup [.int (i : Nat), x])) { s with heap := h2, toks := tk + 1 } := I.turnedNew (ch := [e, it]) keep fo (Nat.le_refl _) nw
  refine ⟨.ref s.heap.objs.size, _, I1, rfl, yx _ (I.hok.fresh (Nat.le_refl _)), tv _ _ he2 ⟨h1, hs1, fun b o hb q => (sb.2 b hb).trans q⟩, fun b hb => ?_⟩
  have hlt : b < s.heap.objs.size := by
    simp only [List.mem_cons, List.not_mem_nil, or_false] at hb
    rcases hb with q | q <;> (rw [q]; assumption)
  rw [upd_ne (Nat.ne_of_lt hlt)]
  exact (fo b hb).1
theorem draws_str {prog : Program} {w : World} {A : Around} (hh : A.handled = none) (it : Addr) (x : Str) (t : Tok) :
    Draws prog w A.in1 it [it] x.cps.size (fun i v => ∃ c u, x.cps[i]? = some c ∧ v = .str ⟨#[c]⟩ u) (fun i h => h.IsStrIter it (strIterType x) x t i) := by
  unfold strIterType
  split
  · exact Draws.strAscii (A := A.in1) hh it x t
  · exact Draws.strWide (A := A.in1) hh it x t
/-- a tuple's items with their places -/
def IteT (K : PySem.W.Frag) (a : Addr) : It :=
  ⟨fun i H => ∃ (xs : List V) (x : V), SqT K H a xs ∧ xs[i]? = some x, fun i H v H' => ∃ T x, v = .ref T ∧ H T = none ∧ H' = upd H T (.tup [.int (i : Nat), x]) ∧ ∀ xs, SqT K H a xs → xs[i]? = some x, fun i H => ∃ xs : List V, SqT K H a xs ∧ xs.length = i⟩
/-- a text's signs with their places -/
def IteS (z : Str) : It :=
  ⟨fun i _ => i < z.cps.size, fun i H v H' => ∃ T c, v = .ref T ∧ H T = none ∧ z.cps[i]? = some c ∧ H' = upd H T (.tup [.int (i : Nat), .str ⟨#[c]⟩]), fun i _ => z.cps.size = i⟩
theorem turn_enumT {P : Program} {w : World} {K : PySem.W.Frag} {elts : List Expr} {kk : Nat} {tpos : Pos} (a e it : Addr) :
    Turn P w K (.Tuple elts kk tpos) (IteT K a) [e, it] e (fun i h => (∃ old, IsEnum h e it ((i : Nat) : Int) old) ∧ h.IsTupleIter it a i ∧ e ≠ it) where
  mem := by simp
  obj := fun i h st b hb => by
    obtain ⟨⟨old, he⟩, ⟨o, ho, _, hd⟩, _⟩ := st
    simp only [List.mem_cons, List.not_mem_nil, or_false] at hb
    rcases hb with z | z
    · rw [z]
      exact ⟨_, he, fun v q => nomatch q⟩
    · rw [z]
      refine ⟨o, ho, fun v q => ?_⟩
      rw [hd] at q
      cases q
  keep := fun i h h' st k => by
    obtain ⟨⟨old, he⟩, hi, ne⟩ := st
    exact ⟨⟨old, k e (by simp) _ he⟩, hi.at fun o q => k it (by simp) o q, ne⟩
  item := by
    intro X hP hw hK hc i pins s σ H E I hf st hg
    subst hP hw hK
    obtain ⟨⟨old, he⟩, hit, ne⟩ := st
    obtain ⟨xs, x, hq, hx⟩ := hg
    obtain ⟨its, rv, tp, _⟩ := I.tuple hq
    have nea : a ≠ it := fun z => by
      have q := (hf it (by simp)).1
      rcases hq with (q1 | ⟨_, q1⟩) | ⟨o, _, _, q1, q2, _⟩
      · rw [z, q] at q1
        cases q1
      · rw [z, q] at q1
        cases q1
      · obtain ⟨o1, e1, e2, _⟩ := hit
        rw [← z, I.kIn _ _ q1] at e1
        cases e1
        rw [q2] at e2
        exact not_tup (by decide) e2
    have nee : e ∉ [it, a] := fun z => by
      simp only [List.mem_cons, List.not_mem_nil, or_false] at z
      rcases z with z | z
      · exact ne z
      · have q := (hf e (by simp)).1
        rcases hq with (q1 | ⟨_, q1⟩) | ⟨o, _, _, q1, q2, _⟩
        · rw [← z, q] at q1
          cases q1
        · rw [← z, q] at q1
          cases q1
        · have e1 := I.kIn _ _ q1
          rw [← z] at e1
          unfold IsEnum at he
          rw [e1] at he
          have q3 := Option.some.inj he
          rw [q3] at q2
          exact not_tup (by decide) q2.symm
    have hi : i < its.toArray.size := by
      rw [List.size_toArray, ← rv.length]
      exact (List.getElem?_eq_some_iff.mp hx).1
    refine enum_turn (Y := (IteT X.K a).yld i H) (tn := fun h => (∃ old, IsEnum h e it (((i + 1 : Nat)) : Int) old) ∧ h.IsTupleIter it a (i + 1) ∧ e ≠ it) I (Draws.tuple (A := X.A.in1) (I.ok.hd hc) it a nea its.toArray) he ⟨hit, tp⟩ hi ne nee hf (fun u hu => ?_) fun h' u h1 h2 => ?_
    · obtain ⟨u2, e1, e2⟩ := rv.get hx
      rw [List.getElem?_toArray, e1] at hu
      cases hu
      exact ⟨x, e2, fun T hT => ⟨T, x, rfl, hT, rfl, fun ys hy => by rw [I.tuple_inj hy hq]; exact hx⟩⟩
    · obtain ⟨h0, ⟨k1, _⟩, k2⟩ := h2
      refine ⟨⟨u, ?_⟩, k1.at fun o q => k2 it _ (Ne.symm ne) q, ne⟩
      have e1 : ((i + 1 : Nat) : Int) = (i : Int) + 1 := by omega
      rw [e1]
      exact h1
  done := by
    intro X hP hw hK hc i pins s σ H E I hf st hg
    subst hP hw hK
    obtain ⟨⟨old, he⟩, hit, ne⟩ := st
    obtain ⟨xs, hq, hx⟩ := hg
    obtain ⟨its, rv, tp, _⟩ := I.tuple hq
    have nea : a ≠ it := fun z => by
      have q := (hf it (by simp)).1
      rcases hq with (q1 | ⟨_, q1⟩) | ⟨o, _, _, q1, q2, _⟩
      · rw [z, q] at q1
        cases q1
      · rw [z, q] at q1
        cases q1
      · obtain ⟨o1, e1, e2, _⟩ := hit
        rw [← z, I.kIn _ _ q1] at e1
        cases e1
        rw [q2] at e2
        exact not_tup (by decide) e2
    have hn : i = its.toArray.size := by
      rw [List.size_toArray, ← rv.length]
      exact hx.symm
    subst hn
    obtain ⟨f0, f1, f2, f3, f4, f5⟩ := hf it (by simp)
    exact wpAny_pyNext_enum_endD (Draws.tuple (A := X.A.in1) (I.ok.hd hc) it a nea its.toArray) he ⟨hit, tp⟩ fun h' eb => ⟨rfl, I.turned (t' := s.toks) (fun b o hb q => eb b o hb q) f0 f1 f3 f4 f5⟩
  self := fun A i s Q E st h => by
    obtain ⟨⟨_, he⟩, _⟩ := st
    exact wpAny_pyIter_enum he h
theorem turn_enumS {P : Program} {w : World} {K : PySem.W.Frag} {elts : List Expr} {kk : Nat} {tpos : Pos} (z : Str) (t : Tok) (e it : Addr) :
    Turn P w K (.Tuple elts kk tpos) (IteS z) [e, it] e (fun i h => (∃ old, IsEnum h e it ((i : Nat) : Int) old) ∧ h.IsStrIter it (strIterType z) z t i ∧ e ≠ it) where
  mem := by simp
  obj := fun i h st b hb => by
    obtain ⟨⟨old, he⟩, ⟨o, ho, _, hd⟩, _⟩ := st
    simp only [List.mem_cons, List.not_mem_nil, or_false] at hb
    rcases hb with z | z
    · rw [z]
      exact ⟨_, he, fun v q => nomatch q⟩
    · rw [z]
      refine ⟨o, ho, fun v q => ?_⟩
      rw [hd] at q
      cases q
  keep := fun i h h' st k => by
    obtain ⟨⟨old, he⟩, ⟨o, ho, r⟩, ne⟩ := st
    exact ⟨⟨old, k e (by simp) _ he⟩, ⟨o, k it (by simp) o ho, r⟩, ne⟩
  item := by
    intro X hP hw hK hc i pins s σ H E I hf st hg
    subst hP hw hK
    obtain ⟨⟨old, he⟩, hit, ne⟩ := st
    refine enum_turn (Y := (IteS z).yld i H) (tn := fun h => (∃ old, IsEnum h e it (((i + 1 : Nat)) : Int) old) ∧ h.IsStrIter it (strIterType z) z t (i + 1) ∧ e ≠ it) I (draws_str (I.ok.hd hc) it z t) he hit hg ne (by simpa using ne) hf (fun u hu => ?_) fun h' u h1 h2 => ?_
    · obtain ⟨c, u2, e1, rfl⟩ := hu
      exact ⟨.str ⟨#[c]⟩, ⟨_, rfl⟩, fun T hT => ⟨T, c, rfl, hT, e1, rfl⟩⟩
    · obtain ⟨h0, ⟨o, k1, r⟩, k2⟩ := h2
      refine ⟨⟨u, ?_⟩, ⟨o, k2 it _ (Ne.symm ne) k1, r⟩, ne⟩
      have e1 : ((i + 1 : Nat) : Int) = (i : Int) + 1 := by omega
      rw [e1]
      exact h1
  done := by
    intro X hP hw hK hc i pins s σ H E I hf st hg
    subst hP hw hK
    obtain ⟨⟨old, he⟩, hit, ne⟩ := st
    have hn : z.cps.size = i := hg
    subst hn
    obtain ⟨f0, f1, f2, f3, f4, f5⟩ := hf it (by simp)
    exact wpAny_pyNext_enum_endD (draws_str (I.ok.hd hc) it z t) he hit fun h' eb => ⟨rfl, I.turned (t' := s.toks) (fun b o hb q => eb b o hb q) f0 f1 f3 f4 f5⟩
  self := fun A i s Q E st h => by
    obtain ⟨⟨_, he⟩, _⟩ := st
    exact wpAny_pyIter_enum he h
/-- enumerate of a list, a tuple, a text -/
def iEnumX (K : PySem.W.Frag) (te : TE) : TI := fun σ H R => te σ H fun v H1 => (∃ a xs, v = .ref a ∧ SqT K H1 a xs ∧ R (IteT K a) H1) ∨ (∃ z, v = .str z ∧ R (IteS z) H1)
theorem pi_enumX {X : Cx} {e : Expr} {te : TE} {p pos tpos : Pos} {elts : List Expr} {kk : Nat} (hg : Gl X "enumerate") (hm : X.mg "enumerate" = none) (he : PE X e te) (hs : starEach [e] X.env = [(false, eval e X.env)]) :
    PI X (.Tuple elts kk tpos) (.Call (.Name "enumerate" p) [e] [] pos) (iEnumX X.K te) := by
  refine ⟨fun pins s σ H R I h => ?_⟩
  have ha : PA X [e] (tCons te tNil) := pa_cons he pa_nil hs
  refine Call_ (ld_blt I hg hm boot_enumerate (PyProof.Rows.callWith_type1 (thn (ha.run pos pins s σ H (fun vs H1 => match vs with
    | [v] => (∃ a xs, v = V.ref a ∧ SqT X.K H1 a xs ∧ R (IteT X.K a) H1) ∨ (∃ z, v = V.str z ∧ R (IteS z) H1)
    | _ => False) I h) fun us s1 hh => ?_) hs rfl))
  · obtain ⟨vs, H1, I1, r1, hv⟩ := hh
    match vs, r1, hv with
    | [v], .cons r .nil, hv =>
      have fp : ∀ b ∈ [s1.heap.objs.size + 1, s1.heap.objs.size], FpOk X pins H1 b := fun b hb => by
        have hle : s1.heap.objs.size ≤ b := by
          simp only [List.mem_cons, List.not_mem_nil, or_false] at hb
          rcases hb with q | q <;> (rw [q]; omega)
        exact I1.fpOk hle (I1.hok.fresh hle)
      rcases hv with ⟨a, xs, rfl, hq, q⟩ | ⟨z, rfl, q⟩
      · cases r
        obtain ⟨its, rv, tp, _⟩ := I1.tuple hq
        refine call_enum1 (begins_tuple a its.toArray) tp fun h' h1 h2 hk => wpAny_pyIter_enum h1 ?_
        exact ⟨s1.heap.objs.size + 1, [s1.heap.objs.size + 1, s1.heap.objs.size], _, _, H1, rfl, I1.kept (t' := s1.toks) hk, turn_enumT a (s1.heap.objs.size + 1) s1.heap.objs.size, ⟨⟨.none, h1⟩, ⟨_, h2, rfl, rfl⟩, Nat.succ_ne_self _⟩, fp, q⟩
      · obtain ⟨t, rfl⟩ := r
        refine call_enum1 (begins_text z t) trivial fun h' h1 h2 hk => wpAny_pyIter_enum h1 ?_
        exact ⟨s1.heap.objs.size + 1, [s1.heap.objs.size + 1, s1.heap.objs.size], _, _, H1, rfl, I1.kept (t' := s1.toks) hk, turn_enumS z t (s1.heap.objs.size + 1) s1.heap.objs.size, ⟨⟨.none, h1⟩, ⟨_, h2, rfl, rfl⟩, Nat.succ_ne_self _⟩, fp, q⟩
end Mi

set_option Elab.async false
set_option linter.all false
set_option maxRecDepth 100000
set_option maxHeartbeats 4000000
namespace Mi
open PySem PySem.Spec PyProof.Rows L2

/-! ### the weakest readings -/
def tW (X : Cx) (e : Expr) : TE := fun σ H Q => ∀ pins s, Inv X pins σ H s → wpAny (model X.prog X.w) X.A (eval e X.env) (EP X pins σ Q) X.xe s
def tWT (X : Cx) (e : Expr) : TT := fun σ H Q => ∀ pins s, Inv X pins σ H s → wpAny (model X.prog X.w) X.A (isTrue e X.env (eval e X.env)) (TP X pins σ Q) X.xe s
def tWA (X : Cx) : List Expr → TA
  | [] => tNil
  | e :: es => tCons (tW X e) (tWA X es)
def noStar : Expr → Bool
  | .Starred _ _ => false
  | _ => true
section
variable {X : Cx} {e : Expr} {es : List Expr} {t : TE}
theorem pe_W : PE X e (tW X e) := ⟨fun pins s σ H Q I h => h pins s I⟩
theorem pt_W : PT X e (tWT X e) := ⟨fun pins s σ H Q I h => h pins s I⟩
theorem W_of (h : PE X e t) {σ : L2.St} {H : Hp} {Q : VK} (q : t σ H Q) : tW X e σ H Q := fun pins s I => h.run pins s σ H Q I q
theorem WT_of {t : TT} (h : PT X e t) {σ : L2.St} {H : Hp} {Q : Bool → Hp → Prop} (q : t σ H Q) : tWT X e σ H Q := fun pins s I => h.run pins s σ H Q I q
theorem star_cons {env : PySem.Env} (h : noStar e = true) : starEach (e :: es) env = (false, eval e env) :: starEach es env := by
  cases e <;> first | rfl | (simp only [noStar] at h; cases h)
theorem star_any {env : PySem.Env} {pos : Pos} : ∀ {es : List Expr}, es.all noStar = true → (backTo pos (starEach es env)).any (·.1) = false
  | [], _ => rfl
  | e :: es, h => by
    simp only [List.all_cons, Bool.and_eq_true] at h
    rw [star_cons h.1]
    have := star_any (env := env) (pos := pos) h.2
    simpa [backTo] using this
theorem pa_W : ∀ {es : List Expr}, es.all noStar = true → PA X es (tWA X es)
  | [], _ => pa_nil
  | e :: es, h => by
    simp only [List.all_cons, Bool.and_eq_true] at h
    exact pa_cons pe_W (pa_W h.2) (star_cons h.1)
end

/-! ### what a walk gives -/
def JOk (w : Wd) (C : List Addr) (P : Hp → List Addr → Prop) (J : It) (ts : List T) : Prop := ∀ H A, P H A →
  (∀ (i : Nat) t, ts[i]? = some t → J.go i H ∧ ∀ x H', J.yld i H x H' → Ex H H' ∧ BwAt w H' A C x t) ∧ J.stop ts.length H
section
variable {w : Wd} {C : List Addr} {P : Hp → List Addr → Prop} {a : Addr} {vs : List V} {ts us : List T} {H : Hp} {A : List Addr} {x : V} {t : T} {d : D}
theorem jok_list (h : ∀ H A, P H A → ∃ vs, SqL w.K H a vs ∧ BwAtL w H A C vs ts) : JOk w C P (Itl w.K a) ts := fun H A p => by
  obtain ⟨vs, k1, k2⟩ := h H A p
  refine ⟨fun i t e => ?_, vs, k1, by rw [k2.length]; exact Nat.le_refl _⟩
  obtain ⟨v, e1, e2⟩ := k2.get e
  refine ⟨⟨vs, v, k1, e1⟩, fun x H' y => ?_⟩
  obtain ⟨rfl, y⟩ := y
  have q := y vs k1
  rw [e1] at q
  cases q
  exact ⟨Ex.refl _, e2⟩
theorem jok_tup (h : ∀ H A, P H A → ∃ vs, SqT w.K H a vs ∧ BwAtL w H A C vs ts) : JOk w C P (Itt w.K a) ts := fun H A p => by
  obtain ⟨vs, k1, k2⟩ := h H A p
  refine ⟨fun i t e => ?_, vs, k1, by rw [k2.length]; exact Nat.le_refl _⟩
  obtain ⟨v, e1, e2⟩ := k2.get e
  refine ⟨⟨vs, v, k1, e1⟩, fun x H' y => ?_⟩
  obtain ⟨rfl, y⟩ := y
  have q := y vs k1
  rw [e1] at q
  cases q
  exact ⟨Ex.refl _, e2⟩
theorem jok_rng {lo : Int} {n : Nat} : JOk w C P (Itr lo n) ((List.range n).map fun i => T.sh (.int (lo + (i : Nat)))) := fun H A p => by
  refine ⟨fun i t e => ?_, by rw [List.length_map, List.length_range]; exact Nat.le_refl _⟩
  obtain ⟨j, e1, rfl⟩ := List.getElem?_map .. ▸ e |> Option.map_eq_some_iff.mp
  have hi : i < n := by
    have := (List.getElem?_eq_some_iff.mp e1).1
    rwa [List.length_range] at this
  rw [List.getElem?_range hi] at e1
  cases e1
  refine ⟨hi, fun x H' y => ?_⟩
  obtain ⟨rfl, rfl⟩ := y
  exact ⟨Ex.refl _, BwAt.sh_of (by simp only [Rp])⟩
theorem jok_txt {z : Str} : JOk w C P (Its z) (z.cps.toList.map fun c => T.sh (.str ⟨#[c]⟩)) := fun H A p => by
  refine ⟨fun i t e => ?_, by rw [List.length_map, Array.length_toList]; exact Nat.le_refl _⟩
  obtain ⟨c, e1, rfl⟩ := List.getElem?_map .. ▸ e |> Option.map_eq_some_iff.mp
  rw [Array.getElem?_toList] at e1
  have hi : i < z.cps.size := (Array.getElem?_eq_some_iff.mp e1).1
  refine ⟨hi, fun x H' y => ?_⟩
  obtain ⟨rfl, c', e2, rfl⟩ := y
  rw [e1] at e2
  cases e2
  exact ⟨Ex.refl _, BwAt.sh_of (by simp only [Rp])⟩
theorem enumT_get : ∀ {n : Nat} {ts us : List T}, enumT n ts = some us → us.length = ts.length ∧ ∀ (i : Nat) u, us[i]? = some u → ∃ t, ts[i]? = some t ∧
    ((∃ d, t = .sh d ∧ u = .sh (.tup [.int ((n + i : Nat) : Int), d])) ∨ (∃ d, t = .ro d ∧ u = if d.scal then T.sh (.tup [.int ((n + i : Nat) : Int), d]) else T.ro (.tup [.int ((n + i : Nat) : Int), d])))
  | n, [], us, h => by
    simp only [enumT, Option.some.injEq] at h
    subst h
    exact ⟨rfl, fun i u e => by simp at e⟩
  | n, .sh d :: ts, us, h => by
    simp only [enumT, Option.map_eq_some_iff] at h
    obtain ⟨vs, h1, rfl⟩ := h
    obtain ⟨k1, k2⟩ := enumT_get h1
    refine ⟨by simp [k1], fun i u e => ?_⟩
    cases i with
    | zero =>
      simp only [List.getElem?_cons_zero, Option.some.injEq] at e
      exact ⟨_, rfl, .inl ⟨d, rfl, e.symm⟩⟩
    | succ i =>
      simp only [List.getElem?_cons_succ] at e ⊢
      have := k2 i u e
      rw [show n + 1 + i = n + (i + 1) by omega] at this
      exact this
  | n, .ro d :: ts, us, h => by
    simp only [enumT, Option.map_eq_some_iff] at h
    obtain ⟨vs, h1, rfl⟩ := h
    obtain ⟨k1, k2⟩ := enumT_get h1
    refine ⟨by simp [k1], fun i u e => ?_⟩
    cases i with
    | zero =>
      simp only [List.getElem?_cons_zero, Option.some.injEq] at e
      exact ⟨_, rfl, .inr ⟨d, rfl, e.symm⟩⟩
    | succ i =>
      simp only [List.getElem?_cons_succ] at e ⊢
      have := k2 i u e
      rw [show n + 1 + i = n + (i + 1) by omega] at this
      exact this
  | n, .lst _ :: _, us, h => by simp only [enumT] at h; cases h
  | n, .scr _ :: _, us, h => by simp only [enumT] at h; cases h
/-- the pair of a place and an item -/
theorem enum_item {i : Nat} {T0 : Addr} {u : T} (al : Al H (A ++ C)) (hT : H T0 = none) (h : BwAt w H A C x t)
    (hu : (∃ d, t = .sh d ∧ u = .sh (.tup [.int (i : Nat), d])) ∨ (∃ d, t = .ro d ∧ u = if d.scal then T.sh (.tup [.int (i : Nat), d]) else T.ro (.tup [.int (i : Nat), d]))) :
    Ex H (upd H T0 (.tup [.int (i : Nat), x])) ∧ BwAt w (upd H T0 (.tup [.int (i : Nat), x])) A C (.ref T0) u := by
  refine ⟨Ex.new hT, ?_⟩
  have pr : ∀ {O : List Addr} {d : D}, T0 ∉ O → Rp w (hide H O) x d → Rp w (hide (upd H T0 (.tup [.int (i : Nat), x])) O) (.ref T0) (.tup [.int (i : Nat), d]) := fun {O d} n h1 => by
    simp only [Rp]
    refine ⟨T0, _, rfl, .of (hide_at upd_same n), ?_⟩
    simp only [RpL, Rp, true_and, and_true]
    exact h1.ex (hide_ex (Ex.new hT))
  rcases hu with ⟨d, rfl, rfl⟩ | ⟨d, rfl, rfl⟩
  · simp only [BwAt] at h ⊢
    exact pr (al.not hT) h
  · simp only [BwAt] at h
    split
    · rename_i sc
      simp only [BwAt]
      exact pr (al.not hT) (h.scal sc)
    · simp only [BwAt]
      exact pr (fun z => al.not hT (List.mem_append_left _ z)) h
theorem jok_enumL (hu : enumT 0 ts = some us) (h : ∀ H A, P H A → ∃ vs, SqL w.K H a vs ∧ BwAtL w H A C vs ts ∧ Al H (A ++ C)) : JOk w C P (Ite w.K a) us := fun H A p => by
  obtain ⟨vs, k1, k2, k3⟩ := h H A p
  obtain ⟨e1, e2⟩ := enumT_get hu
  refine ⟨fun i t e => ?_, vs, k1, by rw [k2.length, e1]; exact Nat.le_refl _⟩
  obtain ⟨t0, e3, e4⟩ := e2 i t e
  rw [Nat.zero_add] at e4
  obtain ⟨v, e5, e6⟩ := k2.get e3
  refine ⟨⟨vs, v, k1, e5⟩, fun x H' y => ?_⟩
  obtain ⟨T0, x0, rfl, hT, rfl, y⟩ := y
  have q := y vs k1
  rw [e5] at q
  cases q
  exact enum_item k3 hT e6 e4
theorem jok_enumT (hu : enumT 0 ts = some us) (h : ∀ H A, P H A → ∃ vs, SqT w.K H a vs ∧ BwAtL w H A C vs ts ∧ Al H (A ++ C)) : JOk w C P (IteT w.K a) us := fun H A p => by
  obtain ⟨vs, k1, k2, k3⟩ := h H A p
  obtain ⟨e1, e2⟩ := enumT_get hu
  refine ⟨fun i t e => ?_, vs, k1, by rw [k2.length, e1]⟩
  obtain ⟨t0, e3, e4⟩ := e2 i t e
  rw [Nat.zero_add] at e4
  obtain ⟨v, e5, e6⟩ := k2.get e3
  refine ⟨⟨vs, v, k1, e5⟩, fun x H' y => ?_⟩
  obtain ⟨T0, x0, rfl, hT, rfl, y⟩ := y
  have q := y vs k1
  rw [e5] at q
  cases q
  exact enum_item k3 hT e6 e4
theorem jok_enumS {z : Str} (hu : enumT 0 (z.cps.toList.map fun c => T.sh (.str ⟨#[c]⟩)) = some us) (h : ∀ H A, P H A → Al H (A ++ C)) : JOk w C P (IteS z) us := fun H A p => by
  have k3 := h H A p
  obtain ⟨e1, e2⟩ := enumT_get hu
  refine ⟨fun i t e => ?_, by rw [e1, List.length_map, Array.length_toList]; exact rfl⟩
  obtain ⟨t0, e3, e4⟩ := e2 i t e
  rw [Nat.zero_add] at e4
  obtain ⟨c, e5, rfl⟩ := List.getElem?_map .. ▸ e3 |> Option.map_eq_some_iff.mp
  rw [Array.getElem?_toList] at e5
  refine ⟨(Array.getElem?_eq_some_iff.mp e5).1, fun x H' y => ?_⟩
  obtain ⟨T0, c', rfl, hT, e6, rfl⟩ := y
  rw [e5] at e6
  cases e6
  exact enum_item k3 hT (BwAt.sh_of (by simp only [Rp])) e4
end

/-! ### targets -/
def allNames : List Expr → Bool
  | [] => true
  | .Name _ _ :: es => allNames es
  | _ :: _ => false
theorem each_names {env : PySem.Env} : ∀ {es : List Expr}, allNames es = true → (assignEach es env).length = es.length ∧ (assignEach es env).findIdx? (·.1) = none
  | [], _ => ⟨rfl, rfl⟩
  | e :: es, h => by
    cases e <;> simp only [allNames] at h <;> first | cases h | skip
    obtain ⟨k1, k2⟩ := each_names (env := env) h
    refine ⟨?_, ?_⟩
    · show ((false, _) :: assignEach es env).length = _
      rw [List.length_cons, List.length_cons, k1]
    · show ((false, _) :: assignEach es env).findIdx? (·.1) = none
      rw [List.findIdx?_cons, k2]
      rfl
/-- the names of a target, with their slots -/
def tgNames (N : List Str) : List Nat → List Expr → Bool
  | [], [] => true
  | i :: is, .Name x _ :: es => decide (N[i]? = some x) && tgNames N is es
  | _, _ => false
theorem tgNames_all {N : List Str} : ∀ {is : List Nat} {es : List Expr}, tgNames N is es = true → allNames es = true
  | [], [], _ => rfl
  | i :: is, e :: es, h => by
    cases e <;> simp only [tgNames] at h <;> first | cases h | skip
    simp only [Bool.and_eq_true] at h
    show allNames es = true
    exact tgNames_all h.2
  | [], _ :: _, h => by simp only [tgNames] at h; cases h
  | _ :: _, [], h => by simp only [tgNames] at h; cases h
def gNs : List Nat → TGs
  | [] => gNil
  | i :: is => gCons (gName i) (gNs is)
/-- a name that may be stored -/
def StoreOk (X : Cx) (x : Str) : Prop := Loc X.env.scope x ∧ (X.fn x = true ∨ X.env.scope.names.lookup x = some .local)
theorem pgs_names {X : Cx} (nd : X.N.Nodup) : ∀ {is : List Nat} {es : List Expr}, tgNames X.N is es = true → (∀ (i : Nat) x, i ∈ is → X.N[i]? = some x → StoreOk X x) → PGs X es (gNs is)
  | [], [], _, _ => pgs_nil
  | i :: is, e :: es, h, k => by
    cases e <;> simp only [tgNames] at h <;> first | cases h | skip
    rename_i x pos
    simp only [Bool.and_eq_true, decide_eq_true_eq] at h
    have s := k i x List.mem_cons_self h.1
    refine pgs_cons (pg_name nd h.1 s.1 s.2) (pgs_names nd h.2 fun j y hj => k j y (List.mem_cons_of_mem _ hj)) ?_
    rfl
  | [], _ :: _, h, _ => by simp only [tgNames] at h; cases h
  | _ :: _, [], h, _ => by simp only [tgNames] at h; cases h
/-- the reading of a target -/
def gT (K : PySem.W.Frag) : Tg → TG
  | .nm i => gName i
  | .tp is => fun v σ H Q => gTup K is.length (gNs is) v σ H Q ∨ gLst K is.length (gNs is) v σ H Q
def okTg (N : List Str) : Tg → Expr → Bool
  | .nm i, .Name x _ => decide (N[i]? = some x)
  | .tp is, .Tuple es _ _ => tgNames N is es
  | _, _ => false
theorem tgNames_len {N : List Str} : ∀ {is : List Nat} {es : List Expr}, tgNames N is es = true → es.length = is.length
  | [], [], _ => rfl
  | i :: is, e :: es, h => by
    cases e <;> simp only [tgNames] at h <;> first | cases h | skip
    simp only [Bool.and_eq_true] at h
    rw [List.length_cons, List.length_cons, tgNames_len h.2]
  | [], _ :: _, h => by simp only [tgNames] at h; cases h
  | _ :: _, [], h => by simp only [tgNames] at h; cases h
theorem pg_T {X : Cx} {g : Tg} {e : Expr} (nd : X.N.Nodup) (hc : X.calm = true) (h : okTg X.N g e = true) (k : ∀ (i : Nat) x, i ∈ g.slots → X.N[i]? = some x → StoreOk X x) : PG X e (gT X.K g) := by
  cases g with
  | nm i =>
    cases e <;> simp only [okTg] at h <;> first | cases h | skip
    simp only [decide_eq_true_eq] at h
    have s := k i _ (by simp [Tg.slots]) h
    exact pg_name nd h s.1 s.2
  | tp is =>
    cases e <;> simp only [okTg] at h <;> first | cases h | skip
    rename_i es kk pos
    have p := pgs_names nd h k
    obtain ⟨k1, k2⟩ := each_names (env := X.env) (tgNames_all h)
    rw [tgNames_len h] at k1
    exact ⟨fun pins s σ H v u Q I r hw => hw.elim ((pg_tup hc p k1 k2).run pins s σ H v u Q I r) ((pg_lst hc p k1 k2).run pins s σ H v u Q I r)⟩
section
variable {w : Wd} {H H' : Hp} {A C : List Addr} {σ : L2.St} {ρ ρ' : Env} {v : V} {t : T}
theorem EnvOk.set {i : Nat} (h : EnvOk w H A C σ ρ) (hv : BwAt w H A C v t) : EnvOk w H A C (σ.set i (some v)) (ρ.set i (some t)) := by
  refine ⟨by rw [List.length_set, List.length_set]; exact h.len, fun j u e => ?_⟩
  by_cases hj : i = j
  · subst hj
    have hi : i < ρ.length := by
      have := (List.getElem?_eq_some_iff.mp e).1
      rwa [List.length_set] at this
    rw [List.getElem?_set_self hi] at e
    cases e
    exact ⟨v, List.getElem?_set_self (by rw [h.len]; exact hi), hv⟩
  · rw [List.getElem?_set_ne hj] at e
    rw [List.getElem?_set_ne hj]
    exact h.get j u e
theorem EnvOk.wipe1 {i : Nat} (h : EnvOk w H A C σ ρ) : EnvOk w H A C (σ.set i none) (ρ.set i none) := by
  refine ⟨by rw [List.length_set, List.length_set]; exact h.len, fun j u e => ?_⟩
  by_cases hj : i = j
  · subst hj
    have hi : i < ρ.length := by
      have := (List.getElem?_eq_some_iff.mp e).1
      rwa [List.length_set] at this
    rw [List.getElem?_set_self hi] at e
    cases e
  · rw [List.getElem?_set_ne hj] at e
    rw [List.getElem?_set_ne hj]
    exact h.get j u e
theorem EnvOk.wipe (h : EnvOk w H A C σ ρ) : ∀ vs : List Nat, EnvOk w H A C (L2.wipe σ vs) (wipeE ρ vs)
  | [] => h
  | v :: vs => (EnvOk.wipe h vs).wipe1
theorem wipe_same {i : Nat} {x : Option V} : ∀ us : List Nat, L2.wipe (σ.set i x) us = (if i ∈ us then L2.wipe σ us else (L2.wipe σ us).set i x)
  | [] => by simp [L2.wipe]
  | u :: us => by
    have ih := wipe_same (i := i) (x := x) us
    show (L2.wipe (σ.set i x) us).set u none = if i ∈ u :: us then (L2.wipe σ us).set u none else ((L2.wipe σ us).set u none).set i x
    rw [ih]
    by_cases h : i ∈ us
    · rw [if_pos h, if_pos (List.mem_cons_of_mem _ h)]
    · rw [if_neg h]
      by_cases e : i = u
      · subst e
        rw [if_pos List.mem_cons_self, List.set_set]
      · rw [if_neg (by simp [e, h]), List.set_comm _ _ e]
theorem wipe_set {i : Nat} {x : Option V} {us : List Nat} (h : i ∈ us) : L2.wipe (σ.set i x) us = L2.wipe σ us := by
  rw [wipe_same, if_pos h]
theorem setAll_ok {K : PySem.W.Frag} : ∀ {is : List Nat} {ts : List T} {vs : List V} {σ : L2.St} {ρ ρ' : Env} {Q : L2.St → Hp → Prop}, EnvOk w H A C σ ρ → BwAtL w H A C vs ts → setAll is ts ρ = some ρ' →
    (∀ σ', EnvOk w H A C σ' ρ' → (∀ us, (∀ i ∈ is, i ∈ us) → ∀ σ0, L2.wipe σ us = σ0 → L2.wipe σ' us = σ0) → Q σ' H) → gNs is vs σ H Q
  | [], [], [], σ, ρ, ρ', Q, h, _, e, q => by
    simp only [setAll, Option.some.injEq] at e
    subst e
    exact ⟨rfl, q σ h fun us _ σ0 z => z⟩
  | [], [], _ :: _, _, _, _, _, _, hb, _, _ => by simp only [BwAtL] at hb
  | [], _ :: _, _, _, _, _, _, _, _, e, _ => by simp only [setAll] at e; cases e
  | _ :: _, [], _, _, _, _, _, _, _, e, _ => by simp only [setAll] at e; cases e
  | i :: is, t :: ts, [], _, _, _, _, _, hb, _, _ => by simp only [BwAtL] at hb
  | i :: is, t :: ts, v :: vs, σ, ρ, ρ', Q, h, hb, e, q => by
    simp only [BwAtL] at hb
    simp only [setAll] at e
    split at e
    · refine ⟨v, vs, rfl, ?_⟩
      refine setAll_ok (K := K) (h.set hb.1) hb.2 e fun σ' h' k => q σ' h' fun us hu σ0 z => ?_
      refine k us (fun j hj => hu j (List.mem_cons_of_mem _ hj)) σ0 ?_
      rw [← z]
      exact wipe_set (hu i List.mem_cons_self)
    · cases e
end
end Mi

set_option Elab.async false
set_option linter.all false
set_option maxRecDepth 100000
set_option maxHeartbeats 4000000
namespace Mi
open PySem PySem.Spec PyProof.Rows L2

/-! ### the check: a term of the small language says what a def's text says -/
def visC (sc : Scope) (x : Str) : Bool := match sc.names.lookup x with
  | some .local => true
  | some .cell => true
  | some .free => true
  | _ => false
theorem visC_ok {sc : Scope} {x : Str} (h : visC sc x = true) : Vis sc x := by
  unfold visC at h
  split at h <;> first | exact .inl (by assumption) | exact .inr (.inl (by assumption)) | exact .inr (.inr (by assumption)) | cases h
def glC (sc : Scope) (x : Str) : Bool := decide (sc.names.lookup x = some .globalImplicit) && !(x == ("__debug__" : Str)) && !decide (x = ("__name__" : Str))
def cstC : D → Const → Bool
  | .non, .none => true
  | .bl b, .bool k => b == k
  | .int i, .int j => decide (i = j)
  | .str x, .str y => decide (x = y)
  | _, _ => false
/-- a name of a module that is a built-in's -/
def bltC (c : Cfg) (sc : Scope) (x y : Str) : Bool := decide (x = y) && decide (x ∈ c.free) && glC sc x
def tyNames (c : Cfg) (sc : Scope) : List Ty → List Expr → Bool
  | [], [] => true
  | t :: ts, .Name x _ :: es => bltC c sc x t.nm && decide (t ≠ .non) && tyNames c sc ts es
  | _, _ => false
/-- the slots of a block's own names -/
def ownOf (c : Cfg) (g : Tg) : List (Str × Nat) := g.slots.map fun i => (c.N.getD i "", i)
theorem ownOf_slots (c : Cfg) (g : Tg) : (ownOf c g).map (·.2) = g.slots := by
  unfold ownOf
  rw [List.map_map]
  exact List.map_id _
def stoB (c : Cfg) (sc scope : Scope) (i : Nat) : Bool := match c.N[i]? with
  | some x => decide ((relS scope sc).names.lookup x = some .local) || (decide ((relS scope sc).names.lookup x = some .cell) && (scope.names.lookup x == some .cell))
  | none => false
mutual
def okE (c : Cfg) (sc : Scope) : E → Expr → Bool
  | .var i, x => match x with
    | .Name n _ => decide (c.N[i]? = some n) && visC sc n && !(n == ("__debug__" : Str)) && !(n == ("__classdict__" : Str))
    | _ => false
  | .cst d, x => match x with
    | .Constant k _ _ => cstC d k
    | _ => false
  | .glob g, x => match x with
    | .Name n _ => decide (g = n) && glC sc n
    | _ => false
  | .bin op a b, x => match x with
    | .BinOp a' o b' _ => decide (o = op.py) && okE c sc a a' && okE c sc b b'
    | _ => false
  | .neg a, x => match x with
    | .UnaryOp .USub a' _ => okE c sc a a'
    | _ => false
  | .cmp op a b, x => match x with
    | .Compare a' [o] [b'] _ => decide (o = op.py) && !behindInMarks o b' && okE c sc a a' && okE c sc b b'
    | _ => false
  | .cmp2 o1 o2 a b e, x => match x with
    | .Compare a' [p1, p2] [b', e'] _ => decide (p1 = o1.py) && decide (p2 = o2.py) && !lastMarks [p1, p2] [b', e'] && okE c sc a a' && okE c sc b b' && okE c sc e e'
    | _ => false
  | .and a b, x => match x with
    | .BoolOp .And [a', b'] _ => okE c sc a a' && okE c sc b b'
    | .BoolOp .And (a' :: b' :: e' :: es) pos => okE c sc a a' && okE c sc b (.BoolOp .And (b' :: e' :: es) pos)
    | _ => false
  | .or a b, x => match x with
    | .BoolOp .Or [a', b'] _ => okE c sc a a' && okE c sc b b'
    | .BoolOp .Or (a' :: b' :: e' :: es) pos => okE c sc a a' && okE c sc b (.BoolOp .Or (b' :: e' :: es) pos)
    | _ => false
  | .not a, x => match x with
    | .UnaryOp .Not a' _ => okE c sc a a'
    | _ => false
  | .ite t a b, x => match x with
    | .IfExp t' a' b' _ => okE c sc t t' && okE c sc a a' && okE c sc b b'
    | _ => false
  | .tup es, x => match x with
    | .Tuple xs _ _ => xs.all noStar && okEs c sc es xs
    | _ => false
  | .lst es, x => match x with
    | .List xs _ => xs.all noStar && okEs c sc es xs
    | _ => false
  | .ix a i, x => match x with
    | .Subscript a' i' _ => okE c sc a a' && okE c sc i i'
    | _ => false
  | .sl a lo hi, x => match x with
    | .Subscript a' (.Slice l' h' none _) _ => okE c sc a a' && okO c sc lo l' && okO c sc hi h'
    | _ => false
  | .call f es, x => match x with
    | .Call (.Name n _) xs [] _ => decide (f = n) && glC sc n && xs.all noStar && okEs c sc es xs && (c.fn f).isSome
    | _ => false
  | .bi b es, x => match x with
    | .Call (.Name n _) (x :: xs) [] _ => bltC c sc n b.nm && (x :: xs).all noStar && okEs c sc es (x :: xs)
    | _ => false
  | .isi a cs many, x => match x with
    | .Call (.Name n _) [a', .Tuple ts _ _] [] _ => many && decide (cs.length ≤ 99) && bltC c sc n "isinstance" && noStar a' && ts.all noStar && okE c sc a a' && tyNames c sc cs ts
    | .Call (.Name n _) [a', .Name t p] [] _ => !many && bltC c sc n "isinstance" && noStar a' && okE c sc a a' && tyNames c sc cs [.Name t p] 
    | _ => false
  | .comp g k es cs e, x => match x with
    | .ListComp elt [⟨tg, iter, ifs, 0⟩] scope _ => okTg c.N g tg && okSrc c sc k es tg iter && blkC c.N sc scope (ownOf c g) && g.slots.all (stoB c sc scope) && decide (cs.length ≤ 1) && okEs c (relS scope sc) cs ifs && okE c (relS scope sc) e elt
    | _ => false
def okEs (c : Cfg) (sc : Scope) : List E → List Expr → Bool
  | [], xs => match xs with
    | [] => true
    | _ => false
  | e :: es, xs => match xs with
    | x :: xs => okE c sc e x && okEs c sc es xs
    | _ => false
def okO (c : Cfg) (sc : Scope) : List E → Option Expr → Bool
  | [], x => match x with
    | none => true
    | _ => false
  | e :: es, x => match x with
    | some x => okE c sc e x && es.isEmpty
    | _ => false
def okSrc (c : Cfg) (sc : Scope) : Src → List E → Expr → Expr → Bool
  | _, [], _, _ => false
  | k, e :: es, tg, x => match k with
    | .seq => es.isEmpty && okE c sc e x
    | .txt => es.isEmpty && okE c sc e x
    | .rng1 => match x with
      | .Call (.Name n _) [x] [] _ => es.isEmpty && bltC c sc n "range" && noStar x && okE c sc e x
      | _ => false
    | .rng2 => match x with
      | .Call (.Name n _) [x, y] [] _ => bltC c sc n "range" && noStar x && noStar y && okE c sc e x && okEs c sc es [y]
      | _ => false
    | .enum => match tg, x with
      | .Tuple _ _ _, .Call (.Name n _) [x] [] _ => es.isEmpty && bltC c sc n "enumerate" && noStar x && okE c sc e x
      | _, _ => false
end

/-! ### statements -/
def locC (c : Cfg) (sc : Scope) (i : Nat) : Bool := match c.N[i]? with
  | some x => decide (sc.names.lookup x = some .local) || decide (sc.names.lookup x = some .cell)
  | none => false
def notTup : Expr → Bool
  | .Tuple _ _ _ => false
  | _ => true
def notComp : Expr → Bool
  | .ListComp _ _ _ _ => false
  | .SetComp _ _ _ _ => false
  | .DictComp _ _ _ _ _ => false
  | _ => true
/-- name = [..] whose stores are exchanged -/
def swB (sc : Scope) (y : Str) (py : Pos) : Expr → Bool
  | .ListComp _ _ scope lp => (sc.names.lookup y == some .local) && (py.line == lp.line) && !(scope.names.any fun p => p.1 == y && (p.2 == .local || p.2 == .cell))
  | _ => false
def asgC (sc : Scope) : Expr → Expr → Bool
  | .Name _ _, _ => true
  | .Tuple _ _ _, x => notTup x
  | _, _ => false
mutual
def okSt (c : Cfg) (sc : Scope) : S → Stmt → Bool
  | .asg g e, st => match st with
    | .Assign [tg] x _ => okTg c.N g tg && g.slots.all (locC c sc) && asgC sc tg x && okE c sc e x
    | _ => false
  | .own i e, st => match st with
    | .Assign [.Name n _] x _ => decide (c.N[i]? = some n) && locC c sc i && okE c sc e x
    | _ => false
  | .aug i op e, st => match st with
    | .AugAssign (.Name n _) o x _ => decide (c.N[i]? = some n) && locC c sc i && decide (o = op.py) && okE c sc e x && (decide (op = .add) || decide (op = .sub))
    | _ => false
  | .app i e, st => match st with
    | .Expr (.Call (.Attribute (.Name n np) m apos) [x] [] cpos) _ => decide (m = ("append" : Str)) && (apos.endLine == cpos.line) && noStar x && okE c sc (.var i) (.Name n np) && okE c sc e x
    | _ => false
  | .setI i k e, st => match st with
    | .Assign [.Subscript (.Name n np) y _] x _ => okE c sc (.var i) (.Name n np) && okE c sc k y && okE c sc e x
    | _ => false
  | .drop e, st => match st with
    | .Expr x _ => notComp x && okE c sc e x
    | _ => false
  | .ret e, st => match st with
    | .Return (some x) _ => okE c sc e x
    | _ => false
  | .retN, st => match st with
    | .Return none _ => true
    | _ => false
  | .ifS t a b, st => match st with
    | .If x p q _ => okE c sc t x && okBd c sc a p && okBd c sc b q
    | _ => false
  | .forS g k es body, st => match st with
    | .For tg iter p [] _ => okTg c.N g tg && g.slots.all (locC c sc) && okSrc c sc k es tg iter && okBd c sc body p
    | _ => false
  | .whl _ t body, st => match st with
    | .While x p [] _ => okE c sc t x && okBd c sc body p
    | _ => false
  | .brk, st => match st with
    | .Break _ => true
    | _ => false
  | .cnt, st => match st with
    | .Continue _ => true
    | _ => false
  | .pss, st => match st with
    | .Pass _ => true
    | _ => false
  | .rse x es, st => match st with
    | .Raise (some (.Call (.Name n _) xs [] _)) none _ => decide (x = n) && glC sc n && xs.all noStar && okEs c sc es xs
    | _ => false
  | .tryS _ _ _ _, _ => false
  | .frz _, _ => false
def okBd (c : Cfg) (sc : Scope) : List S → List Stmt → Bool
  | [], sts => match sts with
    | [] => true
    | _ => false
  | s :: ss, sts => (match s with
    | .frz _ => okBd c sc ss sts
    | _ => false) || match sts with
    | st :: sts => okSt c sc s st && okBd c sc ss sts
    | _ => false
end

/-! ### a context that serves a configuration -/
def SpV (w : Wd) (n : Nat) (run : List T → Res Vl) : Sp := fun vs H Q E => ∃ C ts, vs.length = n ∧ Al H C ∧ BwAtL w H [] C vs ts ∧ match run ts with
  | .ok x => ∀ v H', Ex H H' → VAt w [] C H v x H' → Q v H'
  | .exc c ds => ∀ k dx H', Ex H H' → XAt w C H' k dx c ds → E k dx H'
  | .bad => False
/-- an own exception class without own __init__ -/
def ExcA (K : PySem.W.Frag) (mg : Str → Option Value) (x : Str) (C : Addr) : Prop := ∃ bmB B newId initId, ExcBaseFacts B newId initId bmB ∧ PySem.W.excIn K C bmB newId = true ∧ mg x = some (.ref C) ∧ PySem.W.keepIn K (.ref C) = true ∧
  PySem.W.subIn K (.ref C) (.type "BaseException") = some true ∧ PySem.W.typeIn K (.ref C) = some (.type "type")
structure Good (c : Cfg) (w : Wd) (lv : Nat) (X : Cx) : Prop where
  N : X.N = c.N
  nd : X.N.Nodup
  K : X.K = w.K
  calm : X.calm = true
  room : Room lv X.A
  funs : ∀ f g, c.fn f = some g → ∃ a fd, FnOk X.prog X.w X.K X.mg X.base (L2.CX X.prog X.w) lv a fd g.ps (SpV w g.ps.length g.run) ∧ X.mg f = some (.ref a) ∧ PySem.W.keepIn X.K (.ref a) = true ∧ Binds X.K fd g.ps []
  consts : ∀ x d, c.consts.lookup x = some d → ∃ v u, X.mg x = some u ∧ RelV v u ∧ ∀ H, Rp w H v d
  free : ∀ x ∈ c.free, X.mg x = none
  exA : ∀ x ∈ c.exA, ExcA X.K X.mg x (w.cl x)
theorem Good.blk {c : Cfg} {w : Wd} {lv : Nat} {X : Cx} (g : Good c w lv X) (s : Shared) (H : Hp) (scope : Scope) (ce : PySem.Env) (fp : List Addr) : Good c w lv (X.blk s H scope ce fp) :=
  ⟨g.N, g.nd, g.K, g.calm, g.room, g.funs, g.consts, g.free, g.exA⟩
theorem Good.units {c : Cfg} {w : Wd} {lv : Nat} {X : Cx} (g : Good c w lv X) : X.A.units + 65 < cLine := by
  have := g.room.un
  omega

/-! ### hiding more -/
section
variable {w : Wd} {H H' : Hp} {A A' C : List Addr} {σ : L2.St} {ρ : Env}
theorem hide_grow {O O' : List Addr} (e : Ex H H') (h : ∀ a ∈ O', a ∈ O ∨ H a = none) : Ex (hide H O) (hide H' O') := fun a o q => by
  unfold hide at q ⊢
  split at q
  · cases q
  · rename_i n
    rw [if_neg]
    · exact e _ _ q
    · intro z
      rcases h a z with h | h
      · exact n h
      · rw [h] at q
        cases q
mutual
theorem BwAt.grow (e : Ex H H') (h : ∀ a ∈ A', a ∈ A ∨ H a = none) : ∀ {t : T} {v : V}, BwAt w H A C v t → BwAt w H' A' C v t
  | .sh d, _, q => by
    simp only [BwAt] at q ⊢
    refine q.ex (hide_grow e fun a ha => ?_)
    rcases List.mem_append.mp ha with ha | ha
    · exact (h a ha).imp (List.mem_append_left _) id
    · exact .inl (List.mem_append_right _ ha)
  | .ro d, _, q => by
    simp only [BwAt] at q ⊢
    exact q.ex (hide_grow e h)
  | .lst ts, _, q => by
    simp only [BwAt] at q ⊢
    obtain ⟨p, vs, h1, h2, h3, h4⟩ := q
    exact ⟨p, vs, h1, e _ _ h2, BwAtL.grow e h h3, h4⟩
  | .scr ns, _, q => by
    simp only [BwAt] at q ⊢
    obtain ⟨p, h1, h2⟩ := q
    exact ⟨p, h1, ex_l (hide_grow e h) h2⟩
theorem BwAtL.grow (e : Ex H H') (h : ∀ a ∈ A', a ∈ A ∨ H a = none) : ∀ {ts : List T} {vs : List V}, BwAtL w H A C vs ts → BwAtL w H' A' C vs ts
  | [], [], _ => by simp only [BwAtL]
  | _ :: _, [], q => by simp only [BwAtL] at q
  | [], _ :: _, q => by simp only [BwAtL] at q
  | t :: ts, v :: vs, q => by
    simp only [BwAtL] at q ⊢
    exact ⟨BwAt.grow e h q.1, BwAtL.grow e h q.2⟩
end
theorem EnvOk.grow (e : Ex H H') (h : ∀ a ∈ A', a ∈ A ∨ H a = none) (q : EnvOk w H A C σ ρ) : EnvOk w H' A' C σ ρ := ⟨q.len, fun i t z => by
  obtain ⟨v, h1, h2⟩ := q.get i t z
  exact ⟨v, h1, h2.grow e h⟩⟩
/-- a later state of a walk -/
def Lat (C : List Addr) (H : Hp) (A : List Addr) (st : Bool) (H' : Hp) (A' : List Addr) : Prop := Al H' (A' ++ C) ∧ ((Ex H H' ∧ ∀ a ∈ A', a ∈ A ∨ H a = none) ∨
  (st = true ∧ Ex (hide H A) (hide H' A') ∧ Ex (hide H (A ++ C)) (hide H' (A' ++ C))))
theorem BwAt.lat {st : Bool} {t : T} {v : V} (l : Lat C H A st H' A') (hs : st = true → t.still = true) (h : BwAt w H A C v t) : BwAt w H' A' C v t := by
  rcases l.2 with ⟨e, f⟩ | ⟨e, f, g⟩
  · exact h.grow e f
  · have hs := hs e
    cases t with
    | sh d => simp only [BwAt] at h ⊢; exact h.ex g
    | ro d => simp only [BwAt] at h ⊢; exact h.ex f
    | lst ts => cases hs
    | scr ns =>
      simp only [BwAt] at h ⊢
      obtain ⟨p, h1, h2⟩ := h
      exact ⟨p, h1, ex_l f h2⟩
end
end Mi

set_option Elab.async false
set_option linter.all false
set_option maxRecDepth 100000
set_option maxHeartbeats 4000000
namespace Mi
open PySem PySem.Spec PyProof.Rows L2

structure Pt (c : Cfg) (w : Wd) (lv : Nat) (X : Cx) (W : WX) (A C : List Addr) (σ : L2.St) (H : Hp) (ρ : Env) : Prop where
  good : Good c w lv X
  tk : Takes X W
  env : EnvOk w H A C σ ρ
  al : Al H (A ++ C)
theorem Pt.ex {c : Cfg} {w : Wd} {lv : Nat} {X : Cx} {W : WX} {A C : List Addr} {σ : L2.St} {H H' : Hp} {ρ : Env} (p : Pt c w lv X W A C σ H ρ) (e : Ex H H') : Pt c w lv X W A C σ H' ρ :=
  ⟨p.good, p.tk, p.env.ex e, p.al.ex e⟩
def EvT (w : Wd) (A C : List Addr) (W : WX) (tt : TT) (σ : L2.St) (H : Hp) : Res Bool → Prop
  | .ok b => ∀ H1, Ex H H1 → ∀ Q : Bool → Hp → Prop, (∀ H2, Ex H1 H2 → Q b H2) → tt σ H1 Q
  | .exc c vs => ∀ H1, Ex H H1 → ∀ Q : Bool → Hp → Prop, (∀ k dx H2, Ex H1 H2 → XAt w (A ++ C) H2 k dx c vs → W k dx σ H2) → tt σ H1 Q
  | .bad => True
def tWW (X : Cx) (e : Expr) : TT := fun σ H Q => ∀ whole pins s, Inv X pins σ H s → wpAny (model X.prog X.w) X.A (isTrue e X.env whole) (TP X pins σ Q) X.xe s
theorem pw_W {X : Cx} {e : Expr} : PW X e (tWW X e) := ⟨fun wh pins s σ H Q I h => h wh pins s I⟩
theorem WW_of {X : Cx} {e : Expr} {t : TT} (h : PW X e t) {σ : L2.St} {H : Hp} {Q : Bool → Hp → Prop} (q : t σ H Q) : tWW X e σ H Q := fun wh pins s I => h.run wh pins s σ H Q I q
section
variable {w : Wd} {W : WX} {H H' H1 H2 Hb Hb' : Hp} {A C : List Addr} {σ : L2.St} {ρ : Env} {ta tb tc te : TE} {r ra rb rc : Res Vl} {tt tu : TT} {q q1 q2 : Res Bool}
theorem EvT.mono {te' : TT} (h : ∀ H Q, tt σ H Q → te' σ H Q) (e : EvT w A C W tt σ H q) : EvT w A C W te' σ H q := by
  cases q with
  | ok x => exact fun H1 e1 Q q => h _ _ (e H1 e1 Q q)
  | exc c vs => exact fun H1 e1 Q q => h _ _ (e H1 e1 Q q)
  | bad => trivial
/-- behind a test -/
theorem evi {f : Bool → Res Vl} {t : Bool → TE} (ha : EvT w A C W tt σ H q) (hr : ∀ b, q = .ok b → ∀ H1, Ex H H1 → EvR w A C W (t b) σ H1 (f b)) :
    EvR w A C W (fun σ H Q => tt σ H fun b H1 => t b σ H1 Q) σ H (q.bnd f) := by
  cases q with
  | ok b =>
    rw [Res.bnd_ok]
    have k := hr b rfl
    cases hf : f b with
    | ok z =>
      intro H1 e1 Q q
      refine ha H1 e1 _ fun H2 e2 => ?_
      have := k H2 (e1.trans e2)
      rw [hf] at this
      exact this H2 (Ex.refl H2) Q fun v' H3 e3 h3 => q v' H3 (e2.trans e3) (h3.base e2)
    | exc c vs =>
      intro H1 e1 Q q
      refine ha H1 e1 _ fun H2 e2 => ?_
      have := k H2 (e1.trans e2)
      rw [hf] at this
      exact this H2 (Ex.refl H2) Q fun k dx H3 e3 h3 => q k dx H3 (e2.trans e3) h3
    | bad => trivial
  | exc c vs => exact fun H1 e1 Q q => ha H1 e1 _ q
  | bad => trivial
/-- .. a test behind a test -/
theorem evii {f : Bool → Res Bool} {t : Bool → TT} (ha : EvT w A C W tt σ H q) (hr : ∀ b, q = .ok b → ∀ H1, Ex H H1 → EvT w A C W (t b) σ H1 (f b)) :
    EvT w A C W (fun σ H Q => tt σ H fun b H1 => t b σ H1 Q) σ H (q.bnd f) := by
  cases q with
  | ok b =>
    rw [Res.bnd_ok]
    have k := hr b rfl
    cases hf : f b with
    | ok z =>
      intro H1 e1 Q q
      refine ha H1 e1 _ fun H2 e2 => ?_
      have := k H2 (e1.trans e2)
      rw [hf] at this
      exact this H2 (Ex.refl H2) Q fun H3 e3 => q H3 (e2.trans e3)
    | exc c vs =>
      intro H1 e1 Q q
      refine ha H1 e1 _ fun H2 e2 => ?_
      have := k H2 (e1.trans e2)
      rw [hf] at this
      exact this H2 (Ex.refl H2) Q fun k dx H3 e3 h3 => q k dx H3 (e2.trans e3) h3
    | bad => trivial
  | exc c vs => exact fun H1 e1 Q q => ha H1 e1 _ q
  | bad => trivial
/-- a test by a value -/
theorem evv {f : Vl → Res Bool} {t : V → Hp → (Bool → Hp → Prop) → Prop} (ha : EvR w A C W ta σ H ra)
    (hr : ∀ x b, ra = .ok x → f x = .ok b → ∀ Hb v H1, Ex H Hb → Ex Hb H1 → VAt w A C Hb v x H1 → ∀ Q : Bool → Hp → Prop, Q b H1 → t v H1 Q) (hn : ∀ x, ra = .ok x → ∀ c vs, f x ≠ .exc c vs) :
    EvT w A C W (fun σ H Q => ta σ H fun v H1 => t v H1 Q) σ H (ra.bnd f) := by
  cases ra with
  | ok x =>
    rw [Res.bnd_ok]
    cases hf : f x with
    | ok b =>
      intro H1 e1 Q q
      refine ha H1 e1 _ fun v H2 e2 h2 => hr x b rfl hf H1 v H2 e1 e2 h2 Q (q H2 e2)
    | exc c vs => exact absurd hf (hn x rfl c vs)
    | bad => trivial
  | exc c vs => exact fun H1 e1 Q q => ha H1 e1 _ q
  | bad => trivial
theorem truV_ok {d : D} {v : V} {b : Bool} (h : Rq w H v d) (e : truR d = some b) : TruV w.K v H b := by
  cases d with
  | non => rw [rp_n h]; simp only [truR, Option.some.injEq] at e; exact e.symm
  | bl k => rw [rp_b h]; simp only [truR, Option.some.injEq] at e; exact e.symm
  | int k => rw [rp_i h]; simp only [truR, Option.some.injEq] at e; exact e.symm
  | str z =>
    rw [rp_s h]
    simp only [truR] at e
    split at e
    · simp only [Option.some.injEq] at e
      exact ⟨by assumption, e.symm⟩
    · cases e
  | tup ds =>
    simp only [truR, Option.some.injEq] at e
    simp only [Rq] at h
    obtain ⟨a, vs, rfl, k1, k2⟩ := h
    have l := k2.length
    refine .inr (.inl ⟨vs, k1, ?_⟩)
    rw [← e]
    cases ds <;> cases vs <;> simp at l ⊢
  | lst ds =>
    simp only [truR, Option.some.injEq] at e
    simp only [Rq] at h
    obtain ⟨a, vs, rfl, k1, k2⟩ := h
    have l := k2.length
    refine .inl ⟨vs, k1, ?_⟩
    rw [← e]
    cases ds <;> cases vs <;> simp at l ⊢
  | dic ks ds => cases e
  | obj c ns ds => cases e
theorem evt_val (al : Al H (A ++ C)) (ha : EvR w A C W te σ H r) : EvT w A C W (fun σ H Q => te σ H fun x H' => ∃ k, TruV w.K x H' k ∧ Q k H') σ H (r.bnd fun x => Res.of (truR x.d)) := by
  refine evv (t := fun x H' Q => ∃ k, TruV w.K x H' k ∧ Q k H') ha (fun x b _ hf Hb v H1 e1 e2 hv Q q => ⟨b, ?_, q⟩) fun x _ c vs hf => ?_
  · cases ht : truR x.d with
    | none => rw [ht] at hf; cases hf
    | some k =>
      rw [ht] at hf
      cases hf
      exact truV_ok (hv.rq (al.ex e1)) ht
  · cases ht : truR x.d with
    | none => rw [ht] at hf; cases hf
    | some k => rw [ht] at hf; cases hf
end

/-! ### statements of soundness -/
def SE (c : Cfg) (w : Wd) (lv : Nat) (e : E) : Prop := ∀ x X W A C σ H ρ, Pt c w lv X W A C σ H ρ → okE c X.env.scope e x = true → EvR w A C W (tW X x) σ H (ev c e ρ)
def ST (c : Cfg) (w : Wd) (lv : Nat) (e : E) : Prop := ∀ x X W A C σ H ρ, Pt c w lv X W A C σ H ρ → okE c X.env.scope e x = true → EvT w A C W (tWT X x) σ H (evT c e ρ)
def SW (c : Cfg) (w : Wd) (lv : Nat) (e : E) : Prop := ∀ op es pos X W A C σ H ρ, Pt c w lv X W A C σ H ρ → okE c X.env.scope e (.BoolOp op es pos) = true → EvT w A C W (tWW X (.BoolOp op es pos)) σ H (evT c e ρ)
def SA (c : Cfg) (w : Wd) (lv : Nat) (es : List E) : Prop := ∀ xs X W A C σ H ρ, Pt c w lv X W A C σ H ρ → okEs c X.env.scope es xs = true → EvA w A C W (tWA X xs) σ H (evs c es ρ)
structure S3 (c : Cfg) (w : Wd) (lv : Nat) (e : E) : Prop where
  v : SE c w lv e
  t : ST c w lv e
  w : SW c w lv e
section
variable {c : Cfg} {w : Wd} {lv : Nat} {X : Cx} {W : WX} {A C : List Addr} {σ : L2.St} {H : Hp} {ρ : Env}
def plainX : Expr → Bool
  | .BoolOp _ _ _ => false
  | .UnaryOp .Not _ _ => false
  | .IfExp _ _ _ _ => false
  | .Compare _ _ _ _ => false
  | _ => true
theorem not_bool {x : Expr} {X : Cx} (h : plainX x = true) :
    ∀ whole, isTrue x X.env whole = (do let v ← whole; standAt x.pos; holding [v] (truthy v)) := by
  intro whole
  cases x <;> first | rfl | (simp only [plainX] at h; cases h) | skip
  rename_i op y pos
  cases op <;> first | rfl | (simp only [plainX] at h; cases h)
/-- an expression whose test is its value's truth -/
theorem S3.of {e : E} (h : SE c w lv e) (hs : ∀ sc x, okE c sc e x = true → plainX x = true)
    (he : ∀ ρ, evT c e ρ = (ev c e ρ).bnd fun x => Res.of (truR x.d)) : S3 c w lv e where
  v := h
  t := fun x X W A C σ H ρ p ok => by
    have hp := hs _ _ ok
    rw [he]
    refine EvT.mono (fun H Q q => WT_of (pt_truth pe_W (not_bool hp)) ?_) (evt_val p.al (h x X W A C σ H ρ p ok))
    rw [p.good.K]
    exact q
  w := fun op es pos X W A C σ H ρ p ok => by
    have := hs _ _ ok
    simp only [plainX] at this
    cases this
theorem Gl_of {X : Cx} {x : Str} (h : glC X.env.scope x = true) : Gl X x ∧ (x == ("__debug__" : Str)) = false ∧ x ≠ "__name__" := by
  unfold glC at h
  simp only [Bool.and_eq_true, decide_eq_true_eq, Bool.not_eq_true', decide_eq_false_iff_not] at h
  exact ⟨h.1.1, h.1.2, h.2⟩
theorem blt_of {X : Cx} {x y : Str} (g : Good c w lv X) (h : bltC c X.env.scope x y = true) : x = y ∧ X.mg x = none ∧ Gl X x ∧ (x == ("__debug__" : Str)) = false ∧ x ≠ "__name__" := by
  unfold bltC at h
  simp only [Bool.and_eq_true, decide_eq_true_eq] at h
  exact ⟨h.1.1, g.free _ h.1.2, Gl_of h.2⟩

theorem s_var (i : Nat) : S3 c w lv (.var i) := by
  refine .of (fun x X W A C σ H ρ p ok => ?_) (fun sc x h => ?_) fun ρ => by simp only [evT]
  · unfold okE at ok
    split at ok
    · rename_i n pos
      simp only [Bool.and_eq_true, decide_eq_true_eq, Bool.not_eq_true'] at ok
      obtain ⟨⟨⟨k1, k2⟩, k3⟩, k4⟩ := ok
      have pe : PE X (.Name n pos) (tVar i) := pe_var (by rw [p.good.N]; exact k1) (visC_ok k2) k3 k4
      simp only [ev]
      split
      · rename_i t ht
        obtain ⟨v, h1, h2⟩ := p.env.get i t ht
        exact fun H1 e1 Q q => W_of pe ⟨v, h1, q v H1 (Ex.refl H1) (h2.ex e1)⟩
      · trivial
    · cases ok
  · unfold okE at h
    split at h
    · rfl
    · cases h
theorem s_cst (d : D) : S3 c w lv (.cst d) := by
  refine .of (fun x X W A C σ H ρ p ok => ?_) (fun sc x h => ?_) fun ρ => by simp only [evT]
  · unfold okE at ok
    split at ok
    · rename_i k j pos
      unfold ev
      unfold Res.iff
      split
      · intro H1 e1 Q q
        unfold cstC at ok
        split at ok
        · exact W_of pe_non (q .non H1 (Ex.refl H1) (VAt.sh_of (by simp only [Rp])))
        · have e := ok
          simp only [beq_iff_eq, decide_eq_true_eq] at e
          subst e
          exact W_of pe_bl (q (.bl _) H1 (Ex.refl H1) VAt.b)
        · have e := ok
          simp only [beq_iff_eq, decide_eq_true_eq] at e
          subst e
          exact W_of pe_int (q (.int _) H1 (Ex.refl H1) VAt.i)
        · have e := ok
          simp only [beq_iff_eq, decide_eq_true_eq] at e
          subst e
          exact W_of pe_str (q (.str _) H1 (Ex.refl H1) VAt.s)
        · cases ok
      · trivial
    · cases ok
  · unfold okE at h
    split at h
    · rfl
    · cases h
theorem s_glob (g : Str) : S3 c w lv (.glob g) := by
  refine .of (fun x X W A C σ H ρ p ok => ?_) (fun sc x h => ?_) fun ρ => by simp only [evT]
  · unfold okE at ok
    split at ok
    · rename_i n pos
      simp only [Bool.and_eq_true, decide_eq_true_eq] at ok
      obtain ⟨rfl, k2⟩ := ok
      obtain ⟨g1, g2, g3⟩ := Gl_of k2
      simp only [ev]
      split
      · rename_i d hd
        obtain ⟨v, u, h1, h2, h3⟩ := p.good.consts _ _ hd
        exact fun H1 e1 Q q => W_of (pe_glob g1 h1 h2 g2) (q v H1 (Ex.refl H1) (VAt.sh_of (h3 _)))
      · trivial
    · cases ok
  · unfold okE at h
    split at h
    · rfl
    · cases h
theorem s_bin (op : Bop) {a b : E} (ha : SE c w lv a) (hb : SE c w lv b) : S3 c w lv (.bin op a b) := by
  refine .of (fun x X W A C σ H ρ p ok => ?_) (fun sc x h => ?_) fun ρ => by simp only [evT]
  · unfold okE at ok
    split at ok
    · rename_i a' o b' pos
      simp only [Bool.and_eq_true, decide_eq_true_eq] at ok
      obtain ⟨⟨rfl, k1⟩, k2⟩ := ok
      simp only [ev]
      have op' : OpR X (binaryOp op.py) (rBin w.K op) := p.good.K ▸ op_bin op
      exact EvR.mono (fun H Q h => W_of (pe_op op' pe_W pe_W) h) (ev2 (ha _ _ _ _ _ _ _ _ p k1) (fun x _ H1 e1 => hb _ _ _ _ _ _ _ _ (p.ex e1) k2) fun x y _ _ Hb v u H1 e1 e2 hx hy => bin_ok (p.al.ex e1) e2 hx hy op)
    · cases ok
  · unfold okE at h
    split at h
    · rfl
    · cases h
end
end Mi

set_option Elab.async false
set_option linter.all false
set_option maxRecDepth 100000
set_option maxHeartbeats 4000000
namespace Mi
open PySem PySem.Spec PyProof.Rows L2
section
variable {c : Cfg} {w : Wd} {lv : Nat} {X : Cx} {W : WX} {A C : List Addr} {σ : L2.St} {H : Hp} {ρ : Env}
theorem s_neg {a : E} (ha : SE c w lv a) : S3 c w lv (.neg a) := by
  refine .of (fun x X W A C σ H ρ p ok => ?_) (fun sc x h => ?_) fun ρ => by simp only [evT]
  · unfold okE at ok
    split at ok
    · rename_i a' pos
      simp only [ev]
      refine EvR.mono (fun H Q h => W_of (pe_un un_neg pe_W) h) (ev1 (g := fun v H Q => rU (fun i => .int (-i)) v H Q) (ha _ _ _ _ _ _ _ _ p ok) fun x _ Hb v H1 e1 e2 hx => ?_)
      split
      · rename_i i hi
        cases hx.int (p.al.ex e1) hi
        exact op_i fun Q q => ⟨i, rfl, q⟩
      · exact op_bad
    · cases ok
  · unfold okE at h
    split at h
    · rfl
    · cases h
theorem s_cmp (op : Cop) {a b : E} (ha : SE c w lv a) (hb : SE c w lv b) : S3 c w lv (.cmp op a b) := by
  have hv : SE c w lv (.cmp op a b) := fun x X W A C σ H ρ p ok => by
    unfold okE at ok
    split at ok
    · rename_i a' o b' pos
      simp only [Bool.and_eq_true, decide_eq_true_eq, Bool.not_eq_true'] at ok
      obtain ⟨⟨⟨rfl, hm⟩, k1⟩, k2⟩ := ok
      simp only [ev]
      have op' : OpR X (compareOp op.py) (rCmp w.K op) := p.good.K ▸ op_cmp p.good.units op
      exact EvR.mono (fun H Q h => W_of (pe_cmpR op' pe_W pe_W hm) h) (ev2 (ha _ _ _ _ _ _ _ _ p k1) (fun x _ H1 e1 => hb _ _ _ _ _ _ _ _ (p.ex e1) k2) fun x y _ _ Hb v u H1 e1 e2 hx hy => cmp_ok (p.al.ex e1) hx hy op)
    · cases ok
  refine ⟨hv, fun x X W A C σ H ρ p ok => ?_, fun o es pos X W A C σ H ρ p ok => ?_⟩
  · simp only [evT]
    have r := hv x X W A C σ H ρ p ok
    unfold okE at ok
    split at ok
    · rename_i a' o b' pos
      simp only [Bool.and_eq_true, decide_eq_true_eq, Bool.not_eq_true'] at ok
      obtain ⟨⟨⟨rfl, hm⟩, k1⟩, k2⟩ := ok
      have op' : OpR X (compareOp op.py) (rCmp w.K op) := p.good.K ▸ op_cmp p.good.units op
      have r2 : EvR w A C W (tOp (rCmp w.K op) (tW X a') (tW X b')) σ H (ev c (.cmp op a b) ρ) := by
        simp only [ev]
        exact ev2 (ha _ _ _ _ _ _ _ _ p k1) (fun x _ H1 e1 => hb _ _ _ _ _ _ _ _ (p.ex e1) k2) fun x y _ _ Hb v u H1 e1 e2 hx hy => cmp_ok (p.al.ex e1) hx hy op
      refine EvT.mono (fun H Q h => WT_of (pt_cmpR op' pe_W pe_W hm) h) ?_
      refine evv (t := fun x H' Q => ∃ k, x = V.bl k ∧ Q k H') r2 (fun x b hx hf Hb v H1 e1 e2 hv Q q => ?_) (fun x hx cc vs hf => ?_)
      · have : ∃ k, x.d = .bl k := by
          simp only [ev] at hx
          cases ra : ev c a ρ <;> rw [ra] at hx <;> simp only [Res.bnd_ok, Res.bnd_exc, Res.bnd_bad] at hx <;> try cases hx
          cases rb : ev c ‹E› ρ <;> rw [rb] at hx <;> simp only [Res.bnd_ok, Res.bnd_exc, Res.bnd_bad] at hx <;> try cases hx
          rename_i y z
          cases rc : cmpR op y.d z.d <;> rw [rc] at hx <;> simp only [Res.of_some, Res.of_none, Res.bnd_ok, Res.bnd_bad] at hx <;> try cases hx
          exact ⟨_, rfl⟩
        obtain ⟨k, hk⟩ := this
        rw [hk] at hf
        simp only [truR, Res.of_some, Res.ok.injEq] at hf
        subst hf
        exact ⟨k, hv.bl (p.al.ex e1) hk, q⟩
      · cases ht : truR x.d <;> rw [ht] at hf <;> cases hf
    · cases ok
  · unfold okE at ok
    simp only at ok
    cases ok
theorem evt_bool {te : TE} {r : Res Vl} (al : Al H (A ++ C)) (ha : EvR w A C W te σ H r) (hb : ∀ x, r = .ok x → ∃ k, x.d = .bl k) : EvT w A C W (tTest te) σ H (r.bnd fun x => Res.of (truR x.d)) := by
  refine evv (t := fun x H' Q => ∃ k, x = V.bl k ∧ Q k H') ha (fun x b hx hf Hb v H1 e1 e2 hv Q q => ?_) (fun x hx cc vs hf => ?_)
  · obtain ⟨k, hk⟩ := hb x hx
    rw [hk] at hf
    simp only [truR, Res.of_some, Res.ok.injEq] at hf
    subst hf
    exact ⟨k, hv.bl (al.ex e1) hk, q⟩
  · cases ht : truR x.d <;> rw [ht] at hf <;> cases hf
theorem bnd_okb {r : Res Vl} {f : Vl → Res Vl} (h : ∀ x y, f x = .ok y → ∃ k, y.d = .bl k) : ∀ y, r.bnd f = .ok y → ∃ k, y.d = .bl k := fun y e => by
  cases r with
  | ok x => exact h x y e
  | exc _ _ => cases e
  | bad => cases e
theorem of_okb {o : Option Bool} : ∀ y, (Res.of o).bnd okB = .ok y → ∃ k, y.d = .bl k := fun y e => by
  cases o with
  | none => cases e
  | some b => cases e; exact ⟨_, rfl⟩
theorem EvR.mono' {te te' : TE} {r : Res Vl} (h : ∀ H1 Q, Ex H H1 → te σ H1 Q → te' σ H1 Q) (e : EvR w A C W te σ H r) : EvR w A C W te' σ H r := by
  cases r with
  | ok x => exact fun H1 e1 Q q => h _ _ e1 (e H1 e1 Q q)
  | exc c vs => exact fun H1 e1 Q q => h _ _ e1 (e H1 e1 Q q)
  | bad => trivial
theorem cmp2_core (o1 o2 : Cop) {a b e : E} (ha : SE c w lv a) (hb : SE c w lv b) (he : SE c w lv e) {a' b' e' : Expr} (p : Pt c w lv X W A C σ H ρ) (k1 : okE c X.env.scope a a' = true) (k2 : okE c X.env.scope b b' = true) (k3 : okE c X.env.scope e e' = true) :
    EvR w A C W (tChain (rCmp w.K o1) (rCmp w.K o2) (tW X a') (tW X b') (tW X e')) σ H (ev c (.cmp2 o1 o2 a b e) ρ) := by
  simp only [ev]
  refine evb (t := fun x σ H1 Q => tW X b' σ H1 fun y H2 => rCmp w.K o1 x y H2 fun z H3 => ∃ k, z = .bl k ∧ (if k = true then tW X e' σ H3 fun w' H4 => rCmp w.K o2 y w' H4 Q else Q (.bl false) H3)) (ha _ _ _ _ _ _ _ _ p k1) fun x _ Hb v H1 e1 e2 hx => ?_
  have al1 := p.al.ex e1
  refine evb (t := fun y σ H2 Q => rCmp w.K o1 v y H2 fun z H3 => ∃ k, z = .bl k ∧ (if k = true then tW X e' σ H3 fun w' H4 => rCmp w.K o2 y w' H4 Q else Q (.bl false) H3)) (hb _ _ _ _ _ _ _ _ (p.ex (e1.trans e2)) k2) fun y _ Hc u H2 e3 e4 hy => ?_
  have al2 := p.al.ex ((e1.trans e2).trans e3)
  have e5 := e3.trans e4
  cases hk : cmpR o1 x.d y.d with
  | none => trivial
  | some k =>
    simp only [Res.of_some, Res.bnd_ok]
    cases k with
    | false =>
      intro H3 e6 Q q
      exact cmpR_ok ((hx.ex (e5.trans e6)).rq al1) ((hy.ex e6).rq al2) o1 hk ⟨false, rfl, q _ _ (Ex.refl _) VAt.b⟩
    | true =>
      simp only [if_true]
      have p3 := p.ex ((e1.trans e2).trans e5)
      refine EvR.mono' (te := fun σ H3 Q => tW X e' σ H3 fun w' H4 => rCmp w.K o2 u w' H4 Q) (fun H3 Q e6 q => ?_) ?_
      · exact cmpR_ok ((hx.ex (e5.trans e6)).rq al1) ((hy.ex e6).rq al2) o1 hk ⟨true, rfl, q⟩
      · exact ev1 (g := fun w' H4 Q => rCmp w.K o2 u w' H4 Q) (he _ _ _ _ _ _ _ _ p3 k3) fun z _ Hd u' H4 e6 e7 hz => op_of fun b hb => op_b fun Q q => cmpR_ok ((hy.ex (e6.trans e7)).rq al2) (hz.rq (p3.al.ex e6)) o2 hb q
theorem s_cmp2 (o1 o2 : Cop) {a b e : E} (ha : SE c w lv a) (hb : SE c w lv b) (he : SE c w lv e) : S3 c w lv (.cmp2 o1 o2 a b e) := by
  refine ⟨fun x X W A C σ H ρ p ok => ?_, fun x X W A C σ H ρ p ok => ?_, fun o es pos X W A C σ H ρ p ok => ?_⟩
  · unfold okE at ok
    split at ok
    · rename_i a' p1 p2 b' e' pos
      simp only [Bool.and_eq_true, decide_eq_true_eq, Bool.not_eq_true'] at ok
      obtain ⟨⟨⟨⟨⟨rfl, rfl⟩, hm⟩, k1⟩, k2⟩, k3⟩ := ok
      have q1 : OpR X (compareOp o1.py) (rCmp w.K o1) := p.good.K ▸ op_cmp p.good.units o1
      have q2 : OpR X (compareOp o2.py) (rCmp w.K o2) := p.good.K ▸ op_cmp p.good.units o2
      exact EvR.mono (fun H Q h => W_of (pe_chain q1 q2 pe_W pe_W pe_W hm) h) (cmp2_core o1 o2 ha hb he p k1 k2 k3)
    · cases ok
  · simp only [evT]
    unfold okE at ok
    split at ok
    · rename_i a' p1 p2 b' e' pos
      simp only [Bool.and_eq_true, decide_eq_true_eq, Bool.not_eq_true'] at ok
      obtain ⟨⟨⟨⟨⟨rfl, rfl⟩, hm⟩, k1⟩, k2⟩, k3⟩ := ok
      have q1 : OpR X (compareOp o1.py) (rCmp w.K o1) := p.good.K ▸ op_cmp p.good.units o1
      have q2 : OpR X (compareOp o2.py) (rCmp w.K o2) := p.good.K ▸ op_cmp p.good.units o2
      refine EvT.mono (fun H Q h => WT_of (pt_chain q1 q2 pe_W pe_W pe_W hm) h) (evt_bool p.al (cmp2_core o1 o2 ha hb he p k1 k2 k3) ?_)
      simp only [ev]
      refine bnd_okb fun x => bnd_okb fun y y' => ?_
      cases cmpR o1 x.d y.d with
      | none => exact fun h => by cases h
      | some k =>
        cases k with
        | false => exact fun h => by cases h; exact ⟨_, rfl⟩
        | true => exact bnd_okb (fun z => of_okb) y'
    · cases ok
  · unfold okE at ok
    simp only at ok
    cases ok
/-- and, or as values; k: what ends -/
theorem evb_and {ta tb : TE} {ra rb : Res Vl} (al : Al H (A ++ C)) (ha : EvR w A C W ta σ H ra) (hb : ∀ H1, Ex H H1 → EvR w A C W tb σ H1 rb) :
    EvR w A C W (tAndV ta tb) σ H (ra.bnd fun x => match x.d with | .bl k => if k then rb.bnd fun y => match y.d with | .bl l => okB l | _ => .bad else okB false | _ => .bad) := by
  refine evb (t := fun x σ H1 Q => ∃ c, x = V.bl c ∧ if c = true then tb σ H1 Q else Q (.bl false) H1) ha fun x _ Hb v H1 e1 e2 hx => ?_
  split
  · rename_i k hk
    cases hx.bl (al.ex e1) hk
    cases k with
    | false => exact fun H3 e3 Q q => ⟨false, rfl, q _ _ (Ex.refl _) VAt.b⟩
    | true =>
      simp only [if_true]
      have r := hb H1 (e1.trans e2)
      cases rb with
      | ok y =>
        simp only [Res.bnd_ok]
        split
        · rename_i l hl
          refine fun H3 e3 Q q => ⟨true, rfl, r H3 e3 Q fun v' H4 e4 h4 => ?_⟩
          cases h4.bl (al.ex ((e1.trans e2).trans e3)) hl
          exact q _ _ e4 VAt.b
        · trivial
      | exc _ _ => exact fun H3 e3 Q q => ⟨true, rfl, r H3 e3 Q q⟩
      | bad => trivial
  · trivial
theorem evb_or {ta tb : TE} {ra rb : Res Vl} (al : Al H (A ++ C)) (ha : EvR w A C W ta σ H ra) (hb : ∀ H1, Ex H H1 → EvR w A C W tb σ H1 rb) :
    EvR w A C W (tOrV ta tb) σ H (ra.bnd fun x => match x.d with | .bl k => if k then okB true else (rb.bnd fun y => match y.d with | .bl l => okB l | _ => .bad) | _ => .bad) := by
  refine evb (t := fun x σ H1 Q => ∃ c, x = V.bl c ∧ if c = true then Q (.bl true) H1 else tb σ H1 Q) ha fun x _ Hb v H1 e1 e2 hx => ?_
  split
  · rename_i k hk
    cases hx.bl (al.ex e1) hk
    cases k with
    | true => exact fun H3 e3 Q q => ⟨true, rfl, q _ _ (Ex.refl _) VAt.b⟩
    | false =>
      simp only [Bool.false_eq_true, if_false]
      have r := hb H1 (e1.trans e2)
      cases rb with
      | ok y =>
        simp only [Res.bnd_ok]
        split
        · rename_i l hl
          refine fun H3 e3 Q q => ⟨false, rfl, r H3 e3 Q fun v' H4 e4 h4 => ?_⟩
          cases h4.bl (al.ex ((e1.trans e2).trans e3)) hl
          exact q _ _ e4 VAt.b
        · trivial
      | exc _ _ => exact fun H3 e3 Q q => ⟨false, rfl, r H3 e3 Q q⟩
      | bad => trivial
  · trivial
theorem s_and {a b : E} (ha : S3 c w lv a) (hb : S3 c w lv b) : S3 c w lv (.and a b) := by
  have hw : SW c w lv (.and a b) := fun o es pos X W A C σ H ρ p ok => by
    simp only [evT]
    unfold okE at ok
    split at ok
    · rename_i heq
      cases heq
      simp only [Bool.and_eq_true] at ok
      refine EvT.mono (fun H Q h => WW_of (pw_and pt_W (pw_and1 pt_W)) h) (evii (t := fun b σ H1 Q => if b = true then tWT X _ σ H1 Q else Q false H1) (ha.t _ _ _ _ _ _ _ _ p ok.1) fun k hk H1 e1 => ?_)
      cases k with
      | false => exact fun H3 e3 Q q => q H3 (Ex.refl _)
      | true => exact hb.t _ _ _ _ _ _ _ _ (p.ex e1) ok.2
    · rename_i heq
      cases heq
      simp only [Bool.and_eq_true] at ok
      refine EvT.mono (fun H Q h => WW_of (pw_and pt_W pw_W) h) (evii (t := fun b σ H1 Q => if b = true then tWW X _ σ H1 Q else Q false H1) (ha.t _ _ _ _ _ _ _ _ p ok.1) fun k hk H1 e1 => ?_)
      cases k with
      | false => exact fun H3 e3 Q q => q H3 (Ex.refl _)
      | true => exact hb.w _ _ _ _ _ _ _ _ _ _ (p.ex e1) ok.2
    · cases ok
  refine ⟨fun x X W A C σ H ρ p ok => ?_, fun x X W A C σ H ρ p ok => ?_, hw⟩
  · simp only [ev]
    unfold okE at ok
    split at ok
    · simp only [Bool.and_eq_true] at ok
      exact EvR.mono (fun H Q h => W_of (pe_and pe_W (pe_one pe_W)) h) (evb_and p.al (ha.v _ _ _ _ _ _ _ _ p ok.1) fun H1 e1 => hb.v _ _ _ _ _ _ _ _ (p.ex e1) ok.2)
    · simp only [Bool.and_eq_true] at ok
      exact EvR.mono (fun H Q h => W_of (pe_and pe_W pe_W) h) (evb_and p.al (ha.v _ _ _ _ _ _ _ _ p ok.1) fun H1 e1 => hb.v _ _ _ _ _ _ _ _ (p.ex e1) ok.2)
    · cases ok
  · have ok' := ok
    unfold okE at ok'
    split at ok'
    · exact EvT.mono (fun H Q h => WT_of pw_W.pt h) (hw _ _ _ _ _ _ _ _ _ _ p ok)
    · exact EvT.mono (fun H Q h => WT_of pw_W.pt h) (hw _ _ _ _ _ _ _ _ _ _ p ok)
    · cases ok'
theorem s_or {a b : E} (ha : S3 c w lv a) (hb : S3 c w lv b) : S3 c w lv (.or a b) := by
  have hw : SW c w lv (.or a b) := fun o es pos X W A C σ H ρ p ok => by
    simp only [evT]
    unfold okE at ok
    split at ok
    · rename_i heq
      cases heq
      simp only [Bool.and_eq_true] at ok
      refine EvT.mono (fun H Q h => WW_of (pw_or pt_W (pw_or1 pt_W)) h) (evii (t := fun b σ H1 Q => if b = true then Q true H1 else tWT X _ σ H1 Q) (ha.t _ _ _ _ _ _ _ _ p ok.1) fun k hk H1 e1 => ?_)
      cases k with
      | true => exact fun H3 e3 Q q => q H3 (Ex.refl _)
      | false => exact hb.t _ _ _ _ _ _ _ _ (p.ex e1) ok.2
    · rename_i heq
      cases heq
      simp only [Bool.and_eq_true] at ok
      refine EvT.mono (fun H Q h => WW_of (pw_or pt_W pw_W) h) (evii (t := fun b σ H1 Q => if b = true then Q true H1 else tWW X _ σ H1 Q) (ha.t _ _ _ _ _ _ _ _ p ok.1) fun k hk H1 e1 => ?_)
      cases k with
      | true => exact fun H3 e3 Q q => q H3 (Ex.refl _)
      | false => exact hb.w _ _ _ _ _ _ _ _ _ _ (p.ex e1) ok.2
    · cases ok
  refine ⟨fun x X W A C σ H ρ p ok => ?_, fun x X W A C σ H ρ p ok => ?_, hw⟩
  · simp only [ev]
    unfold okE at ok
    split at ok
    · simp only [Bool.and_eq_true] at ok
      exact EvR.mono (fun H Q h => W_of (pe_or pe_W (pe_one pe_W)) h) (evb_or p.al (ha.v _ _ _ _ _ _ _ _ p ok.1) fun H1 e1 => hb.v _ _ _ _ _ _ _ _ (p.ex e1) ok.2)
    · simp only [Bool.and_eq_true] at ok
      exact EvR.mono (fun H Q h => W_of (pe_or pe_W pe_W) h) (evb_or p.al (ha.v _ _ _ _ _ _ _ _ p ok.1) fun H1 e1 => hb.v _ _ _ _ _ _ _ _ (p.ex e1) ok.2)
    · cases ok
  · have ok' := ok
    unfold okE at ok'
    split at ok'
    · exact EvT.mono (fun H Q h => WT_of pw_W.pt h) (hw _ _ _ _ _ _ _ _ _ _ p ok)
    · exact EvT.mono (fun H Q h => WT_of pw_W.pt h) (hw _ _ _ _ _ _ _ _ _ _ p ok)
    · cases ok'
theorem s_not {a : E} (ha : S3 c w lv a) : S3 c w lv (.not a) := by
  refine ⟨fun x X W A C σ H ρ p ok => ?_, fun x X W A C σ H ρ p ok => ?_, fun o es pos X W A C σ H ρ p ok => ?_⟩
  · simp only [ev]
    unfold okE at ok
    split at ok
    · refine EvR.mono (fun H Q h => W_of (pe_not pe_W) h) (ev1 (g := fun x H1 Q => ∃ c, x = V.bl c ∧ Q (.bl (!c)) H1) (ha.v _ _ _ _ _ _ _ _ p ok) fun x _ Hb v H1 e1 e2 hx => ?_)
      split
      · rename_i k hk
        cases hx.bl (p.al.ex e1) hk
        exact op_b fun Q q => ⟨k, rfl, q⟩
      · exact op_bad
    · cases ok
  · simp only [evT]
    unfold okE at ok
    split at ok
    · exact EvT.mono (fun H Q h => WT_of (pt_not pt_W) h) (evii (t := fun b σ H1 Q => Q (!b) H1) (ha.t _ _ _ _ _ _ _ _ p ok) fun k hk H1 e1 => fun H3 e3 Q q => q H3 (Ex.refl _))
    · cases ok
  · unfold okE at ok
    simp only at ok
    cases ok
theorem s_ite {t a b : E} (ht : ST c w lv t) (ha : SE c w lv a) (hb : SE c w lv b) : S3 c w lv (.ite t a b) := by
  refine ⟨fun x X W A C σ H ρ p ok => ?_, fun x X W A C σ H ρ p ok => ?_, fun o es pos X W A C σ H ρ p ok => ?_⟩
  · simp only [ev]
    unfold okE at ok
    split at ok
    · simp only [Bool.and_eq_true] at ok
      refine EvR.mono (fun H Q h => W_of (pe_ifExp pt_W pe_W pe_W) h) (evi (t := fun b σ H1 Q => if b = true then tW X _ σ H1 Q else tW X _ σ H1 Q) (ht _ _ _ _ _ _ _ _ p ok.1.1) fun k hk H1 e1 => ?_)
      cases k with
      | true => exact ha _ _ _ _ _ _ _ _ (p.ex e1) ok.1.2
      | false => exact hb _ _ _ _ _ _ _ _ (p.ex e1) ok.2
    · cases ok
  · simp only [evT]
    trivial
  · unfold okE at ok
    simp only at ok
    cases ok
end
end Mi

set_option Elab.async false
set_option linter.all false
set_option maxRecDepth 100000
set_option maxHeartbeats 4000000
namespace Mi
open PySem PySem.Spec PyProof.Rows L2
section
variable {c : Cfg} {w : Wd} {lv : Nat} {X : Cx} {W : WX} {A C : List Addr} {σ : L2.St} {H H' H1 Hb : Hp} {ρ : Env} {vs : List V} {xs : List Vl} {ds : List D} {ts : List T}
/-- what is behind an argument list -/
theorem evab {ta : TA} {rs : Res (List Vl)} {f : List Vl → Res Vl} {t : List V → TE} (ha : EvA w A C W ta σ H rs)
    (hr : ∀ xs, rs = .ok xs → ∀ Hb vs H1, Ex H Hb → Ex Hb H1 → VAtL w A C Hb vs xs H1 → EvR w A C W (t vs) σ H1 (f xs)) :
    EvR w A C W (fun σ H Q => ta σ H fun vs H1 => t vs σ H1 Q) σ H (rs.bnd f) := by
  cases rs with
  | ok x =>
    rw [Res.bnd_ok]
    have k := hr x rfl
    cases hf : f x with
    | ok z =>
      intro H1 e1 Q q
      refine ha H1 e1 _ fun v H2 e2 h2 => ?_
      have := k H1 v H2 e1 e2 h2
      rw [hf] at this
      exact this H2 (Ex.refl H2) Q fun v' H3 e3 h3 => q v' H3 (e2.trans e3) (h3.base e2)
    | exc c vs =>
      intro H1 e1 Q q
      refine ha H1 e1 _ fun v H2 e2 h2 => ?_
      have := k H1 v H2 e1 e2 h2
      rw [hf] at this
      exact this H2 (Ex.refl H2) Q fun k dx H3 e3 h3 => q k dx H3 (e2.trans e3) h3
    | bad => trivial
  | exc c vs => exact fun H1 e1 Q q => ha H1 e1 _ q
  | bad => trivial
theorem EvA.mono {ta tb : TA} {r : Res (List Vl)} (h : ∀ H Q, ta σ H Q → tb σ H Q) (e : EvA w A C W ta σ H r) : EvA w A C W tb σ H r := by
  cases r with
  | ok x => exact fun H1 e1 Q q => h _ _ (e H1 e1 Q q)
  | exc c vs => exact fun H1 e1 Q q => h _ _ (e H1 e1 Q q)
  | bad => trivial
theorem sa_nil : SA c w lv [] := fun xs X W A C σ H ρ p ok => by
  unfold okEs at ok
  split at ok
  · simp only [evs, tWA]
    exact ea_nil
  · cases ok
theorem sa_cons {e : E} {es : List E} (he : SE c w lv e) (hs : SA c w lv es) : SA c w lv (e :: es) := fun xs X W A C σ H ρ p ok => by
  unfold okEs at ok
  split at ok
  · simp only [Bool.and_eq_true] at ok
    simp only [evs, tWA]
    exact ea_cons (he _ _ _ _ _ _ _ _ p ok.1) fun H1 e1 => hs _ _ _ _ _ _ _ _ (p.ex e1) ok.2
  · cases ok
theorem VAtL.shrs (al : Al Hb (A ++ C)) : ∀ {vs : List V} {xs : List Vl} {ds : List D}, VAtL w A C Hb vs xs H → optAll Vl.shr xs = some ds → RpL w (hide H (A ++ C)) vs ds
  | [], [], ds, _, h => by
    simp only [optAll, Option.some.injEq] at h
    rw [← h]
    simp only [RpL]
  | _ :: _, [], _, h, _ => by simp only [VAtL] at h
  | [], _ :: _, _, h, _ => by simp only [VAtL] at h
  | v :: vs, x :: xs, ds, h, s => by
    simp only [VAtL] at h
    simp only [optAll] at s
    split at s
    · rename_i d es h1 h2
      simp only [Option.some.injEq] at s
      rw [← s]
      simp only [RpL]
      exact ⟨h.1.shr al h1, VAtL.shrs al h.2 h2⟩
    · cases s
theorem s_tup {es : List E} (hs : SA c w lv es) : S3 c w lv (.tup es) := by
  refine .of (fun x X W A C σ H ρ p ok => ?_) (fun sc x h => ?_) fun ρ => by simp only [evT]
  · unfold okE at ok
    split at ok
    · simp only [Bool.and_eq_true] at ok
      simp only [ev]
      refine EvR.mono (fun H Q h => W_of (pe_tup (pa_W ok.1)) h) (eva (g := fun xs H1 Q => xs.length ≤ sizeLine ∧ ∀ p, H1 p = none → Q (.ref p) (upd H1 p (.tup xs))) (hs _ _ _ _ _ _ _ _ p ok.2) fun xs _ Hb vs H1 e1 e2 hx => ?_)
      refine op_of fun ds hd => op_iff fun hl => ?_
      have r := hx.shrs (p.al.ex e1) hd
      exact fun Q q => ⟨by rw [r.length]; exact hl, fun a n => q _ _ (Ex.new n) (VAt.tup (p.al.ex (e1.trans e2)) n r)⟩
    · cases ok
  · unfold okE at h
    split at h
    · rfl
    · cases h
theorem s_lst {es : List E} (hs : SA c w lv es) : S3 c w lv (.lst es) := by
  refine .of (fun x X W A C σ H ρ p ok => ?_) (fun sc x h => ?_) fun ρ => by simp only [evT]
  · unfold okE at ok
    split at ok
    · simp only [Bool.and_eq_true] at ok
      simp only [ev]
      refine EvR.mono (fun H Q h => W_of (pe_lst (pa_W ok.1)) h) (eva (g := fun xs H1 Q => xs.length ≤ sizeLine ∧ ∀ p, H1 p = none → Q (.ref p) (upd H1 p (.lst xs))) (hs _ _ _ _ _ _ _ _ p ok.2) fun xs _ Hb vs H1 e1 e2 hx => ?_)
      refine op_of fun ds hd => op_iff fun hl => ?_
      have r := hx.shrs (p.al.ex e1) hd
      exact fun Q q => ⟨by rw [r.length]; exact hl, fun a n => q _ _ (Ex.new n) (VAt.new e2 n r)⟩
    · cases ok
  · unfold okE at h
    split at h
    · rfl
    · cases h
theorem s_ix {a i : E} (ha : SE c w lv a) (hi : SE c w lv i) : S3 c w lv (.ix a i) := by
  have plain : ∀ {sc : Scope} {i' : Expr}, okE c sc i i' = true → PlainIx i' := fun {sc i'} h => by
    intro o j
    cases i' <;> first | rfl | skip
    cases i <;> (unfold okE at h; cases h)
  refine .of (fun x X W A C σ H ρ p ok => ?_) (fun sc x h => ?_) fun ρ => by simp only [evT]
  · unfold okE at ok
    split at ok
    · simp only [Bool.and_eq_true] at ok
      simp only [ev]
      have r : IxR X (rIx w.K) := p.good.K ▸ ix_seq
      exact EvR.mono (fun H Q h => W_of (pe_ix r pe_W pe_W (plain ok.2)) h) (ev2 (ha _ _ _ _ _ _ _ _ p ok.1) (fun x _ H1 e1 => hi _ _ _ _ _ _ _ _ (p.ex e1) ok.2) fun x y _ _ Hb v u H1 e1 e2 hx hy => ix_ok (p.al.ex e1) e2 hx hy)
    · cases ok
  · unfold okE at h
    split at h
    · rfl
    · cases h
/-- the ends of a slice -/
def EvO (w : Wd) (A C : List Addr) (W : WX) (to : TO) (σ : L2.St) (H : Hp) : Res (List Vl) → Prop
  | .ok xs => ∀ o, optI xs = some o → ∀ H1, Ex H H1 → ∀ Q : Option Int → Hp → Prop, (∀ H2, Ex H1 H2 → Q o H2) → to σ H1 Q
  | .exc c vs => ∀ H1, Ex H H1 → ∀ Q : Option Int → Hp → Prop, (∀ k dx H2, Ex H1 H2 → XAt w (A ++ C) H2 k dx c vs → W k dx σ H2) → to σ H1 Q
  | .bad => True
def tWO (X : Cx) : Option Expr → TO
  | none => tNoPart
  | some e => tPart (tW X e)
theorem po_W {o : Option Expr} : PO X o (tWO X o) := by
  cases o with
  | none => exact po_none
  | some e => exact po_some pe_W
def SO (c : Cfg) (w : Wd) (lv : Nat) (es : List E) : Prop := ∀ o X W A C σ H ρ, Pt c w lv X W A C σ H ρ → okO c X.env.scope es o = true → EvO w A C W (tWO X o) σ H (evs c es ρ)
theorem so_nil : SO c w lv [] := fun o X W A C σ H ρ p ok => by
  unfold okO at ok
  split at ok
  · simp only [evs, tWO]
    intro o' ho H1 e1 Q q
    simp only [optI, Option.some.injEq] at ho
    subst ho
    exact q H1 (Ex.refl _)
  · cases ok
theorem so_cons {e : E} {es : List E} (he : SE c w lv e) : SO c w lv (e :: es) := fun o X W A C σ H ρ p ok => by
  unfold okO at ok
  split at ok
  · simp only [Bool.and_eq_true, List.isEmpty_iff] at ok
    obtain ⟨k1, rfl⟩ := ok
    simp only [evs, tWO]
    have r := he _ _ _ _ _ _ _ _ p k1
    cases hr : ev c e ρ with
    | ok x =>
      rw [hr] at r
      simp only [Res.bnd_ok]
      intro o' ho H1 e1 Q q
      simp only [optI] at ho
      split at ho
      · rename_i i hi
        cases ho
        refine r H1 e1 _ fun v H2 e2 h2 => ?_
        cases h2.int (p.al.ex e1) hi
        exact ⟨i, rfl, q H2 e2⟩
      · cases ho
    | exc cc vs =>
      rw [hr] at r
      simp only [Res.bnd_exc]
      exact fun H1 e1 Q q => r H1 e1 _ q
    | bad => trivial
  · cases ok
theorem s_sl {a : E} {lo hi : List E} (ha : SE c w lv a) (hl : SO c w lv lo) (hh : SO c w lv hi) : S3 c w lv (.sl a lo hi) := by
  refine .of (fun x X W A C σ H ρ p ok => ?_) (fun sc x h => ?_) fun ρ => by simp only [evT]
  · unfold okE at ok
    split at ok
    · rename_i a' l' h' p2 pos
      simp only [Bool.and_eq_true] at ok
      simp only [ev]
      have r : SlR X (rSlX w.K) := p.good.K ▸ sl_x
      refine EvR.mono (fun H Q h => W_of (pe_slice r pe_W po_W po_W) h) (evb (t := fun x σ H1 Q => tWO X l' σ H1 fun l H2 => tWO X h' σ H2 fun u H3 => rSlX w.K x l u H3 Q) (ha _ _ _ _ _ _ _ _ p ok.1.1) fun x _ Hb v H1 e1 e2 hx => ?_)
      have rl := hl _ _ _ _ _ _ _ _ (p.ex (e1.trans e2)) ok.1.2
      cases hrl : evs c lo ρ with
      | bad => trivial
      | exc cc vs =>
        rw [hrl] at rl
        exact fun H2 e3 Q q => rl H2 e3 _ q
      | ok xl =>
        rw [hrl] at rl
        simp only [Res.bnd_ok]
        cases ho : optI xl with
        | none => trivial
        | some l =>
          simp only [Res.of_some, Res.bnd_ok]
          cases hrh : evs c hi ρ with
          | bad => trivial
          | exc cc vs =>
            intro H2 e3 Q q
            refine rl l ho H2 e3 _ fun H3 e4 => ?_
            have rh := hh _ _ _ _ _ _ _ _ (p.ex ((e1.trans e2).trans (e3.trans e4))) ok.2
            rw [hrh] at rh
            exact rh H3 (Ex.refl _) _ fun k dx H4 e5 h5 => q k dx H4 (e4.trans e5) h5
          | ok xh =>
            simp only [Res.bnd_ok]
            cases ho2 : optI xh with
            | none => trivial
            | some u =>
              simp only [Res.of_some, Res.bnd_ok]
              have k : ∀ H2 H4, Ex H1 H2 → Ex H2 H4 → OpOk w A C H2 H4 (rSlX w.K v l u) (slV x l u) := fun H2 H4 e3 e4 =>
                sl_ok (x := .bw x.rd) (p.al.ex (e1.trans (e2.trans e3))) e4 ((hx.rd (p.al.ex e1)).ex (e3.trans e4)) l u
              cases hz : slV x l u with
              | bad => trivial
              | exc cc vs =>
                have := k H1 H1 (Ex.refl _) (Ex.refl _)
                rw [hz] at this
                exact this.elim
              | ok z =>
                intro H2 e3 Q q
                refine rl l ho H2 e3 _ fun H3 e4 => ?_
                have rh := hh _ _ _ _ _ _ _ _ (p.ex ((e1.trans e2).trans (e3.trans e4))) ok.2
                rw [hrh] at rh
                refine rh u ho2 H3 (Ex.refl _) _ fun H4 e5 => ?_
                have := k H2 H4 e3 (e4.trans e5)
                rw [hz] at this
                exact this Q fun v' H5 e6 h6 => q v' H5 ((e4.trans e5).trans e6) h6
    · cases ok
  · unfold okE at h
    split at h
    · rfl
    · cases h
/-- an argument of a call, as the callee sees it -/
theorem VAt.arg {v : V} {x : Vl} (al : Al Hb (A ++ C)) (h : VAt w A C Hb v x H) : BwAt w H [] (A ++ C) v x.arg := by
  have h := h.rd al
  unfold Vl.arg
  split
  · rename_i d hd
    rw [hd] at h
    simpa only [BwAt, List.nil_append] using h
  · rename_i d hd
    rw [hd] at h
    simp only [BwAt] at h ⊢
    rw [hide_nil]
    exact h.ex hide_sub
  · rename_i ts hd
    rw [hd] at h
    have pl : (T.lst ts).plain = true := by
      simp only [BwAt] at h
      obtain ⟨_, _, _, _, _, q⟩ := h
      simpa only [T.plain] using q
    have r := h.rp pl
    simp only [BwAt]
    rw [hide_nil]
    simpa only [T.d] using r
  · rename_i ns hd
    rw [hd] at h
    simp only [BwAt] at h ⊢
    rw [hide_nil]
    obtain ⟨p, h1, h2⟩ := h
    exact ⟨p, h1, ex_l hide_sub h2⟩
theorem VAtL.arg (al : Al Hb (A ++ C)) : ∀ {vs : List V} {xs : List Vl}, VAtL w A C Hb vs xs H → BwAtL w H [] (A ++ C) vs (xs.map Vl.arg)
  | [], [], _ => by simp only [List.map_nil, BwAtL]
  | _ :: _, [], h => by simp only [VAtL] at h
  | [], _ :: _, h => by simp only [VAtL] at h
  | v :: vs, x :: xs, h => by
    simp only [VAtL] at h
    simp only [List.map_cons, BwAtL]
    exact ⟨h.1.arg al, VAtL.arg al h.2⟩
theorem pe_callS0 {CX : CXT} {k : Nat} {f : Addr} {fd : FuncData} {ps : List Str} {sp : Sp} {E : L2.St → XK} {x : Str} {p pos : Pos} (F : FnOk X.prog X.w X.K X.mg X.base CX k f fd ps sp) (hr : Room k X.A) (hg : Gl X x) (hm : X.mg x = some (.ref f))
    (hk : PySem.W.keepIn X.K (.ref f) = true) (hb : Binds X.K fd ps []) (hx : ∀ σ, PassesAt CX X σ (E σ)) (hdb : (x == ("__debug__" : Str)) = false) : PE X (.Call (.Name x p) [] [] pos) (tCallS sp E tNil) := by
  refine ⟨fun pins s σ H Q I h => ?_⟩
  refine wpAny_Call_Name_kw (ld_glob I hg hm ?_ hdb)
  exact PySem.W.callWith_K0 I.kIn hk (run_fnS (us := []) F hr hb (hx σ) I .nil h)
theorem star_pl {env : PySem.Env} {pos : Pos} {es : List Expr} (h : es.all noStar = true) : (backTo pos (starEach es env)).any (·.1) = false := star_any h
theorem s_call (f : Str) {es : List E} (hs : SA c w lv es) : S3 c w lv (.call f es) := by
  refine .of (fun x X W A C σ H ρ p ok => ?_) (fun sc x h => ?_) fun ρ => by simp only [evT]
  · unfold okE at ok
    split at ok
    · rename_i n np xs pos
      simp only [Bool.and_eq_true, decide_eq_true_eq] at ok
      obtain ⟨⟨⟨⟨rfl, k1⟩, k2⟩, k3⟩, k4⟩ := ok
      obtain ⟨g1, g2, g3⟩ := Gl_of k1
      simp only [ev]
      cases hf : c.fn f with
      | none =>
        rw [hf] at k4
        cases k4
      | some g =>
        simp only
        obtain ⟨a, fd, F, hm, hk, hb⟩ := p.good.funs f g hf
        have hx := fun σ => passAt p.tk σ
        have pe : PE X (.Call (.Name f np) xs [] pos) (tCallS (SpV w g.ps.length g.run) (WE W) (tWA X xs)) := by
          cases xs with
          | nil => exact pe_callS0 F p.good.room g1 hm hk hb hx g2
          | cons y ys =>
            have k2' := k2
            simp only [List.all_cons, Bool.and_eq_true] at k2'
            exact pe_callS F p.good.room g1 hm hk hb hx (pa_W k2) g2 (star_cons k2'.1) (star_pl k2'.2)
        refine EvR.mono (fun H Q h => W_of pe h) (evab (t := fun vs σ H1 Q => SpV w g.ps.length g.run vs H1 Q (WE W σ)) (hs _ _ _ _ _ _ _ _ p k3) fun xs _ Hb vs H1 e1 e2 hxs => ?_)
        unfold Res.iff
        split
        · rename_i hl
          have al1 := p.al.ex (e1.trans e2)
          have pre : ∀ H2, Ex H1 H2 → vs.length = g.ps.length ∧ Al H2 (A ++ C) ∧ BwAtL w H2 [] (A ++ C) vs (xs.map Vl.arg) := fun H2 e3 =>
            ⟨by rw [hxs.length]; exact hl, al1.ex e3, (hxs.ex e3).arg (p.al.ex e1)⟩
          cases hr : g.run (xs.map Vl.arg) with
          | bad => trivial
          | exc cc ds =>
            intro H2 e3 Q q
            obtain ⟨q1, q2, q3⟩ := pre H2 e3
            refine ⟨A ++ C, xs.map Vl.arg, q1, q2, q3, ?_⟩
            rw [hr]
            exact fun k dx H3 e4 h4 => q k dx H3 e4 h4
          | ok x =>
            simp only [Res.bnd_ok]
            have fin : (∀ H2 v H3, VAt w [] (A ++ C) H2 v x H3 → VAt w A C H2 v x H3) → EvR w A C W (fun σ H1 Q => SpV w g.ps.length g.run vs H1 Q (WE W σ)) σ H1 (.ok x) := fun e => by
              intro H2 e3 Q q
              obtain ⟨q1, q2, q3⟩ := pre H2 e3
              refine ⟨A ++ C, xs.map Vl.arg, q1, q2, q3, ?_⟩
              rw [hr]
              exact fun v H3 e4 h4 => q v H3 e4 (e _ _ _ h4)
            cases x with
            | fr t => exact fin fun _ _ _ h => h
            | bw t =>
              cases t with
              | sh d =>
                refine fin fun _ _ _ h => ?_
                have h : BwAt w _ [] (A ++ C) _ (.sh d) := h
                show BwAt w _ A C _ (.sh d)
                simpa only [BwAt, List.nil_append] using h
              | ro d => trivial
              | lst ts => trivial
              | scr ns => trivial
        · trivial
    · cases ok
  · unfold okE at h
    split at h
    · rfl
    · cases h
theorem boot_bi (b : Bi) : bootBuiltins b.nm = some b.py := by cases b <;> decide +kernel
theorem s_bi (b : Bi) {es : List E} (hs : SA c w lv es) : S3 c w lv (.bi b es) := by
  refine .of (fun x X W A C σ H ρ p ok => ?_) (fun sc x h => ?_) fun ρ => by simp only [evT]
  · unfold okE at ok
    split at ok
    · rename_i n np y ys pos
      simp only [Bool.and_eq_true] at ok
      obtain ⟨⟨k1, k2⟩, k3⟩ := ok
      obtain ⟨rfl, hm, g1, g2, g3⟩ := blt_of p.good k1
      simp only [ev]
      have k2' := k2
      simp only [List.all_cons, Bool.and_eq_true] at k2'
      have cr : CallR X b.py (rBi w.K b) := p.good.K ▸ call_bi p.good.calm b
      have bo := boot_bi b
      have pe : PE X (.Call (.Name b.nm np) (y :: ys) [] pos) (tCB (rBi w.K b) (tWA X (y :: ys))) := by
        unfold Bi.py at cr bo
        split at cr
        · rename_i T hT
          rw [hT] at bo
          exact pe_callTy cr g1 hm bo (pa_W k2) g3 g2 (star_cons k2'.1) (star_pl k2'.2)
        · rename_i hT
          rw [hT] at bo
          exact pe_callB cr g1 hm bo (pa_W k2) g3 g2 (star_cons k2'.1) (star_pl k2'.2)
      exact EvR.mono (fun H Q h => W_of pe h) (eva (g := fun vs H1 Q => rBi w.K b vs H1 Q) (hs _ _ _ _ _ _ _ _ p k3) fun xs _ Hb vs H1 e1 e2 hx => bi_ok (p.al.ex e1) e2 hx b)
    · cases ok
  · unfold okE at h
    split at h
    · rfl
    · cases h
/-! the names of types -/
def tTys : List Ty → TA
  | [] => tNil
  | t :: ts => tCons (tC (.ty t.nm)) (tTys ts)
theorem boot_ty (t : Ty) (h : t ≠ .non) : bootBuiltins t.nm = some (.type t.nm) := by cases t <;> first | exact absurd rfl h | decide +kernel
theorem pa_tys (g : Good c w lv X) : ∀ {cs : List Ty} {ts : List Expr}, tyNames c X.env.scope cs ts = true → PA X ts (tTys cs)
  | [], [], _ => pa_nil
  | t :: cs, e :: ts, h => by
    cases e <;> simp only [tyNames] at h <;> first | cases h | skip
    simp only [Bool.and_eq_true, decide_eq_true_eq] at h
    obtain ⟨rfl, hm, g1, g2, g3⟩ := blt_of g h.1.1
    exact pa_cons (pe_bltn g1 hm (boot_ty t h.1.2) (show RelV (.ty t.nm) (.type t.nm) from rfl) g3 g2) (pa_tys g h.2) rfl
  | [], _ :: _, h => by simp only [tyNames] at h; cases h
  | _ :: _, [], h => by simp only [tyNames] at h; cases h
theorem tys_run : ∀ {cs : List Ty} {Q : List V → Hp → Prop}, Q (cs.map fun t => V.ty t.nm) H → tTys cs σ H Q
  | [], _, q => q
  | t :: cs, Q, q => by
    show tTys cs σ H fun vs H2 => Q (V.ty t.nm :: vs) H2
    exact tys_run q
theorem tys_cls : ∀ cs : List Ty, Paired ClsV (cs.map fun t => V.ty t.nm) (cs.map fun t => Value.type t.nm)
  | [] => .nil
  | t :: cs => .cons (.ty t.nm) (tys_cls cs)
theorem s_isi {a : E} (cs : List Ty) (many : Bool) (ha : SE c w lv a) : S3 c w lv (.isi a cs many) := by
  have bo : bootBuiltins "isinstance" = some (.builtin "isinstance") := by decide +kernel
  refine .of (fun x X W A C σ H ρ p ok => ?_) (fun sc x h => ?_) fun ρ => by simp only [evT]
  · unfold okE at ok
    split at ok
    · rename_i n np a' ts k tp pos
      simp only [Bool.and_eq_true] at ok
      obtain ⟨⟨⟨⟨⟨⟨k0, k00⟩, k1⟩, k2⟩, k3⟩, k4⟩, k5⟩ := ok
      obtain ⟨rfl, hm, g1, g2, g3⟩ := blt_of p.good k1
      simp only [ev]
      have pe : PE X (.Call (.Name "isinstance" np) [a', .Tuple ts k tp] [] pos) (tCB (rIsiT w.K) (tCons (tW X a') (tCons (tTup (tTys cs)) tNil))) :=
        pe_callB (p.good.K ▸ call_isiT) g1 hm bo (pa_cons pe_W (pa_cons (pe_tup (pa_tys p.good k5)) pa_nil rfl) (star_cons k2)) g3 g2 (star_cons k2) rfl
      refine EvR.mono (fun H Q h => W_of pe h) (ev1 (g := fun v H1 Q => (tCons (tTup (tTys cs)) tNil) σ H1 fun vs H2 => rIsiT w.K (v :: vs) H2 Q) (ha _ _ _ _ _ _ _ _ p k4) fun x _ Hb v H1 e1 e2 hx => ?_)
      split
      · rename_i t ht
        intro Q q
        show tTys cs σ _ fun xs H1 => xs.length ≤ sizeLine ∧ ∀ p, H1 p = none → rIsiT w.K [v, .ref p] (upd H1 p (.tup xs)) Q
        refine tys_run ⟨?_, fun tp n => ?_⟩
        · have : cs.length ≤ 99 := by simpa using k00
          rw [List.length_map, sizeLine_eq]
          omega
        · refine ⟨v, tp, _, .type t.nm, _, _, rfl, upd_same, tys_cls cs, ty_x ((hx.ex (Ex.new n)).rq (p.al.ex e1)) ht, kitAny_tys t cs, q _ _ (Ex.new n) VAt.b⟩
      · exact op_bad
    · rename_i n np a' t tp pos
      simp only [Bool.and_eq_true] at ok
      obtain ⟨⟨⟨⟨k0, k1⟩, k2⟩, k4⟩, k5⟩ := ok
      obtain ⟨rfl, hm, g1, g2, g3⟩ := blt_of p.good k1
      simp only [ev]
      have pe : PE X (.Call (.Name "isinstance" np) [a', .Name t tp] [] pos) (tCB (rIsi w.K) (tCons (tW X a') (tTys cs))) :=
        pe_callB (p.good.K ▸ call_isi) g1 hm bo (pa_cons pe_W (pa_tys p.good k5) (star_cons k2)) g3 g2 (star_cons k2) rfl
      refine EvR.mono (fun H Q h => W_of pe h) (ev1 (g := fun v H1 Q => (tTys cs) σ H1 fun vs H2 => rIsi w.K (v :: vs) H2 Q) (ha _ _ _ _ _ _ _ _ p k4) fun x _ Hb v H1 e1 e2 hx => ?_)
      split
      · rename_i ty ht
        intro Q q
        refine tys_run ?_
        match cs, k5 with
        | [c0], k5 =>
          refine ⟨v, .ty c0.nm, .type ty.nm, .type c0.nm, _, rfl, .ty _, ty_x (hx.rq (p.al.ex e1)) ht, kit_ty (kit_all ty c0), q _ _ (Ex.refl _) ?_⟩
          simp only [List.any_cons, List.any_nil, Bool.or_false]
          exact VAt.b
        | [], k5 => simp only [tyNames] at k5; cases k5
        | _ :: _ :: _, k5 => simp only [tyNames, Bool.and_eq_true] at k5; exact absurd k5.2 (by simp)
      · exact op_bad
    · cases ok
  · unfold okE at h
    split at h
    · rfl
    · rfl
    · cases h
end
end Mi

set_option Elab.async false
set_option linter.all false
set_option maxRecDepth 100000
set_option maxHeartbeats 4000000
namespace Mi
open PySem PySem.Spec PyProof.Rows L2
/-! ### what is walked -/
def iW (X : Cx) (tg iter : Expr) : TI := fun σ H R => ∀ pins s, Inv X pins σ H s → wpAny (model X.prog X.w) X.A (eval iter X.env) (fun v s1 => wpAny (model X.prog X.w) X.A (pyIter v) (PIE X pins σ tg R) X.xe s1) X.xe s
section
variable {X : Cx} {tg iter : Expr}
theorem pi_W : PI X tg iter (iW X tg iter) := ⟨fun pins s σ H R I h => h pins s I⟩
theorem iW_of {wi : TI} (h : PI X tg iter wi) {σ : L2.St} {H : Hp} {R : It → Hp → Prop} (q : wi σ H R) : iW X tg iter σ H R := fun pins s I => h.run pins s σ H R I q
end
def SrcR (w : Wd) (A C : List Addr) (W : WX) (wi : TI) (σ : L2.St) (H : Hp) (st : Bool) : Res (List T) → Prop
  | .ok ts => ∀ H1, Ex H H1 → ∀ R : It → Hp → Prop, (∀ J H2, Ex H1 H2 → JOk w C (Lat C H2 A st) J ts → R J H2) → wi σ H1 R
  | .exc c vs => ∀ H1, Ex H H1 → ∀ R : It → Hp → Prop, (∀ k dx H2, Ex H1 H2 → XAt w (A ++ C) H2 k dx c vs → W k dx σ H2) → wi σ H1 R
  | .bad => True
def SS (c : Cfg) (w : Wd) (lv : Nat) (es : List E) : Prop := ∀ k tg x X W A C σ H ρ, Pt c w lv X W A C σ H ρ → okSrc c X.env.scope k es tg x = true → ∀ st : Bool, (∀ xs, evs c es ρ = .ok xs → st = true → xs.all (fun x => x.rd.still) = true) →
  SrcR w A C W (iW X tg x) σ H st ((evs c es ρ).bnd (srcV k))
section
variable {c : Cfg} {w : Wd} {lv : Nat} {X : Cx} {W : WX} {A C : List Addr} {σ : L2.St} {H H' H1 Hb : Hp} {ρ : Env} {vs : List V} {xs : List Vl} {ds : List D} {ts : List T}
/-- one operand, then an iterator -/
theorem src1 {te : TE} {wi : TI} {r : Res Vl} {f : Vl → Res (List T)} {st : Bool} (al : Al H (A ++ C)) (hr : EvR w A C W te σ H r) (hf : ∀ x cc vs, f x ≠ .exc cc vs)
    (hw : ∀ x ts, r = .ok x → f x = .ok ts → ∃ g : V → Hp → (It → Hp → Prop) → Prop, (∀ H R, te σ H (fun v H1 => g v H1 R) → wi σ H R) ∧
      ∀ v H2 R, Al H2 (A ++ C) → BwAt w H2 A C v x.rd → (∀ J, JOk w C (Lat C H2 A st) J ts → R J H2) → g v H2 R)
    (hx : ∀ cc vs, r = .exc cc vs → ∃ g : V → Hp → (It → Hp → Prop) → Prop, (∀ H R, te σ H (fun v H1 => g v H1 R) → wi σ H R)) : SrcR w A C W wi σ H st (r.bnd f) := by
  cases r with
  | bad => trivial
  | exc cc vs =>
    obtain ⟨g, hg⟩ := hx cc vs rfl
    exact fun H1 e1 R q => hg _ _ (hr H1 e1 _ q)
  | ok x =>
    simp only [Res.bnd_ok]
    cases hfx : f x with
    | bad => trivial
    | exc cc vs => exact absurd hfx (hf x cc vs)
    | ok ts =>
      obtain ⟨g, hg, hj⟩ := hw x ts rfl hfx
      refine fun H1 e1 R q => hg _ _ (hr H1 e1 _ fun v H2 e2 h2 => ?_)
      exact hj v H2 R (al.ex (e1.trans e2)) (h2.rd (al.ex e1)) fun J hJ => q J H2 e2 hJ
theorem of_exc {α : Type} {o : Option α} {cc : Str} {vs : List D} : Res.of o ≠ .exc cc vs := by
  cases o <;> intro h <;> cases h
theorem iff_exc {α : Type} {p : Prop} {r : Res α} {cc : Str} {vs : List D} (h : r ≠ .exc cc vs) : Res.iff p r ≠ .exc cc vs := by
  unfold Res.iff
  split
  · exact h
  · intro z; cases z
theorem srcV_exc {k : Src} {xs : List Vl} {cc : Str} {vs : List D} : srcV k xs ≠ .exc cc vs := by
  unfold srcV
  intro h
  split at h
  · exact of_exc h
  · split at h <;> cases h
  · split at h
    · exact iff_exc (by intro z; cases z) h
    · cases h
  · split at h
    · exact iff_exc (by intro z; cases z) h
    · cases h
  · split at h
    · exact of_exc h
    · rename_i x _ _
      cases hx : x.rd.kids with
      | none => rw [hx] at h; cases h
      | some ks => rw [hx] at h; exact of_exc h
  · cases h
theorem evs_one {e : E} : (evs c [e] ρ).bnd (srcV k) = (ev c e ρ).bnd fun x => srcV k [x] := by
  simp only [evs]
  cases ev c e ρ <;> rfl
theorem kids_d {t : T} (h : t.kids = some ts) : t.d = .lst (T.ds ts) ∨ t.d = .tup (T.ds ts) := by
  cases t with
  | sh d =>
    simp only [T.kids, Option.map_eq_some_iff] at h
    obtain ⟨ds, h1, rfl⟩ := h
    rw [T.ds_sh, T.d]
    exact D.its_some h1
  | ro d =>
    simp only [T.kids, Option.map_eq_some_iff] at h
    obtain ⟨ds, h1, rfl⟩ := h
    rw [T.ds_ro, T.d]
    exact D.its_some h1
  | lst us =>
    simp only [T.kids, Option.some.injEq] at h
    subst h
    exact .inl (by rw [T.d])
  | scr ns =>
    simp only [T.kids, Option.some.injEq] at h
    subst h
    exact .inl (by rw [T.ds_sh, T.d])
/-- the sequence that is walked stays -/
theorem seq_lat {t : T} {st : Bool} {a : Addr} (h : BwAt w H A C (.ref a) t) (hk : t.kids = some ts) (l : Lat C H A st H' A') (hs : st = true → t.still = true) :
    ∃ vs, KqAt w H' a vs t.d ∧ BwAtL w H' A' C vs ts := by
  obtain ⟨a', vs, e, h1, h2, _⟩ := (h.lat l hs).kids hk
  cases e
  exact ⟨vs, h1, h2⟩
theorem lat_al {st : Bool} (l : Lat C H A st H' A') : Al H' (A' ++ C) := l.1
theorem ss_cons {e : E} {es : List E} (he : SE c w lv e) (hs : SA c w lv es) : SS c w lv (e :: es) := by
  intro k tg x X W A C σ H ρ p ok st hst
  unfold okSrc at ok
  cases k with
  | seq =>
    simp only [Bool.and_eq_true, List.isEmpty_iff] at ok
    obtain ⟨rfl, k1⟩ := ok
    rw [evs_one]
    refine src1 (te := tW X x) p.al (he _ _ _ _ _ _ _ _ p k1) (fun _ _ _ => srcV_exc) (fun y ts hy hf => ?_) fun _ _ _ => ⟨fun v H1 R => ∃ a, v = .ref a ∧ (∃ xs, SqL X.K H1 a xs) ∧ R (Itl X.K a) H1, fun H R h => iW_of (pi_list pe_W) h⟩
    have hst : st = true → y.rd.still = true := fun z => by
      have := hst [y] (by simp only [evs]; rw [hy]; rfl) z
      simpa using this
    simp only [srcV] at hf
    cases hk : y.rd.kids with
    | none => rw [hk] at hf; cases hf
    | some us =>
      rw [hk] at hf
      simp only [Res.of_some, Res.ok.injEq] at hf
      subst hf
      have hd : y.rd.d = .lst (T.ds us) ∨ y.rd.d = .tup (T.ds us) := kids_d hk
      rcases hd with hd | hd
      · refine ⟨fun v H1 R => ∃ a, v = .ref a ∧ (∃ xs, SqL X.K H1 a xs) ∧ R (Itl X.K a) H1, fun H R h => iW_of (pi_list pe_W) h, fun v H2 R al hb q => ?_⟩
        obtain ⟨a, vs, rfl, h1, h2, _⟩ := hb.kids hk
        rw [hd] at h1
        rw [p.good.K]
        refine ⟨a, rfl, ⟨vs, h1⟩, q _ (jok_list fun H' A' l => ?_)⟩
        obtain ⟨vs', q1, q2⟩ := seq_lat hb hk l hst
        rw [hd] at q1
        exact ⟨vs', q1, q2⟩
      · refine ⟨fun v H1 R => ∃ a, v = .ref a ∧ (∃ xs, SqT X.K H1 a xs) ∧ R (Itt X.K a) H1, fun H R h => iW_of (pi_tup pe_W) h, fun v H2 R al hb q => ?_⟩
        obtain ⟨a, vs, rfl, h1, h2, _⟩ := hb.kids hk
        rw [hd] at h1
        rw [p.good.K]
        refine ⟨a, rfl, ⟨vs, h1⟩, q _ (jok_tup fun H' A' l => ?_)⟩
        obtain ⟨vs', q1, q2⟩ := seq_lat hb hk l hst
        rw [hd] at q1
        exact ⟨vs', q1, q2⟩
  | txt =>
    simp only [Bool.and_eq_true, List.isEmpty_iff] at ok
    obtain ⟨rfl, k1⟩ := ok
    rw [evs_one]
    refine src1 (te := tW X x) p.al (he _ _ _ _ _ _ _ _ p k1) (fun _ _ _ => srcV_exc) (fun y ts hy hf => ?_) fun _ _ _ => ⟨fun v H1 R => ∃ z, v = .str z ∧ R (Its z) H1, fun H R h => iW_of (pi_str pe_W) h⟩
    simp only [srcV] at hf
    split at hf
    · rename_i z hz
      cases hf
      refine ⟨fun v H1 R => ∃ z, v = .str z ∧ R (Its z) H1, fun H R h => iW_of (pi_str pe_W) h, fun v H2 R al hb q => ?_⟩
      have := hb.rq
      rw [show y.rd.d = .str z from hz] at this
      exact ⟨z, rp_s this, q _ jok_txt⟩
    · cases hf
  | rng1 =>
    simp only at ok
    split at ok
    · rename_i n np x' pos
      simp only [Bool.and_eq_true, List.isEmpty_iff] at ok
      obtain ⟨⟨⟨rfl, k0⟩, k1⟩, k2⟩ := ok
      obtain ⟨rfl, hm, g1, g2, g3⟩ := blt_of p.good k0
      rw [evs_one]
      have pi : PI X tg (.Call (.Name "range" np) [x'] [] pos) (iRng1 (tCons (tW X x') tNil)) := pi_range1 g1 hm (pa_cons pe_W pa_nil (star_cons k1)) (star_cons k1)
      refine src1 (te := tW X x') p.al (he _ _ _ _ _ _ _ _ p k2) (fun _ _ _ => srcV_exc) (fun y ts hy hf => ?_) fun _ _ _ => ⟨fun v H1 R => ∃ j : Int, [v] = [V.int j] ∧ -(2 ^ 62) ≤ j ∧ j < 2 ^ 62 ∧ R (Itr 0 j.toNat) H1, fun H R h => iW_of pi h⟩
      simp only [srcV] at hf
      split at hf
      · rename_i j hj
        unfold Res.iff at hf
        split at hf
        · rename_i sm
          cases hf
          refine ⟨fun v H1 R => ∃ j : Int, [v] = [V.int j] ∧ -(2 ^ 62) ≤ j ∧ j < 2 ^ 62 ∧ R (Itr 0 j.toNat) H1, fun H R h => iW_of pi h, fun v H2 R al hb q => ?_⟩
          have := hb.rq
          rw [show y.rd.d = .int j from hj] at this
          exact ⟨j, by rw [rp_i this], sm.1, sm.2, q _ jok_rng⟩
        · cases hf
      · cases hf
    · cases ok
  | rng2 =>
    simp only at ok
    split at ok
    · rename_i n np x' y' pos
      simp only [Bool.and_eq_true] at ok
      obtain ⟨⟨⟨⟨k0, k1⟩, k2⟩, k3⟩, k4⟩ := ok
      obtain ⟨rfl, hm, g1, g2, g3⟩ := blt_of p.good k0
      have pi : PI X tg (.Call (.Name "range" np) [x', y'] [] pos) (iRng2 (tCons (tW X x') (tCons (tW X y') tNil))) :=
        pi_range2 g1 hm (pa_cons pe_W (pa_cons pe_W pa_nil (star_cons k2)) (star_cons k1)) (by rw [star_cons k1, star_cons k2]; rfl) (star_cons k2)
      have k34 : okEs c X.env.scope (e :: es) [x', y'] = true := by
        unfold okEs
        simp only [Bool.and_eq_true]
        exact ⟨k3, k4⟩
      have r := sa_cons he hs _ _ _ _ _ _ _ _ p k34
      cases hr : evs c (e :: es) ρ with
      | bad => trivial
      | exc cc vs =>
        rw [hr] at r
        exact fun H1 e1 R q => iW_of pi (r H1 e1 _ q)
      | ok xs =>
        rw [hr] at r
        simp only [Res.bnd_ok]
        cases hz : srcV .rng2 xs with
        | bad => trivial
        | exc cc vs => exact absurd hz srcV_exc
        | ok ts =>
          intro H1 e1 R q
          refine iW_of pi (r H1 e1 _ fun vs H2 e2 h2 => ?_)
          match xs, hz, h2 with
          | [], hz, _ => cases hz
          | [_], hz, _ => cases hz
          | _ :: _ :: _ :: _, hz, _ => cases hz
          | [u1, u2], hz, h2 =>
            simp only [srcV] at hz
            split at hz
            · rename_i i j hi hj
              unfold Res.iff at hz
              split at hz
              · rename_i sm
                cases hz
                obtain ⟨v, u, rfl, hv, hu⟩ := vatL2 h2
                cases hv.int (p.al.ex e1) hi
                cases hu.int (p.al.ex e1) hj
                exact ⟨i, j, rfl, ⟨sm.1.1, sm.1.2, sm.2.1, sm.2.2⟩, q _ H2 e2 jok_rng⟩
              · cases hz
            · cases hz
    · cases ok
  | enum =>
    simp only at ok
    split at ok
    · rename_i elts kk tpos n np x' pos
      simp only [Bool.and_eq_true, List.isEmpty_iff] at ok
      obtain ⟨⟨⟨rfl, k0⟩, k1⟩, k2⟩ := ok
      obtain ⟨rfl, hm, g1, g2, g3⟩ := blt_of p.good k0
      rw [evs_one]
      have piL : PI X (.Tuple elts kk tpos) (.Call (.Name "enumerate" np) [x'] [] pos) (iEnum X.K (tCons (tW X x') tNil)) := pi_enum g1 hm (pa_cons pe_W pa_nil (star_cons k1)) (star_cons k1)
      have piX : PI X (.Tuple elts kk tpos) (.Call (.Name "enumerate" np) [x'] [] pos) (iEnumX X.K (tW X x')) := pi_enumX g1 hm pe_W (star_cons k1)
      refine src1 (te := tW X x') p.al (he _ _ _ _ _ _ _ _ p k2) (fun _ _ _ => srcV_exc) (fun y ts hy hf => ?_) fun _ _ _ => ⟨fun v H1 R => (∃ a xs, v = V.ref a ∧ SqT X.K H1 a xs ∧ R (IteT X.K a) H1) ∨ (∃ z, v = V.str z ∧ R (IteS z) H1), fun H R h => iW_of piX h⟩
      have hst : st = true → y.rd.still = true := fun z => by
        have := hst [y] (by simp only [evs]; rw [hy]; rfl) z
        simpa using this
      simp only [srcV] at hf
      split at hf
      · rename_i z hz
        cases he' : enumT 0 (z.cps.toList.map fun c => T.sh (.str ⟨#[c]⟩)) with
        | none => rw [he'] at hf; cases hf
        | some us =>
          rw [he'] at hf
          cases hf
          refine ⟨fun v H1 R => (∃ a xs, v = V.ref a ∧ SqT X.K H1 a xs ∧ R (IteT X.K a) H1) ∨ (∃ z, v = V.str z ∧ R (IteS z) H1), fun H R h => iW_of piX h, fun v H2 R al hb q => ?_⟩
          have := hb.rq
          rw [show y.rd.d = .str z from hz] at this
          exact .inr ⟨z, rp_s this, q _ (jok_enumS he' fun H' A' l => l.1)⟩
      · cases hk : y.rd.kids with
        | none => rw [hk] at hf; cases hf
        | some ks =>
          rw [hk] at hf
          simp only [Res.of_some, Res.bnd_ok] at hf
          cases he' : enumT 0 ks with
          | none => rw [he'] at hf; cases hf
          | some us =>
            rw [he'] at hf
            cases hf
            rcases kids_d hk with hd | hd
            · refine ⟨fun v H1 R => ∃ a xs, [v] = [V.ref a] ∧ SqL X.K H1 a xs ∧ R (Ite X.K a) H1, fun H R h => iW_of piL h, fun v H2 R al hb q => ?_⟩
              obtain ⟨a, vs, rfl, h1, h2, _⟩ := hb.kids hk
              rw [hd] at h1
              rw [p.good.K]
              refine ⟨a, vs, rfl, h1, q _ (jok_enumL he' fun H' A' l => ?_)⟩
              obtain ⟨vs', q1, q2⟩ := seq_lat hb hk l hst
              rw [hd] at q1
              exact ⟨vs', q1, q2, l.1⟩
            · refine ⟨fun v H1 R => (∃ a xs, v = V.ref a ∧ SqT X.K H1 a xs ∧ R (IteT X.K a) H1) ∨ (∃ z, v = V.str z ∧ R (IteS z) H1), fun H R h => iW_of piX h, fun v H2 R al hb q => ?_⟩
              obtain ⟨a, vs, rfl, h1, h2, _⟩ := hb.kids hk
              rw [hd] at h1
              rw [p.good.K]
              refine .inl ⟨a, vs, rfl, h1, q _ (jok_enumT he' fun H' A' l => ?_)⟩
              obtain ⟨vs', q1, q2⟩ := seq_lat hb hk l hst
              rw [hd] at q1
              exact ⟨vs', q1, q2, l.1⟩
    · cases ok
theorem ss_nil : SS c w lv [] := by
  intro k tg x X W A C σ H ρ p ok st hst
  unfold okSrc at ok
  cases ok
end
end Mi

set_option Elab.async false
set_option linter.all false
set_option maxRecDepth 100000
set_option maxHeartbeats 4000000
namespace Mi
open PySem PySem.Spec PyProof.Rows L2
section
variable {c : Cfg} {w : Wd} {lv : Nat} {X : Cx} {W : WX} {A C : List Addr} {σ : L2.St} {H H' H1 Hb : Hp} {ρ ρ1 : Env} {vs : List V} {xs : List Vl} {ds : List D} {ts : List T} {v : V} {t : T}
theorem takes0 {X : Cx} : Takes X fun _ _ _ _ => False := fun u s' ⟨_, _, _, _, _, _, _, _, _, _, _, _, _, _, _, _, z⟩ => z.elim
theorem wipe_idem : ∀ us : List Nat, L2.wipe (L2.wipe σ us) us = L2.wipe σ us
  | [] => rfl
  | u :: us => by
    show (L2.wipe ((L2.wipe σ us).set u none) us).set u none = (L2.wipe σ us).set u none
    rw [wipe_same, wipe_idem us]
    split
    · rfl
    · rw [List.set_set]
theorem setAll_len : ∀ {is : List Nat} {ts : List T} {ρ ρ1 : Env}, setAll is ts ρ = some ρ1 → is.length = ts.length
  | [], [], _, _, _ => rfl
  | [], _ :: _, _, _, h => by simp only [setAll] at h; cases h
  | _ :: _, [], _, _, h => by simp only [setAll] at h; cases h
  | i :: is, t :: ts, ρ, ρ1, h => by
    simp only [setAll] at h
    split at h
    · rw [List.length_cons, List.length_cons, setAll_len h]
    · cases h
/-- a target takes a value -/
theorem tg_ok {g : Tg} {Q : L2.St → Hp → Prop} (h : EnvOk w H A C σ ρ) (hb : BwAt w H A C v t) (e : tgV g t ρ = some ρ1)
    (q : ∀ σ', EnvOk w H A C σ' ρ1 → (∀ us, (∀ i ∈ g.slots, i ∈ us) → L2.wipe σ' us = L2.wipe σ us) → Q σ' H) : gT w.K g v σ H Q := by
  cases g with
  | nm i =>
    simp only [tgV] at e
    split at e
    · simp only [Option.some.injEq] at e
      subst e
      exact q _ (h.set hb) fun us hu => wipe_set (hu i (by simp [Tg.slots]))
    · cases e
  | tp is =>
    have core : ∀ ts, t.kids = some ts → setAll is ts ρ = some ρ1 → gT w.K (.tp is) v σ H Q := fun ts hk hs => by
      obtain ⟨a, vs, rfl, h1, h2, hd⟩ := hb.kids hk
      have hl : vs.length = is.length := by rw [h2.length, setAll_len hs]
      have r : gNs is vs σ H Q := setAll_ok (K := w.K) h h2 hs fun σ' h' k => q σ' h' fun us hu => k us hu _ rfl
      rcases hd with hd | hd
      · rw [hd] at h1
        exact .inr ⟨a, vs, rfl, h1, hl, r⟩
      · rw [hd] at h1
        exact .inl ⟨a, vs, rfl, h1, hl, r⟩
    simp only [tgV] at e
    split at e
    · rename_i d
      split at e
      · rename_i ds hd
        exact core (ds.map T.sh) (by simp only [T.kids, hd, Option.map_some]) e
      · cases e
    · rename_i d
      split at e
      · rename_i ds hd
        exact core (ds.map roT) (by simp only [T.kids, hd, Option.map_some]) e
      · cases e
    · cases e
/-! tests of a clause -/
def tWTs (X : Cx) : List Expr → TT
  | [] => tYes
  | [e] => tWT X e
  | _ => fun _ _ _ => False
theorem pts_W : ∀ {ifs : List Expr}, PTs X ifs (tWTs X ifs)
  | [] => pts_nil
  | [e] => pts_one pt_W
  | _ :: _ :: _ => ⟨fun _ _ _ _ _ _ h => h.elim⟩
def STs (c : Cfg) (w : Wd) (lv : Nat) (cs : List E) : Prop := ∀ ifs X W A C σ H ρ, Pt c w lv X W A C σ H ρ → okEs c X.env.scope cs ifs = true → cs.length ≤ 1 → EvT w A C W (tWTs X ifs) σ H (evTs c cs ρ)
theorem sts_nil : STs c w lv [] := fun ifs X W A C σ H ρ p ok _ => by
  unfold okEs at ok
  split at ok
  · simp only [evTs]
    exact fun H1 e1 Q q => q H1 (Ex.refl _)
  · cases ok
theorem sts_cons {e : E} {es : List E} (he : ST c w lv e) : STs c w lv (e :: es) := fun ifs X W A C σ H ρ p ok hl => by
  have : es = [] := by cases es with | nil => rfl | cons _ _ => simp at hl
  subst this
  unfold okEs at ok
  split at ok
  · rename_i x xs
    simp only [Bool.and_eq_true] at ok
    have : xs = [] := by
      have k := ok.2
      unfold okEs at k
      split at k
      · rfl
      · cases k
    subst this
    have r := he _ _ _ _ _ _ _ _ p ok.1
    have e2 : evTs c [e] ρ = evT c e ρ := by
      simp only [evTs]
      cases evT c e ρ with
      | ok b => cases b <;> rfl
      | exc _ _ => rfl
      | bad => rfl
    rw [e2]
    exact r
  · cases ok
theorem bnd_assoc {α β γ : Type} (r : Res α) (f : α → Res β) (g : β → Res γ) : (r.bnd f).bnd g = r.bnd fun a => (f a).bnd g := by
  cases r <;> rfl
theorem compGo_exc {f : T → Res (Option Vl)} : ∀ {ts : List T} {cc : Str} {vs : List D}, compGo f ts ≠ .exc cc vs
  | [], _, _, h => by simp only [compGo] at h; cases h
  | t :: ts, cc, vs, h => by
    simp only [compGo] at h
    split at h
    · exact compGo_exc h
    · rename_i x _
      cases hx : x.shr with
      | none => rw [hx] at h; cases h
      | some d =>
        rw [hx] at h
        simp only [Res.of_some, Res.bnd_ok] at h
        cases hg : compGo f ts with
        | ok ks => rw [hg] at h; cases h
        | exc cc' vs' => exact compGo_exc hg
        | bad => rw [hg] at h; cases h
    · cases h
theorem src_noset {sc : Scope} {k : Src} {es : List E} {tg x : Expr} (h : okSrc c sc k es tg x = true) : ∀ env v, foldedSetIterable x env v = pure v := by
  intro env v
  cases x <;> first | rfl | skip
  exfalso
  cases es with
  | nil => unfold okSrc at h; cases h
  | cons e es =>
    unfold okSrc at h
    have no : ∀ {e : E} {a b d}, okE c sc e (.Set a b d) = true → False := fun {e a b d} h => by
      cases e <;> (unfold okE at h; simp only at h; cases h)
    cases k with
    | seq => simp only [Bool.and_eq_true] at h; exact no h.2
    | txt => simp only [Bool.and_eq_true] at h; exact no h.2
    | rng1 => cases h
    | rng2 => cases h
    | enum => simp only at h; cases h
/-- a turn of a comprehension -/
noncomputable def turnR (c : Cfg) (g : Tg) (cs : List E) (e : E) (ρ : Env) (t : T) : Res (Option Vl) :=
  (Res.of (tgV g t (wipeE ρ g.slots))).bnd fun ρ1 => (evTs c cs ρ1).bnd fun b => if b then (ev c e ρ1).bnd fun x => .ok (some x) else .ok none
theorem comp_core (g : Tg) (k : Src) {es cs : List E} {e : E} (hs : SS c w lv es) (hc : STs c w lv cs) (he : SE c w lv e) {elt tg iter : Expr} {ifs : List Expr} {scope : Scope} {pos : Pos} (p : Pt c w lv X W A C σ H ρ)
    (ok : okE c X.env.scope (.comp g k es cs e) (.ListComp elt [⟨tg, iter, ifs, 0⟩] scope pos) = true) : ∃ te : TE, PE X (.ListComp elt [⟨tg, iter, ifs, 0⟩] scope pos) te ∧
      (∀ (i : Nat) (y : Str) (py spos : Pos), X.N[i]? = some y → X.env.scope.names.lookup y = some .local → swapsWith (.ListComp elt [⟨tg, iter, ifs, 0⟩] scope pos) (some (.Name y py)) spos.line X.env = pure true →
        PS X (.Assign [.Name y py] (.ListComp elt [⟨tg, iter, ifs, 0⟩] scope pos) spos) (tAsg te (gName i))) ∧ EvR w A C W te σ H (ev c (.comp g k es cs e) ρ) := by
      unfold okE at ok
      simp only at ok
      simp only [Bool.and_eq_true, decide_eq_true_eq] at ok
      obtain ⟨⟨⟨⟨⟨⟨k1, k2⟩, k3⟩, k4⟩, k5⟩, k6⟩, k7⟩ := ok
      have sto : ∀ (s : Shared) (H : Hp) (Cc : Addr) (cl : List (Str × Addr)) (fp : List Addr), ∀ (i : Nat) x, i ∈ g.slots → X.N[i]? = some x → StoreOk (X.blk s H scope (compEnvC scope cl Cc X.env) fp) x := fun s H Cc cl fp i x hi hx => by
        have := List.all_eq_true.mp k4 i hi
        unfold stoB at this
        rw [← p.good.N, hx] at this
        simp only [Bool.or_eq_true, Bool.and_eq_true, decide_eq_true_eq] at this
        rcases this with z | ⟨z, z2⟩
        · exact ⟨.inl z, .inr z⟩
        · exact ⟨.inr z, .inl z2⟩
      have nd := p.good.nd
      have kN : okTg X.N g tg = true := by rw [p.good.N]; exact k1
      have ok := blkOk_by (N := X.N) (by rw [p.good.N]; exact k3)
      let tt : TT := fun σ H Q => ∀ (s : Shared) (H0 : Hp) (Cc : Addr) (cl : List (Str × Addr)) (fp : List Addr), tWTs (X.blk s H0 scope (compEnvC scope cl Cc X.env) fp) ifs σ H Q
      let te : TE := fun σ H Q => ∀ (s : Shared) (H0 : Hp) (Cc : Addr) (cl : List (Str × Addr)) (fp : List Addr), tW (X.blk s H0 scope (compEnvC scope cl Cc X.env) fp) elt σ H Q
      have hgg : ∀ (s : Shared) (H : Hp) (Cc : Addr) (cl : List (Str × Addr)) (fp : List Addr), PG (X.blk s H scope (compEnvC scope cl Cc X.env) fp) tg (gT w.K g) := fun s H Cc cl fp => by
        have := pg_T (X := X.blk s H scope (compEnvC scope cl Cc X.env) fp) nd p.good.calm kN (sto s H Cc cl fp)
        rw [← p.good.K]
        exact this
      have htt : ∀ (s : Shared) (H : Hp) (Cc : Addr) (cl : List (Str × Addr)) (fp : List Addr), PTs (X.blk s H scope (compEnvC scope cl Cc X.env) fp) ifs tt := fun s H Cc cl fp => ⟨fun pins s' σ H' Q I h => pts_W.run pins s' σ H' Q I (h s H Cc cl fp)⟩
      have hte : ∀ (s : Shared) (H : Hp) (Cc : Addr) (cl : List (Str × Addr)) (fp : List Addr), PE (X.blk s H scope (compEnvC scope cl Cc X.env) fp) elt te := fun s H Cc cl fp => ⟨fun pins s' σ H' Q I h => pe_W.run pins s' σ H' Q I (h s H Cc cl fp)⟩
      refine ⟨tLc (iW X tg iter) (gT w.K g) tt te ((ownOf c g).map (·.2)), pe_lc p.good.calm nd pi_W ok hgg htt hte (src_noset k2 X.env), fun i y py spos hy hl hsw => ps_setLc p.good.calm nd hy hl hsw pi_W ok hgg htt hte (src_noset k2 X.env), ?_⟩
      rw [ownOf_slots]
      have r := hs _ _ _ _ _ _ _ _ _ _ p k2 false (fun _ _ z => by cases z)
      have e0 : ev c (.comp g k es cs e) ρ = ((evs c es ρ).bnd (srcV k)).bnd fun ts => (compGo (turnR c g cs e ρ) ts).bnd fun ks => .iff (ts.length ≤ 1000000) (frL ks) := by
        rw [bnd_assoc]
        simp only [ev]
        rfl
      rw [e0]
      cases hsrc : (evs c es ρ).bnd (srcV k) with
      | bad => trivial
      | exc cc vs =>
        rw [hsrc] at r
        exact fun H1 e1 Q q => r H1 e1 _ q
      | ok ts =>
        rw [hsrc] at r
        simp only [Res.bnd_ok]
        cases hgo : compGo (turnR c g cs e ρ) ts with
        | bad => trivial
        | exc cc vs => exact absurd hgo compGo_exc
        | ok ks =>
          simp only [Res.bnd_ok]
          unfold Res.iff
          split
          · rename_i hlen
            intro H1 e1 Q q
            refine r H1 e1 _ fun J H2 e2 hJ D hD => ?_
            refine ⟨fun i m H => m = ts.length - i ∧ i ≤ ts.length ∧ Ex H2 H ∧ ∃ acc done rest, H D = some (.lst acc) ∧ acc.length ≤ i ∧ RpL w (hide H (D :: (A ++ C))) acc done ∧ compGo (turnR c g cs e ρ) (ts.drop i) = .ok rest ∧ done ++ rest = ks, ⟨ts.length, by simp, Nat.zero_le _, Ex.new hD, [], [], ks, upd_same, Nat.le_refl _, by simp only [RpL], by simpa using hgo, rfl⟩, ?_⟩
            rintro i m H ⟨rfl, hi, eH, acc, done, rest, hDl, hacc, hrp, hrest, hks⟩
            have al2 : Al H ((D :: A) ++ C) := fun a ha => by
              rcases List.mem_cons.mp ha with rfl | ha
              · exact ⟨_, hDl⟩
              · exact p.al.ex (e1.trans (e2.trans eH)) a ha
            have grow : ∀ a ∈ D :: A, a ∈ A ∨ H2 a = none := fun a ha => by
              rcases List.mem_cons.mp ha with rfl | ha
              · exact .inr hD
              · exact .inl ha
            obtain ⟨j1, j2⟩ := hJ H (D :: A) ⟨al2, .inl ⟨eH, grow⟩⟩
            by_cases hlt : i < ts.length
            · refine .inr ?_
              obtain ⟨t, ht⟩ : ∃ t, ts[i]? = some t := ⟨_, List.getElem?_eq_getElem hlt⟩
              obtain ⟨jg, jy⟩ := j1 i t ht
              have hdrop : ts.drop i = t :: ts.drop (i + 1) := by
                rw [List.drop_eq_getElem_cons hlt]
                congr
                rw [List.getElem?_eq_getElem hlt] at ht
                exact Option.some.inj ht
              rw [hdrop] at hrest
              simp only [compGo] at hrest
              refine ⟨jg, fun H' => Ex H2 H' ∧ ∃ acc done rest, H' D = some (.lst acc) ∧ acc.length ≤ i + 1 ∧ RpL w (hide H' (D :: (A ++ C))) acc done ∧ compGo (turnR c g cs e ρ) (ts.drop (i + 1)) = .ok rest ∧ done ++ rest = ks, fun H' hn => ⟨ts.length - (i + 1), by omega, rfl, hlt, hn⟩, fun x H' hy => ?_⟩
              obtain ⟨ey, hb⟩ := jy x H' hy
              have env' : EnvOk w H' (D :: A) C (L2.wipe σ g.slots) (wipeE ρ g.slots) := ((p.env.ex (e1.trans e2)).grow (eH.trans ey) grow).wipe g.slots
              -- the target
              cases htg : tgV g t (wipeE ρ g.slots) with
              | none =>
                simp only [turnR, htg, Res.of_none, Res.bnd_bad] at hrest
                cases hrest
              | some ρ1 =>
                refine tg_ok env' hb htg fun σ2 env2 hw => ⟨by rw [hw _ (fun i hi => hi), wipe_idem], ?_⟩
                have pb : ∀ (s : Shared) (H0 : Hp) (Cc : Addr) (cl : List (Str × Addr)) (fp : List Addr), Pt c w lv (X.blk s H0 scope (compEnvC scope cl Cc X.env) fp) (fun _ _ _ _ => False) (D :: A) C σ2 H' ρ1 := fun s H0 Cc cl fp =>
                  ⟨p.good.blk s H0 scope _ fp, takes0, env2, al2.ex ey⟩
                have rt := fun s H0 Cc cl fp => hc ifs _ _ _ _ _ _ _ (pb s H0 Cc cl fp) k6 k5
                simp only [turnR, htg, Res.of_some, Res.bnd_ok] at hrest
                cases hts : evTs c cs ρ1 with
                | bad => rw [hts] at hrest; cases hrest
                | exc _ _ => rw [hts] at hrest; cases hrest
                | ok b =>
                  have rt' := fun s H0 Cc cl fp => (by have := rt s H0 Cc cl fp; rw [hts] at this; exact this :
                    ∀ H1, Ex H' H1 → ∀ Q : Bool → Hp → Prop, (∀ H2, Ex H1 H2 → Q b H2) → tWTs (X.blk s H0 scope (compEnvC scope cl Cc X.env) fp) ifs σ2 H1 Q)
                  rw [hts] at hrest
                  simp only [Res.bnd_ok] at hrest
                  intro s H0 Cc cl fp
                  refine rt' s H0 Cc cl fp H' (Ex.refl _) _ fun H3 e3 => ?_
                  have eH3 := (eH.trans ey).trans e3
                  cases b with
                  | false =>
                    simp only [Bool.false_eq_true, if_false] at hrest ⊢
                    exact ⟨eH3, acc, done, rest, e3 _ _ (ey _ _ hDl), by omega, hrp.ex (hide_ex (ey.trans e3)), hrest, hks⟩
                  | true =>
                    simp only [if_true] at hrest ⊢
                    cases hev : ev c e ρ1 with
                    | bad => rw [hev] at hrest; cases hrest
                    | exc _ _ => rw [hev] at hrest; cases hrest
                    | ok y =>
                      rw [hev] at hrest
                      simp only [Res.bnd_ok] at hrest
                      cases hsh : y.shr with
                      | none => rw [hsh] at hrest; cases hrest
                      | some d =>
                        rw [hsh] at hrest
                        simp only [Res.of_some, Res.bnd_ok] at hrest
                        cases hgo2 : compGo (turnR c g cs e ρ) (ts.drop (i + 1)) with
                        | bad => rw [hgo2] at hrest; cases hrest
                        | exc _ _ => exact absurd hgo2 compGo_exc
                        | ok rest' =>
                          rw [hgo2] at hrest
                          simp only [Res.bnd_ok, Res.ok.injEq] at hrest
                          intro s H0 Cc cl fp
                          have re := he elt _ _ _ _ _ _ _ ((pb s H0 Cc cl fp).ex e3) k7
                          rw [hev] at re
                          refine re H3 (Ex.refl _) _ fun u H4 e4 h4 => ?_
                          have hDl4 : H4 D = some (.lst acc) := e4 _ _ (e3 _ _ (ey _ _ hDl))
                          refine ⟨acc, hDl4, by rw [sizeLine_eq]; omega, (eH3.trans e4).mut hD, acc ++ [u], done ++ [d], rest', upd_same, by simp; omega, ?_, rfl, by rw [← hks, ← hrest]; simp⟩
                          rw [hide_upd List.mem_cons_self]
                          exact (hrp.ex (hide_ex ((ey.trans e3).trans e4))).app (.one (h4.shr ((al2.ex ey).ex e3) hsh))
            · have ei : i = ts.length := by omega
              subst ei
              refine .inl ⟨j2, q _ _ (e2.trans eH) ⟨[D], ?_, by simp, fun a ha => ?_⟩⟩
              · have : rest = [] := by
                  rw [List.drop_length] at hrest
                  simp only [compGo, Res.ok.injEq] at hrest
                  exact hrest.symm
                subst this
                simp only [OwAt]
                refine ⟨D, acc, [], rfl, rfl, hDl, OwAtL.leaves ?_⟩
                rw [← hks, List.append_nil]
                exact hrp
              · have e' : a = D := by simpa using ha
                subst e'
                exact fresh_back e2 hD
          · trivial
theorem s_comp (g : Tg) (k : Src) {es cs : List E} {e : E} (hs : SS c w lv es) (hc : STs c w lv cs) (he : SE c w lv e) : S3 c w lv (.comp g k es cs e) := by
  refine .of (fun x X W A C σ H ρ p ok => ?_) (fun sc x h => ?_) fun ρ => by simp only [evT]
  · have ok' := ok
    unfold okE at ok'
    split at ok'
    · obtain ⟨te, pe, _, r⟩ := comp_core g k hs hc he p ok
      exact EvR.mono (fun H Q h => W_of pe h) r
    · cases ok'
  · unfold okE at h
    split at h
    · rfl
    · cases h
/-! ### all expressions -/
structure SL (c : Cfg) (w : Wd) (lv : Nat) (es : List E) : Prop where
  a : SA c w lv es
  o : SO c w lv es
  s : SS c w lv es
  t : STs c w lv es
mutual
theorem soundE : ∀ e : E, S3 c w lv e
  | .var i => s_var i
  | .cst d => s_cst d
  | .glob x => s_glob x
  | .bin op a b => s_bin op (soundE a).v (soundE b).v
  | .neg a => s_neg (soundE a).v
  | .cmp op a b => s_cmp op (soundE a).v (soundE b).v
  | .cmp2 o1 o2 a b e => s_cmp2 o1 o2 (soundE a).v (soundE b).v (soundE e).v
  | .and a b => s_and (soundE a) (soundE b)
  | .or a b => s_or (soundE a) (soundE b)
  | .not a => s_not (soundE a)
  | .ite t a b => s_ite (soundE t).t (soundE a).v (soundE b).v
  | .tup es => s_tup (soundL es).a
  | .lst es => s_lst (soundL es).a
  | .ix a i => s_ix (soundE a).v (soundE i).v
  | .sl a lo hi => s_sl (soundE a).v (soundL lo).o (soundL hi).o
  | .call f es => s_call f (soundL es).a
  | .bi b es => s_bi b (soundL es).a
  | .isi a cs m => s_isi cs m (soundE a).v
  | .comp g k es cs e => s_comp g k (soundL es).s (soundL cs).t (soundE e).v
theorem soundL : ∀ es : List E, SL c w lv es
  | [] => ⟨sa_nil, so_nil, ss_nil, sts_nil⟩
  | e :: es => ⟨sa_cons (soundE e).v (soundL es).a, so_cons (soundE e).v, ss_cons (soundE e).v (soundL es).a, sts_cons (soundE e).t⟩
end
end
end Mi

set_option Elab.async false
set_option linter.all false
set_option maxRecDepth 100000
set_option maxHeartbeats 4000000
namespace Mi
open PySem PySem.Spec PyProof.Rows L2

/-! ### the frame between two statements -/
def SlotAt (w : Wd) (H : Hp) (A C : List Addr) (v : V) (t : T) : Prop := match t with
  | .lst ts => ∃ p vs ds, v = .ref p ∧ ts = ds.map T.sh ∧ p ∈ A ∧ H p = some (.lst vs) ∧ RpL w (hide H (A ++ C)) vs ds
  | t => BwAt w H A C v t
def Gr (H : Hp) (A : List Addr) (H' : Hp) (A' : List Addr) : Prop := Ex (hide H A) (hide H' A')
structure StOk (w : Wd) (Hc : Hp) (C : List Addr) (σ : L2.St) (H : Hp) (A : List Addr) (ρ : Env) : Prop where
  len : σ.length = ρ.length
  slot : ∀ (i : Nat) (t : T), ρ[i]? = some (some t) → ∃ v, σ[i]? = some (some v) ∧ SlotAt w H A C v t
  inj : ∀ (i j : Nat) (p : Addr) (ts us : List T), i ≠ j → ρ[i]? = some (some (.lst ts)) → ρ[j]? = some (some (.lst us)) → σ[i]? = some (some (.ref p)) → σ[j]? = some (some (.ref p)) → False
  al : Al H (A ++ C)
  new : ∀ a ∈ A, Hc a = none
  ex : Ex Hc H
  alC : Al Hc C
theorem plains_sh : ∀ ds : List D, T.plains (ds.map T.sh) = true
  | [] => rfl
  | d :: ds => by
    simp only [List.map_cons, T.plains, T.plain, Bool.true_and]
    exact plains_sh ds
section
variable {w : Wd} {Hc H H' H1 H2 : Hp} {A A' A1 A2 C : List Addr} {σ : L2.St} {ρ ρ' ρ1 : Env} {v : V} {t : T} {i : Nat}
theorem Gr.refl : Gr H A H A := Ex.refl _
theorem Gr.trans (a : Gr H A H1 A1) (b : Gr H1 A1 H2 A2) : Gr H A H2 A2 := Ex.trans a b
theorem Gr.ex (e : Ex H H') : Gr H A H' A := hide_ex e
theorem Gr.app (g : Gr H A H' A') : Ex (hide H (A ++ C)) (hide H' (A' ++ C)) := fun a o h => by
  have hA : a ∉ A ++ C := fun z => by
    unfold hide at h
    rw [if_pos z] at h
    cases h
  have h1 : hide H A a = some o := by
    unfold hide at h ⊢
    rw [if_neg hA] at h
    rw [if_neg fun z => hA (List.mem_append_left _ z)]
    exact h
  have h2 := g a o h1
  unfold hide at h2 ⊢
  split at h2
  · cases h2
  · rename_i n
    rw [if_neg]
    · exact h2
    · intro z
      rcases List.mem_append.mp z with z | z
      · exact n z
      · exact hA (List.mem_append_right _ z)
theorem SlotAt.bw (h : SlotAt w H A C v t) : BwAt w H A C v t := by
  cases t with
  | lst ts =>
    obtain ⟨p, vs, ds, rfl, rfl, hp, hl, r⟩ := h
    simp only [BwAt]
    exact ⟨p, vs, rfl, hl, .of_sh r, plains_sh ds⟩
  | sh d => exact h
  | ro d => exact h
  | scr ns => exact h
theorem SlotAt.ex (e : Ex H H') (h : SlotAt w H A C v t) : SlotAt w H' A C v t := by
  cases t with
  | lst ts =>
    obtain ⟨p, vs, ds, h1, h2, h3, h4, h5⟩ := h
    exact ⟨p, vs, ds, h1, h2, h3, e _ _ h4, h5.ex (hide_ex e)⟩
  | sh d => exact BwAt.ex e h
  | ro d => exact BwAt.ex e h
  | scr ns => exact BwAt.ex e h
theorem StOk.env (h : StOk w Hc C σ H A ρ) : EnvOk w H A C σ ρ := ⟨h.len, fun i t q => by
  obtain ⟨v, h1, h2⟩ := h.slot i t q
  exact ⟨v, h1, h2.bw⟩⟩
theorem StOk.up (e : Ex H H') (h : StOk w Hc C σ H A ρ) : StOk w Hc C σ H' A ρ :=
  ⟨h.len, fun i t q => by
    obtain ⟨v, h1, h2⟩ := h.slot i t q
    exact ⟨v, h1, h2.ex e⟩, h.inj, h.al.ex e, h.new, h.ex.trans e, h.alC⟩
/-- a slot takes what is no own cell -/
theorem StOk.set (h : StOk w Hc C σ H A ρ) (ht : t.still = true) (hv : BwAt w H A C v t) : StOk w Hc C (σ.set i (some v)) H A (ρ.set i (some t)) := by
  have hs : SlotAt w H A C v t := by
    cases t with
    | lst ts => cases ht
    | sh d => exact hv
    | ro d => exact hv
    | scr ns => exact hv
  have nl : ∀ j ts, (ρ.set i (some t))[j]? = some (some (.lst ts)) → i ≠ j ∧ ρ[j]? = some (some (.lst ts)) := fun j ts q => by
    by_cases hj : i = j
    · subst hj
      have hi : i < ρ.length := by
        have := (List.getElem?_eq_some_iff.mp q).1
        rwa [List.length_set] at this
      rw [List.getElem?_set_self hi] at q
      cases q
      cases ht
    · rw [List.getElem?_set_ne hj] at q
      exact ⟨hj, q⟩
  refine ⟨by rw [List.length_set, List.length_set]; exact h.len, fun j u e => ?_, fun a b p ts us hab ha hb sa sb => ?_, h.al, h.new, h.ex, h.alC⟩
  · by_cases hj : i = j
    · subst hj
      have hi : i < ρ.length := by
        have := (List.getElem?_eq_some_iff.mp e).1
        rwa [List.length_set] at this
      rw [List.getElem?_set_self hi] at e
      cases e
      exact ⟨v, List.getElem?_set_self (by rw [h.len]; exact hi), hs⟩
    · rw [List.getElem?_set_ne hj] at e
      rw [List.getElem?_set_ne hj]
      exact h.slot j u e
  · obtain ⟨n1, q1⟩ := nl a ts ha
    obtain ⟨n2, q2⟩ := nl b us hb
    rw [List.getElem?_set_ne n1] at sa
    rw [List.getElem?_set_ne n2] at sb
    exact h.inj a b p ts us hab q1 q2 sa sb
theorem setAllS_ok : ∀ {is : List Nat} {ts : List T} {vs : List V} {σ : L2.St} {ρ ρ' : Env} {Q : L2.St → Hp → Prop}, StOk w Hc C σ H A ρ → BwAtL w H A C vs ts → ts.all T.still = true → setAll is ts ρ = some ρ' →
    (∀ σ', StOk w Hc C σ' H A ρ' → Q σ' H) → gNs is vs σ H Q
  | [], [], [], σ, ρ, ρ', Q, h, _, _, e, q => by
    simp only [setAll, Option.some.injEq] at e
    subst e
    exact ⟨rfl, q σ h⟩
  | [], [], _ :: _, _, _, _, _, _, hb, _, _, _ => by simp only [BwAtL] at hb
  | [], _ :: _, _, _, _, _, _, _, _, _, e, _ => by simp only [setAll] at e; cases e
  | _ :: _, [], _, _, _, _, _, _, _, _, e, _ => by simp only [setAll] at e; cases e
  | i :: is, t :: ts, [], _, _, _, _, _, hb, _, _, _ => by simp only [BwAtL] at hb
  | i :: is, t :: ts, v :: vs, σ, ρ, ρ', Q, h, hb, hs, e, q => by
    simp only [BwAtL] at hb
    simp only [List.all_cons, Bool.and_eq_true] at hs
    simp only [setAll] at e
    split at e
    · exact ⟨v, vs, rfl, setAllS_ok (h.set hs.1 hb.1) hb.2 hs.2 e q⟩
    · cases e
theorem still_sh : ∀ ds : List D, (ds.map T.sh).all T.still = true
  | [] => rfl
  | d :: ds => by
    simp only [List.map_cons, List.all_cons, T.still, Bool.true_and]
    exact still_sh ds
theorem still_ro : ∀ ds : List D, (ds.map roT).all T.still = true
  | [] => rfl
  | d :: ds => by
    have h1 : (roT d).still = true := by
      unfold Mi.roT
      split <;> rfl
    simp only [List.map_cons, List.all_cons, h1, Bool.true_and]
    exact still_ro ds
theorem tgS_ok {g : Tg} {Q : L2.St → Hp → Prop} (h : StOk w Hc C σ H A ρ) (hb : BwAt w H A C v t) (ht : t.still = true) (e : tgV g t ρ = some ρ1) (q : ∀ σ', StOk w Hc C σ' H A ρ1 → Q σ' H) : gT w.K g v σ H Q := by
  cases g with
  | nm i =>
    simp only [tgV] at e
    split at e
    · simp only [Option.some.injEq] at e
      subst e
      exact q _ (h.set ht hb)
    · cases e
  | tp is =>
    have core : ∀ ts, t.kids = some ts → ts.all T.still = true → setAll is ts ρ = some ρ1 → gT w.K (.tp is) v σ H Q := fun ts hk hst hs => by
      obtain ⟨a, vs, rfl, h1, h2, hd⟩ := hb.kids hk
      have hl : vs.length = is.length := by rw [h2.length, setAll_len hs]
      have r : gNs is vs σ H Q := setAllS_ok h h2 hst hs q
      rcases hd with hd | hd
      · rw [hd] at h1
        exact .inr ⟨a, vs, rfl, h1, hl, r⟩
      · rw [hd] at h1
        exact .inl ⟨a, vs, rfl, h1, hl, r⟩
    simp only [tgV] at e
    split at e
    · rename_i d
      split at e
      · rename_i ds hd
        exact core (ds.map T.sh) (by simp only [T.kids, hd, Option.map_some]) (still_sh ds) e
      · cases e
    · rename_i d
      split at e
      · rename_i ds hd
        exact core (ds.map roT) (by simp only [T.kids, hd, Option.map_some]) (still_ro ds) e
      · cases e
    · cases e
/-- a slot takes a new cell -/
theorem StOk.own {p : Addr} {vs : List V} {ds : List D} (h : StOk w Hc C σ H A ρ) (hn : p ∉ A) (hc : Hc p = none) (hl : H p = some (.lst vs)) (hr : RpL w (hide H (p :: (A ++ C))) vs ds)
    (hp : ∀ o, H1 p = some o → False) (e : Ex H1 H) (h1 : StOk w Hc C σ H1 A ρ) :
    StOk w Hc C (σ.set i (some (.ref p))) H (p :: A) (ρ.set i (some (.lst (ds.map T.sh)))) := by
  have grow : ∀ a ∈ p :: A, a ∈ A ∨ H1 a = none := fun a ha => by
    rcases List.mem_cons.mp ha with rfl | ha
    · right
      cases q : H1 a with
      | none => rfl
      | some o => exact (hp o q).elim
    · exact .inl ha
  have old : ∀ (j : Nat) (u : T), ρ[j]? = some (some u) → ∃ v, σ[j]? = some (some v) ∧ SlotAt w H (p :: A) C v u ∧ ∀ q, u = .lst q → v ≠ .ref p := fun j u q => by
    obtain ⟨v, q1, q2⟩ := h1.slot j u q
    cases u with
    | sh d => exact ⟨v, q1, BwAt.grow (C := C) (t := .sh d) e grow q2, fun _ z => by cases z⟩
    | ro d => exact ⟨v, q1, BwAt.grow (C := C) (t := .ro d) e grow q2, fun _ z => by cases z⟩
    | scr d => exact ⟨v, q1, BwAt.grow (C := C) (t := .scr d) e grow q2, fun _ z => by cases z⟩
    | lst us =>
      obtain ⟨a, ws, es, rfl, rfl, k1, k2, k3⟩ := q2
      refine ⟨_, q1, ⟨a, ws, es, rfl, rfl, List.mem_cons_of_mem _ k1, e _ _ k2, k3.ex (hide_grow e fun b hb => ?_)⟩, fun _ _ z => ?_⟩
      · rcases List.mem_cons.mp hb with rfl | hb
        · exact (grow b List.mem_cons_self).imp (List.mem_append_left _) id
        · exact .inl hb
      · cases z
        exact hn k1
  refine ⟨by rw [List.length_set, List.length_set]; exact h.len, fun j u q => ?_, fun a b r ts us hab ha hb sa sb => ?_, fun a ha => ?_, fun a ha => ?_, h.ex, h.alC⟩
  · by_cases hj : i = j
    · subst hj
      have hi : i < ρ.length := by
        have := (List.getElem?_eq_some_iff.mp q).1
        rwa [List.length_set] at this
      rw [List.getElem?_set_self hi] at q
      cases q
      exact ⟨_, List.getElem?_set_self (by rw [h.len]; exact hi), p, vs, ds, rfl, rfl, List.mem_cons_self, hl, hr⟩
    · rw [List.getElem?_set_ne hj] at q
      rw [List.getElem?_set_ne hj]
      obtain ⟨v, q1, q2, _⟩ := old j u q
      exact ⟨v, q1, q2⟩
  · have one : ∀ {a b : Nat} {ts us : List T}, a ≠ b → i = a → (ρ.set i (some (.lst (ds.map T.sh))))[b]? = some (some (.lst us)) → (σ.set i (some (.ref p)))[a]? = some (some (.ref r)) → (σ.set i (some (.ref p)))[b]? = some (some (.ref r)) → (ρ.set i (some (.lst (ds.map T.sh))))[a]? = some (some (.lst ts)) → False := fun {a b ts us} hab ea hb sa sb ha => by
      subst ea
      rw [List.getElem?_set_ne hab] at hb sb
      have hi : i < σ.length := by
        have := (List.getElem?_eq_some_iff.mp sa).1
        rwa [List.length_set] at this
      rw [List.getElem?_set_self hi] at sa
      cases sa
      obtain ⟨v, q1, _, q3⟩ := old b _ hb
      rw [sb] at q1
      cases q1
      exact q3 us rfl rfl
    by_cases ea : i = a
    · exact one hab ea hb sa sb ha
    · by_cases eb : i = b
      · exact one (Ne.symm hab) eb ha sb sa hb
      · rw [List.getElem?_set_ne ea] at ha sa
        rw [List.getElem?_set_ne eb] at hb sb
        exact h.inj a b r ts us hab ha hb sa sb
  · rcases List.mem_cons.mp ha with rfl | ha
    · exact ⟨_, hl⟩
    · exact h.al a ha
  · rcases List.mem_cons.mp ha with rfl | ha
    · exact hc
    · exact h.new a ha
/-- an own cell is written -/
theorem StOk.write {p : Addr} {vs' : List V} {ds' : List D} {ts : List T} (h : StOk w Hc C σ H A ρ) (hi : ρ[i]? = some (some (.lst ts))) (hs : σ[i]? = some (some (.ref p))) (hp : p ∈ A) (hr : RpL w (hide H (A ++ C)) vs' ds') :
    StOk w Hc C σ (upd H p (.lst vs')) A (ρ.set i (some (.lst (ds'.map T.sh)))) := by
  have hm : p ∈ A ++ C := List.mem_append_left _ hp
  have e1 : hide (upd H p (.lst vs')) (A ++ C) = hide H (A ++ C) := hide_upd hm
  have e2 : hide (upd H p (.lst vs')) A = hide H A := hide_upd hp
  have hil : i < ρ.length := (List.getElem?_eq_some_iff.mp hi).1
  refine ⟨by rw [List.length_set]; exact h.len, fun j u q => ?_, fun a b r ts us hab ha hb sa sb => ?_, fun a ha => ?_, h.new, h.ex.mut (h.new p hp), h.alC⟩
  · by_cases hj : i = j
    · subst hj
      rw [List.getElem?_set_self hil] at q
      cases q
      exact ⟨_, hs, p, vs', ds', rfl, rfl, hp, upd_same, by rw [e1]; exact hr⟩
    · rw [List.getElem?_set_ne hj] at q
      obtain ⟨v, q1, q2⟩ := h.slot j u q
      refine ⟨v, q1, ?_⟩
      cases u with
      | sh d => simp only [SlotAt, BwAt] at q2 ⊢; rw [e1]; exact q2
      | ro d => simp only [SlotAt, BwAt] at q2 ⊢; rw [e2]; exact q2
      | scr d => simp only [SlotAt, BwAt] at q2 ⊢; rw [e2]; exact q2
      | lst us =>
        obtain ⟨a, ws, es, rfl, rfl, k1, k2, k3⟩ := q2
        refine ⟨a, ws, es, rfl, rfl, k1, ?_, by rw [e1]; exact k3⟩
        rw [upd_ne]
        · exact k2
        · intro z
          subst z
          exact h.inj i j a _ _ hj hi q hs q1
  · have back : ∀ {a : Nat} {ts : List T}, (ρ.set i (some (.lst (ds'.map T.sh))))[a]? = some (some (.lst ts)) → ∃ ts', ρ[a]? = some (some (.lst ts')) := fun {a ts} q => by
      by_cases ea : i = a
      · subst ea
        exact ⟨_, hi⟩
      · rw [List.getElem?_set_ne ea] at q
        exact ⟨_, q⟩
    obtain ⟨t1, ha⟩ := back ha
    obtain ⟨t2, hb⟩ := back hb
    exact h.inj a b r _ _ hab ha hb sa sb
  · by_cases z : a = p
    · subst z
      exact ⟨_, upd_same⟩
    · obtain ⟨o, q⟩ := h.al a ha
      exact ⟨o, by rw [upd_ne z]; exact q⟩
theorem Gr.write {p : Addr} {o : HO} (hp : p ∈ A) : Gr H A (upd H p o) A := by
  unfold Gr
  rw [hide_upd hp]
  exact Ex.refl _
/-- an own cell is kept still from here on -/
theorem StOk.freeze {ds : List D} (h : StOk w Hc C σ H A ρ) (hi : ρ[i]? = some (some (.lst (ds.map T.sh)))) : ∃ A', StOk w Hc C σ H A' (ρ.set i (some (.sh (.lst ds)))) ∧ Gr H A H A' := by
  obtain ⟨v, hs, p, vs, es, rfl, e, hp, hl, hr⟩ := h.slot i _ hi
  have ee : es = ds := by
    have := congrArg T.ds e
    rw [T.ds_sh, T.ds_sh] at this
    exact this.symm
  subst ee
  have hil : i < ρ.length := (List.getElem?_eq_some_iff.mp hi).1
  have pC : p ∉ C := h.alC.not (h.new p hp)
  have sub : ∀ a ∈ A.filter (fun a => a != p), a ∈ A := fun a ha => (List.mem_filter.mp ha).1
  have subC : ∀ a ∈ A.filter (fun a => a != p) ++ C, a ∈ A ++ C := fun a ha => by
    rcases List.mem_append.mp ha with ha | ha
    · exact List.mem_append_left _ (sub a ha)
    · exact List.mem_append_right _ ha
  have np : p ∉ A.filter (fun a => a != p) ++ C := fun z => by
    rcases List.mem_append.mp z with z | z
    · have := (List.mem_filter.mp z).2
      simp at this
    · exact pC z
  refine ⟨A.filter fun a => a != p, ⟨by rw [List.length_set]; exact h.len, fun j u q => ?_, fun a b r ts us hab ha hb sa sb => ?_, fun a ha => h.al a (subC a ha), fun a ha => h.new a (sub a ha), h.ex, h.alC⟩, hide_less sub⟩
  · by_cases hj : i = j
    · subst hj
      rw [List.getElem?_set_self hil] at q
      cases q
      refine ⟨_, hs, ?_⟩
      simp only [SlotAt, BwAt, Rp]
      exact ⟨p, vs, rfl, hide_at hl np, hr.ex (hide_less subC)⟩
    · rw [List.getElem?_set_ne hj] at q
      obtain ⟨v, q1, q2⟩ := h.slot j u q
      refine ⟨v, q1, ?_⟩
      cases u with
      | sh d => simp only [SlotAt, BwAt] at q2 ⊢; exact q2.ex (hide_less subC)
      | ro d => simp only [SlotAt, BwAt] at q2 ⊢; exact q2.ex (hide_less sub)
      | scr d =>
        simp only [SlotAt, BwAt] at q2 ⊢
        obtain ⟨a, h1, h2⟩ := q2
        exact ⟨a, h1, ex_l (hide_less sub) h2⟩
      | lst us =>
        obtain ⟨a, ws, es, rfl, rfl, k1, k2, k3⟩ := q2
        refine ⟨a, ws, es, rfl, rfl, List.mem_filter.mpr ⟨k1, ?_⟩, k2, k3.ex (hide_less subC)⟩
        simp only [bne_iff_ne, ne_eq]
        intro z
        subst z
        exact h.inj i j a _ _ hj hi q hs q1
  · have back : ∀ {a : Nat} {ts : List T}, (ρ.set i (some (.sh (.lst es))))[a]? = some (some (.lst ts)) → ρ[a]? = some (some (.lst ts)) := fun {a ts} q => by
      by_cases ea : i = a
      · subst ea
        rw [List.getElem?_set_self hil] at q
        cases q
      · rw [List.getElem?_set_ne ea] at q
        exact q
    exact h.inj a b r _ _ hab (back ha) (back hb) sa sb
end
end Mi

set_option Elab.async false
set_option linter.all false
set_option maxRecDepth 100000
set_option maxHeartbeats 4000000
namespace Mi
open PySem PySem.Spec PyProof.Rows L2

/-! ### statements -/
def sW (X : Cx) (st : Stmt) : TS := fun D σ H => ∀ pins s, Inv X pins σ H s → wpAny (model X.prog X.w) X.A (PySem.exec st X.env) (SP X pins D) X.xe s
def ssW (X : Cx) (sts : List Stmt) : TS := fun D σ H => ∀ pins s, Inv X pins σ H s → wpAny (model X.prog X.w) X.A (PySem.execs sts X.env) (SP X pins D) X.xe s
theorem ps_W {X : Cx} {st : Stmt} : PS X st (sW X st) := ⟨fun pins s σ H D I h => h pins s I⟩
theorem pss_W {X : Cx} {sts : List Stmt} : PSs X sts (ssW X sts) := ⟨fun pins s σ H D I h => h pins s I⟩
theorem sW_of {X : Cx} {st : Stmt} {t : TS} (h : PS X st t) {D : Ends} {σ : L2.St} {H : Hp} (q : t D σ H) : sW X st D σ H := fun pins s I => h.run pins s σ H D I q
theorem ssW_of {X : Cx} {sts : List Stmt} {t : TS} (h : PSs X sts t) {D : Ends} {σ : L2.St} {H : Hp} (q : t D σ H) : ssW X sts D σ H := fun pins s I => h.run pins s σ H D I q
structure PtS (c : Cfg) (w : Wd) (lv : Nat) (X : Cx) (W : WX) : Prop where
  good : Good c w lv X
  tk : Takes X W
  po : PassesOwn (model X.prog X.w) X.A X.env X.xe
  fnA : ∀ x, X.fn x = true
  kind : X.env.scope.kind = .function
def EndOk (w : Wd) (Hc : Hp) (C : List Addr) (W : WX) (D : Ends) (H : Hp) (A : List Addr) : Out → Prop
  | .nx ρ => ∀ σ H' A', StOk w Hc C σ H' A' ρ → Gr H A H' A' → D.nx σ H'
  | .ret x => ∀ v H', Ex Hc H' → VAt w [] C Hc v x H' → D.rt v H'
  | .brk ρ => ∀ σ H' A', StOk w Hc C σ H' A' ρ → Gr H A H' A' → D.bk σ H'
  | .cnt ρ => ∀ σ H' A', StOk w Hc C σ H' A' ρ → Gr H A H' A' → D.ct σ H'
  | .exc c vs ρ => ∀ k dx σ H' A', StOk w Hc C σ H' A' ρ → Gr H A H' A' → XAt w (A' ++ C) H' k dx c vs → W k dx σ H'
  | .bad => False
def SndS (c : Cfg) (w : Wd) (lv : Nat) (s : S) : Prop := ∀ st X W Hc C D σ H A ρ, PtS c w lv X W → okSt c X.env.scope s st = true → StOk w Hc C σ H A ρ → EndOk w Hc C W D H A (exec c s ρ) → sW X st D σ H
def SndB (c : Cfg) (w : Wd) (lv : Nat) (ss : List S) : Prop := ∀ sts X W Hc C D σ H A ρ, PtS c w lv X W → okBd c X.env.scope ss sts = true → StOk w Hc C σ H A ρ → EndOk w Hc C W D H A (execs c ss ρ) → ssW X sts D σ H
section
variable {c : Cfg} {w : Wd} {lv : Nat} {X : Cx} {W : WX} {Hc H H' H1 H2 : Hp} {A A' A1 A2 C : List Addr} {σ : L2.St} {ρ ρ' ρ1 : Env} {v : V} {t : T} {i : Nat} {D : Ends} {o : Out}
theorem EndOk.gr (g : Gr H A H1 A1) (h : EndOk w Hc C W D H A o) : EndOk w Hc C W D H1 A1 o := by
  cases o with
  | nx ρ => exact fun σ H' A' s g' => h σ H' A' s (g.trans g')
  | ret x => exact h
  | brk ρ => exact fun σ H' A' s g' => h σ H' A' s (g.trans g')
  | cnt ρ => exact fun σ H' A' s g' => h σ H' A' s (g.trans g')
  | exc cc vs ρ => exact fun k dx σ H' A' s g' => h k dx σ H' A' s (g.trans g')
  | bad => exact h
theorem StOk.pt (p : PtS c w lv X W) (h : StOk w Hc C σ H A ρ) : Pt c w lv X W A C σ H ρ := ⟨p.good, p.tk, h.env, h.al⟩
/-- behind an expression -/
theorem go_ok {te : TE} {r : Res Vl} {f : Vl → Out} {Q : VK} (st : StOk w Hc C σ H A ρ) (hr : EvR w A C W te σ H r) (he : EndOk w Hc C W D H A (r.go ρ f))
    (hk : ∀ x, r = .ok x → EndOk w Hc C W D H A (f x) → ∀ v H1, Ex H H1 → VAt w A C H v x H1 → StOk w Hc C σ H1 A ρ → Q v H1) : te σ H Q := by
  cases r with
  | bad => exact he.elim
  | exc cc vs => exact hr H (Ex.refl _) Q fun k dx H1 e1 x => he k dx σ H1 A (st.up e1) (Gr.ex e1) x
  | ok x => exact hr H (Ex.refl _) Q fun v H1 e1 h1 => hk x rfl he v H1 e1 h1 (st.up e1)
theorem goT_ok {tt : TT} {r : Res Bool} {f : Bool → Out} {Q : Bool → Hp → Prop} (st : StOk w Hc C σ H A ρ) (hr : EvT w A C W tt σ H r) (he : EndOk w Hc C W D H A (r.go ρ f))
    (hk : ∀ b, r = .ok b → EndOk w Hc C W D H A (f b) → ∀ H1, Ex H H1 → StOk w Hc C σ H1 A ρ → Q b H1) : tt σ H Q := by
  cases r with
  | bad => exact he.elim
  | exc cc vs => exact hr H (Ex.refl _) Q fun k dx H1 e1 x => he k dx σ H1 A (st.up e1) (Gr.ex e1) x
  | ok x => exact hr H (Ex.refl _) Q fun H1 e1 => hk x rfl he H1 e1 (st.up e1)
theorem goA_ok {ta : TA} {r : Res (List Vl)} {f : List Vl → Out} {Q : List V → Hp → Prop} (st : StOk w Hc C σ H A ρ) (hr : EvA w A C W ta σ H r) (he : EndOk w Hc C W D H A (r.go ρ f))
    (hk : ∀ x, r = .ok x → EndOk w Hc C W D H A (f x) → ∀ v H1, Ex H H1 → VAtL w A C H v x H1 → StOk w Hc C σ H1 A ρ → Q v H1) : ta σ H Q := by
  cases r with
  | bad => exact he.elim
  | exc cc vs => exact hr H (Ex.refl _) Q fun k dx H1 e1 x => he k dx σ H1 A (st.up e1) (Gr.ex e1) x
  | ok x => exact hr H (Ex.refl _) Q fun v H1 e1 h1 => hk x rfl he v H1 e1 h1 (st.up e1)
theorem locC_ok (p : PtS c w lv X W) {i : Nat} (h : locC c X.env.scope i = true) {x : Str} (hx : X.N[i]? = some x) : StoreOk X x := by
  unfold locC at h
  rw [p.good.N] at hx
  rw [hx] at h
  simp only [Bool.or_eq_true, decide_eq_true_eq] at h
  exact ⟨h, .inl (p.fnA x)⟩
theorem sw_plain {x : Expr} {tg : Option Expr} {l : Nat} {env : PySem.Env} (h : notComp x = true) : swapsWith x tg l env = pure false := by
  cases x <;> first | rfl | (simp only [notComp] at h; cases h)
theorem swB_ok {sc : Scope} {y : Str} {py : Pos} {x : Expr} {l : Nat} {env : PySem.Env} (hk : env.scope.kind = .function) : ∀ {elt gs scope lp}, x = .ListComp elt gs scope lp → swapsWith x (some (.Name y py)) l env = pure (swB env.scope y py x) := by
  intro elt gs scope lp e
  subst e
  have hb : env.blockKind = .function := by unfold Env.blockKind; rw [hk]; rfl
  unfold swapsWith swB
  simp only [hb, Expr.pos, Env.kindOf]
  rfl
/-- name = value: the reading of the value is exact -/
theorem ps_name (p : PtS c w lv X W) {i : Nat} {y : Str} {py spos : Pos} {x : Expr} {e : E} (hy : X.N[i]? = some y) (hl : locC c X.env.scope i = true) (ok : okE c X.env.scope e x = true) (st : StOk w Hc C σ H A ρ) :
    ∃ te : TE, PS X (.Assign [.Name y py] x spos) (tAsg te (gName i)) ∧ EvR w A C W te σ H (ev c e ρ) := by
  have so := locC_ok p hl hy
  have r := (soundE e).v x X W A C σ H ρ (st.pt p) ok
  by_cases hc : notComp x = true
  · exact ⟨tW X x, ps_set p.good.nd hy so.1 pe_W (sw_plain hc) so.2, r⟩
  · cases x <;> first | exact absurd rfl hc | skip
    · rename_i elt gs scope lp
      cases e <;> first | (unfold okE at ok; simp only at ok; cases ok; done) | skip
      rename_i g k es cs e
      have ok2 := ok
      unfold okE at ok2
      split at ok2
      · rename_i elt' tg iter ifs scope' pos' heq
        cases heq
        obtain ⟨te, pe, ps, r'⟩ := comp_core g k (soundL es).s (soundL cs).t (soundE e).v (st.pt p) ok
        have sw := swB_ok (sc := X.env.scope) (y := y) (py := py) (l := spos.line) p.kind (rfl : Expr.ListComp elt [⟨tg, iter, ifs, 0⟩] scope lp = _)
        cases hb : swB X.env.scope y py (.ListComp elt [⟨tg, iter, ifs, 0⟩] scope lp) with
        | true =>
          rw [hb] at sw
          have hl2 : X.env.scope.names.lookup y = some .local := by
            unfold swB at hb
            simp only [Bool.and_eq_true, beq_iff_eq] at hb
            exact hb.1.1
          exact ⟨te, ps i y py spos hy hl2 sw, r'⟩
        | false =>
          rw [hb] at sw
          exact ⟨te, ps_set p.good.nd hy so.1 pe sw so.2, r'⟩
      · cases ok2
    · cases e <;> (unfold okE at ok; simp only at ok; cases ok)
    · cases e <;> (unfold okE at ok; simp only at ok; cases ok)
theorem snd_asg (g : Tg) (e : E) : SndS c w lv (.asg g e) := by
  intro st X W Hc C D σ H A ρ p ok so he
  unfold okSt at ok
  split at ok
  · rename_i tg x pos
    simp only [Bool.and_eq_true] at ok
    obtain ⟨⟨⟨k1, k2⟩, k3⟩, k4⟩ := ok
    simp only [exec] at he
    have fin : ∀ {te : TE}, EvR w A C W te σ H (ev c e ρ) → tAsg te (gT w.K g) D σ H := fun {te} r => by
      refine go_ok (Q := fun v H1 => gT w.K g v σ H1 D.nx) so r he fun y hy he' v H1 e1 h1 so1 => ?_
      have hb := h1.rd so.al
      cases hr : y.rd with
      | sh d =>
        simp only [hr] at he'
        rw [hr] at hb
        cases hg : tgV g (.sh d) ρ with
        | none => rw [hg] at he'; exact he'.elim
        | some ρ1 =>
          rw [hg] at he'
          exact tgS_ok so1 hb rfl hg fun σ' s' => he' σ' H1 A s' (Gr.ex e1)
      | ro d =>
        simp only [hr] at he'
        rw [hr] at hb
        by_cases hs : d.scal = true
        · rw [if_pos hs] at he'
          have hb2 : BwAt w H1 A C v (.sh d) := by
            simp only [BwAt] at hb ⊢
            exact hb.scal hs
          cases hg : tgV g (.sh d) ρ with
          | none => simp only [hg] at he'; exact he'.elim
          | some ρ1 =>
            simp only [hg] at he'
            exact tgS_ok so1 hb2 rfl hg fun σ' s' => he' σ' H1 A s' (Gr.ex e1)
        · rw [if_neg hs] at he'
          cases hg : tgV g (.ro d) ρ with
          | none => simp only [hg] at he'; exact he'.elim
          | some ρ1 =>
            simp only [hg] at he'
            exact tgS_ok so1 hb rfl hg fun σ' s' => he' σ' H1 A s' (Gr.ex e1)
      | lst ts => simp only [hr] at he'; exact he'.elim
      | scr ns => simp only [hr] at he'; exact he'.elim
    match tg, k1, k3 with
    | .Tuple elts kk tp, k1, k3 =>
      refine sW_of (ps_asg pe_W ?_ ?_ ?_) (fin ((soundE e).v _ _ _ _ _ _ _ _ (so.pt p) k4))
      · rw [← p.good.K]
        exact pg_T p.good.nd p.good.calm (by rw [p.good.N]; exact k1) fun i y hi hy => locC_ok p (List.all_eq_true.mp k2 i hi) hy
      · cases x <;> rfl
      · simp only [asgC] at k3
        cases x <;> first | rfl | (simp only [notTup] at k3; cases k3)
    | .Name n np, k1, k3 =>
      cases g with
      | tp is => simp only [okTg] at k1; cases k1
      | nm i =>
        simp only [okTg, decide_eq_true_eq] at k1
        obtain ⟨te, ps, r⟩ := ps_name (py := np) (spos := pos) p (by rw [p.good.N]; exact k1) (List.all_eq_true.mp k2 i (by simp [Tg.slots])) k4 so
        exact sW_of ps (fin r)
  · cases ok
theorem lst_rp {A C : List Addr} {as : List Addr} {v : V} {ts : List T} {Hb : Hp} (al : Al Hb (A ++ C)) (h : VAt w A C Hb v (.fr (.lst ts)) H) :
    ∃ p vs, v = .ref p ∧ H p = some (.lst vs) ∧ RpL w (hide H (p :: (A ++ C))) vs (T.ds ts) ∧ Hb p = none := by
  obtain ⟨as, h1, h2, h3⟩ := h
  simp only [OwAt] at h1
  obtain ⟨p, vs, bs, rfl, rfl, k1, k2⟩ := h1
  refine ⟨p, vs, rfl, k1, k2.rp (O' := p :: (A ++ C)) (fun a ha => ?_) (fun a ha z => ?_), h3 p List.mem_cons_self⟩
  · rcases List.mem_cons.mp ha with rfl | ha
    · exact List.mem_append_left _ List.mem_cons_self
    · exact List.mem_append_right _ ha
  · rcases List.mem_cons.mp z with rfl | z
    · exact (List.nodup_cons.mp h2).1 ha
    · exact al.not (h3 a (List.mem_cons_of_mem _ ha)) z
theorem snd_own (i : Nat) (e : E) : SndS c w lv (.own i e) := by
  intro st X W Hc C D σ H A ρ p ok so he
  unfold okSt at ok
  split at ok
  · rename_i n np x pos
    simp only [Bool.and_eq_true, decide_eq_true_eq] at ok
    obtain ⟨⟨k1, k2⟩, k3⟩ := ok
    simp only [exec] at he
    obtain ⟨te, ps, r⟩ := ps_name (py := np) (spos := pos) p (by rw [p.good.N]; exact k1) k2 k3 so
    refine sW_of ps (go_ok (Q := fun v H1 => gName i v σ H1 D.nx) so r he fun y hy he' v H1 e1 h1 so1 => ?_)
    match y, h1, he' with
    | .fr (.lst ts), h1, he' =>
      simp only at he'
      split at he'
      · obtain ⟨a, vs, rfl, q1, q2, q3⟩ := lst_rp (as := []) so.al h1
        exact he' _ H1 (a :: A) (StOk.own so1 (fun z => so.al.not q3 (List.mem_append_left _ z)) (fresh_back so.ex q3) q1 q2 (fun o z => by rw [q3] at z; cases z) e1 so) (hide_grow e1 fun b hb => by
          rcases List.mem_cons.mp hb with rfl | hb
          · exact .inr q3
          · exact .inl hb)
      · exact he'.elim
    | .fr (.sh _), _, he' => exact he'.elim
    | .fr (.ro _), _, he' => exact he'.elim
    | .fr (.scr _), _, he' => exact he'.elim
    | .bw _, _, he' => exact he'.elim
  · cases ok
theorem aug_core (p : PtS c w lv X W) (so : StOk w Hc C σ H A ρ) {i : Nat} {n : Str} {np pos : Pos} {o : Operator} {x : Expr} {e : E} {t : T} {v : V} (f : Int → Int → Int) (hf : PIp X o (ipI f)) (hy : X.N[i]? = some n) (st : StoreOk X n)
    (k3 : okE c X.env.scope e x = true) (hs : σ[i]? = some (some v)) (hv : SlotAt w H A C v t)
    (he : EndOk w Hc C W D H A ((ev c e ρ).go ρ fun y => match t.d, y.d with | .int a, .int b => Out.nx (ρ.set i (some (.sh (.int (f a b))))) | _, _ => .bad)) : sW X (.AugAssign (.Name n np) o x pos) D σ H := by
  refine sW_of (ps_aug p.good.nd hy st.1 pe_W hf st.2) ⟨v, hs, go_ok (Q := fun y H1 => ipI f v y H1 fun z H2 => D.nx (σ.set i (some z)) H2) so ((soundE e).v _ _ _ _ _ _ _ _ (so.pt p) k3) he fun y hy he' u H1 e1 h1 so1 => ?_⟩
  split at he'
  · rename_i a b ha hb
    have hv' : v = .int a := by
      have := (hv.bw).rq
      rw [ha] at this
      exact rp_i this
    have hu : u = .int b := h1.int so.al hb
    exact ⟨a, b, hv', hu, he' _ H1 A (so1.set rfl (BwAt.sh_of (by simp only [Rp]))) (Gr.ex e1)⟩
  · exact he'.elim
theorem snd_aug (i : Nat) (op : Bop) (e : E) : SndS c w lv (.aug i op e) := by
  intro st X W Hc C D σ H A ρ p ok so he
  unfold okSt at ok
  split at ok
  · rename_i n np o x pos
    simp only [Bool.and_eq_true, Bool.or_eq_true, decide_eq_true_eq] at ok
    obtain ⟨⟨⟨⟨k1, k2⟩, rfl⟩, k3⟩, k4⟩ := ok
    have hy : X.N[i]? = some n := by rw [p.good.N]; exact k1
    have st := locC_ok p k2 hy
    simp only [exec] at he
    split at he
    · rename_i t ht
      obtain ⟨v, hs, hv⟩ := so.slot i t ht
      rcases k4 with rfl | rfl
      · exact aug_core p so (fun a b => a + b) ip_add hy st k3 hs hv he
      · exact aug_core p so (fun a b => a - b) ip_sub hy st k3 hs hv he
    · exact he.elim
  · cases ok
theorem var_pe {i : Nat} {n : Str} {np : Pos} (g : Good c w lv X) (ok : okE c X.env.scope (.var i) (.Name n np) = true) : PE X (.Name n np) (tVar i) := by
  unfold okE at ok
  simp only [Bool.and_eq_true, decide_eq_true_eq, Bool.not_eq_true'] at ok
  obtain ⟨⟨⟨k1, k2⟩, k3⟩, k4⟩ := ok
  exact pe_var (by rw [g.N]; exact k1) (visC_ok k2) k3 k4
theorem RpL.set {u : V} {d : Mi.D} : ∀ {vs : List V} {ds : List Mi.D} (j : Nat), RpL w H vs ds → Rp w H u d → RpL w H (vs.set j u) (ds.set j d)
  | [], [], _, _, _ => by simp only [List.set_nil, RpL]
  | _ :: _, [], _, h, _ => by simp only [RpL] at h
  | [], _ :: _, _, h, _ => by simp only [RpL] at h
  | v :: vs, e :: ds, 0, h, g => by
    simp only [RpL] at h
    simp only [List.set_cons_zero, RpL]
    exact ⟨g, h.2⟩
  | v :: vs, e :: ds, j + 1, h, g => by
    simp only [RpL] at h
    simp only [List.set_cons_succ, RpL]
    exact ⟨h.1, RpL.set j h.2 g⟩
theorem snd_app (i : Nat) (e : E) : SndS c w lv (.app i e) := by
  intro st X W Hc C D σ H A ρ p ok so he
  unfold okSt at ok
  split at ok
  · rename_i n np m apos x cpos pos
    simp only [Bool.and_eq_true, decide_eq_true_eq] at ok
    obtain ⟨⟨⟨⟨rfl, k0⟩, k1⟩, k2⟩, k3⟩ := ok
    simp only [exec] at he
    have pe : PE X (.Call (.Attribute (.Name n np) "append" apos) [x] [] cpos) (tBM X.K "list" rAppend (tVar i) (tCons (tW X x) tNil)) :=
      pe_bm F.plainAttrs_list F.slot_list_append rfl mt_append (var_pe p.good k2) (pa_cons pe_W pa_nil (star_cons k1)) rfl (by rw [star_cons k1]; rfl) k0 (star_cons k1) rfl
    refine sW_of (ps_expr pe (sw_plain rfl)) ?_
    split at he
    · rename_i ts hi
      obtain ⟨v, hs, a, vs, ds, rfl, rfl, ha, hl, hr⟩ := so.slot i _ hi
      refine ⟨_, hs, .inl ⟨rfl, vs, .of hl⟩, ?_⟩
      refine go_ok (Q := fun u H1 => rAppend (.ref a) [u] H1 fun _ H2 => D.nx σ H2) so ((soundE e).v _ _ _ _ _ _ _ _ (so.pt p) k3) he fun y hy he' u H1 e1 h1 so1 => ?_
      split at he'
      · rename_i d hd
        split at he'
        · rename_i hlen
          have r1 := hr.ex (hide_ex e1)
          have r2 := h1.shr so.al hd
          have hvl : vs.length < sizeLine := by
            rw [List.length_map] at hlen
            rw [hr.length]
            exact hlen
          refine ⟨a, vs, u, rfl, rfl, e1 _ _ hl, hvl, ?_⟩
          have e2 : ds.map T.sh ++ [T.sh d] = (ds ++ [d]).map T.sh := by simp
          rw [e2] at he'
          exact he' σ _ A (so1.write hi hs ha (r1.app (.one r2))) ((Gr.ex e1).trans (Gr.write ha))
        · exact he'.elim
      · exact he'.elim
    · exact he.elim
  · cases ok
theorem snd_setI (i : Nat) (k e : E) : SndS c w lv (.setI i k e) := by
  intro st X W Hc C D σ H A ρ p ok so he
  unfold okSt at ok
  split at ok
  · rename_i n np y q x pos
    simp only [Bool.and_eq_true] at ok
    obtain ⟨⟨k1, k2⟩, k3⟩ := ok
    simp only [exec] at he
    have hy : ∀ v, assign (.Subscript (.Name n np) y q) X.env v = (do
        let ov ← holding [v] (eval (.Name n np) X.env)
        let iv ← holding [v, ov] (eval y X.env)
        standAt q
        holding [v, ov, iv] (setItem ov iv v)
        release [v, ov, iv] []) := by
      intro v
      cases y <;> first | rfl | (cases k <;> (unfold okE at k2; simp only at k2; cases k2))
    refine sW_of (ps_asg pe_W (pg_sub (var_pe p.good k1) (pe_W (e := y)) set_list hy) (by cases x <;> rfl) (by cases x <;> rfl)) ?_
    split at he
    · rename_i ts hi
      obtain ⟨v, hs, a, vs, ds, rfl, rfl, ha, hl, hr⟩ := so.slot i _ hi
      refine go_ok (Q := fun u H1 => gSub (tVar i) (tW X y) rSetL u σ H1 D.nx) so ((soundE e).v _ _ _ _ _ _ _ _ (so.pt p) k3) he fun z hz he' u H1 e1 h1 so1 => ?_
      refine ⟨_, hs, go_ok (Q := fun b H2 => rSetL (.ref a) b u H2 fun H3 => D.nx σ H3) so1 ((soundE k).v _ _ _ _ _ _ _ _ (so1.pt p) k2) (he'.gr (Gr.ex e1)) fun z2 hz2 he2 b H2 e2 h2 so2 => ?_⟩
      split at he2
      · rename_i n d hn hd
        split at he2
        · rename_i j hj
          have r1 := hr.ex (hide_ex (e1.trans e2))
          have r2 := (h1.ex e2).shr so.al hd
          cases h2.int so1.al hn
          have hvl : ixN vs.length n = some j := by
            rw [hr.length]
            rw [List.length_map] at hj
            exact hj
          refine ⟨a, vs, n, j, rfl, rfl, e2 _ _ (e1 _ _ hl), hvl, ?_⟩
          have e3 : (ds.map T.sh).set j (T.sh d) = (ds.set j d).map T.sh := by rw [List.map_set]
          rw [e3] at he2
          exact he2 σ _ A (so2.write hi hs ha (RpL.set j r1 r2)) ((Gr.ex e2).trans (Gr.write ha))
        · exact he2.elim
      · exact he2.elim
    · exact he.elim
  · cases ok
theorem snd_drop (e : E) : SndS c w lv (.drop e) := by
  intro st X W Hc C D σ H A ρ p ok so he
  unfold okSt at ok
  split at ok
  · simp only [Bool.and_eq_true] at ok
    simp only [exec] at he
    exact sW_of (ps_expr pe_W (sw_plain ok.1)) (go_ok (Q := fun _ H1 => D.nx σ H1) so ((soundE e).v _ _ _ _ _ _ _ _ (so.pt p) ok.2) he fun y hy he' u H1 e1 h1 so1 => he' σ H1 A so1 (Gr.ex e1))
  · cases ok
theorem snd_retN : SndS c w lv .retN := by
  intro st X W Hc C D σ H A ρ p ok so he
  unfold okSt at ok
  split at ok
  · simp only [exec] at he
    exact sW_of ps_retN (he _ _ so.ex (VAt.sh_of (by simp only [Rp])))
  · cases ok
theorem snd_brk : SndS c w lv .brk := by
  intro st X W Hc C D σ H A ρ p ok so he
  unfold okSt at ok
  split at ok
  · simp only [exec] at he
    exact sW_of ps_break (he σ H A so Gr.refl)
  · cases ok
theorem snd_cnt : SndS c w lv .cnt := by
  intro st X W Hc C D σ H A ρ p ok so he
  unfold okSt at ok
  split at ok
  · simp only [exec] at he
    exact sW_of ps_continue (he σ H A so Gr.refl)
  · cases ok
theorem snd_pss : SndS c w lv .pss := by
  intro st X W Hc C D σ H A ρ p ok so he
  unfold okSt at ok
  split at ok
  · simp only [exec] at he
    exact sW_of ps_pass (he σ H A so Gr.refl)
  · cases ok
/-- what leaves a frame -/
theorem VAt.leave {v : V} {x : Vl} {Hb : Hp} (so : StOk w Hc C σ Hb A ρ) (h : VAt w A C Hb v x H) (hx : (∃ t, x = .fr t) ∨ (∃ d, x = .bw (.sh d))) : VAt w [] C Hc v x H := by
  have sub : ∀ (B : List Addr), ∀ a ∈ B ++ ([] ++ C), a ∈ B ++ (A ++ C) := fun B a ha => by
    rcases List.mem_append.mp ha with ha | ha
    · exact List.mem_append_left _ ha
    · exact List.mem_append_right _ (List.mem_append_right _ ha)
  rcases hx with ⟨t, rfl⟩ | ⟨d, rfl⟩
  · obtain ⟨as, h1, h2, h3⟩ := h
    exact ⟨as, h1.keep (hide_less (sub as)) fun _ _ => rfl, h2, fun a ha => fresh_back so.ex (h3 a ha)⟩
  · have h : BwAt w H A C v (.sh d) := h
    show BwAt w H [] C v (.sh d)
    simp only [BwAt] at h ⊢
    exact h.ex (hide_less (sub []))
theorem snd_ret (e : E) : SndS c w lv (.ret e) := by
  intro st X W Hc C D σ H A ρ p ok so he
  unfold okSt at ok
  split at ok
  · rename_i x pos
    simp only [exec] at he
    by_cases hv : ∃ i ts, e = .var i ∧ ev c e ρ = .ok (.bw (.lst ts))
    · obtain ⟨i, ts, rfl, hev⟩ := hv
      rw [hev] at he
      simp only [Res.go_ok] at he
      have hi : ρ[i]? = some (some (.lst ts)) := by
        simp only [ev] at hev
        split at hev
        · rename_i t ht
          cases hev
          exact ht
        · cases hev
      obtain ⟨v, hs, a, vs, ds, rfl, rfl, ha, hl, hr⟩ := so.slot i _ hi
      have ok2 := ok
      unfold okE at ok2
      split at ok2
      · rename_i n np
        refine sW_of (ps_ret (var_pe p.good ok)) ⟨_, hs, he _ _ so.ex ⟨[a], ?_, by simp, fun b hb => ?_⟩⟩
        · simp only [OwAt]
          refine ⟨a, vs, [], rfl, rfl, hl, OwAtL.leaves (hr.ex (hide_less fun b hb => ?_))⟩
          rcases List.mem_cons.mp hb with rfl | hb
          · exact List.mem_append_left _ ha
          · exact List.mem_append_right _ hb
        · have : b = a := by simpa using hb
          subst this
          exact so.new _ ha
      · cases ok2
    · refine sW_of (ps_ret pe_W) (go_ok (Q := D.rt) so ((soundE e).v _ _ _ _ _ _ _ _ (so.pt p) ok) he fun y hy he' u H1 e1 h1 so1 => ?_)
      have sh : ∀ d, EndOk w Hc C W D H A (.ret (.sh d)) → VAt w A C H u (.sh d) H1 → D.rt u H1 := fun d he' h1 => he' u H1 so1.ex (h1.leave so (.inr ⟨d, rfl⟩))
      cases y with
      | fr t => exact he' u H1 so1.ex (h1.leave so (.inl ⟨t, rfl⟩))
      | bw t =>
        cases t with
        | sh d => exact sh d (by cases e <;> exact he') h1
        | ro d =>
          have he2 : EndOk w Hc C W D H A (if d.scal then .ret (.sh d) else .bad) := by cases e <;> exact he'
          split at he2
          · rename_i hs
            refine sh d he2 (VAt.sh_of ?_)
            have h1 : BwAt w H1 A C u (.ro d) := h1
            simp only [BwAt] at h1
            exact h1.scal hs
          · exact he2.elim
        | lst ts =>
          cases e <;> first | exact he'.elim | skip
          exact absurd ⟨_, ts, rfl, hy⟩ hv
        | scr ns => cases e <;> exact he'.elim
  · cases ok
theorem snd_ifS {t : E} {a b : List S} (ha : SndB c w lv a) (hb : SndB c w lv b) : SndS c w lv (.ifS t a b) := by
  intro st X W Hc C D σ H A ρ p ok so he
  unfold okSt at ok
  split at ok
  · simp only [Bool.and_eq_true] at ok
    simp only [exec] at he
    refine sW_of (ps_if pt_W pss_W pss_W) (goT_ok (Q := fun b H1 => if b = true then _ else _) so ((soundE t).t _ _ _ _ _ _ _ _ (so.pt p) ok.1.1) he fun k hk he' H1 e1 so1 => ?_)
    cases k with
    | true =>
      simp only [if_true] at he' ⊢
      exact ha _ _ _ _ _ _ _ _ _ _ p ok.1.2 so1 (he'.gr (Gr.ex e1))
    | false =>
      simp only [Bool.false_eq_true, if_false] at he' ⊢
      exact hb _ _ _ _ _ _ _ _ _ _ p ok.2 so1 (he'.gr (Gr.ex e1))
  · cases ok
/-- a walk's turns -/
theorem snd_forS (g : Tg) (k : Src) (es : List E) {body : List S} (hb : SndB c w lv body) : SndS c w lv (.forS g k es body) := by
  intro st X W Hc C D σ H A ρ p ok so he
  unfold okSt at ok
  split at ok
  · rename_i tg iter sts pos
    simp only [Bool.and_eq_true] at ok
    obtain ⟨⟨⟨k1, k2⟩, k3⟩, k4⟩ := ok
    simp only [exec] at he
    have pg : PG X tg (gT w.K g) := by
      rw [← p.good.K]
      exact pg_T p.good.nd p.good.calm (by rw [p.good.N]; exact k1) fun i y hi hy => locC_ok p (List.all_eq_true.mp k2 i hi) hy
    refine sW_of (ps_for p.po p.good.calm pi_W pg pss_W (src_noset k3 X.env)) ?_
    cases hes : evs c es ρ with
    | bad => rw [hes] at he; exact he.elim
    | exc cc vs =>
      have r := (soundL es).s k tg iter X W A C σ H ρ (so.pt p) k3 false (fun _ _ z => by cases z)
      rw [hes] at he r
      exact r H (Ex.refl _) _ fun kk dx H1 e1 x => he kk dx σ H1 A (so.up e1) (Gr.ex e1) x
    | ok xs =>
      rw [hes] at he
      simp only [Res.go_ok] at he
      cases hsv : srcV k xs with
      | bad => rw [hsv] at he; exact he.elim
      | exc cc vs => exact absurd hsv srcV_exc
      | ok ts =>
        rw [hsv] at he
        simp only [Res.go_ok] at he
        split at he
        · rename_i hst
          simp only [Bool.and_eq_true] at hst
          have r := (soundL es).s k tg iter X W A C σ H ρ (so.pt p) k3 true (fun ys hy _ => by rw [hes] at hy; cases hy; exact hst.2)
          rw [hes] at r
          simp only [Res.bnd_ok, hsv] at r
          refine r H (Ex.refl _) _ fun J H1 e1 hJ => ?_
          refine ⟨fun i m σ' H' => m = ts.length - i ∧ i ≤ ts.length ∧ ∃ A' ρ', StOk w Hc C σ' H' A' ρ' ∧ Gr H1 A H' A' ∧ EndOk w Hc C W D H1 A (forGo g (execs c body) (ts.drop i) ρ'), ⟨ts.length, by simp, Nat.zero_le _, A, ρ, so.up e1, Gr.refl, he.gr (Gr.ex e1)⟩, ?_⟩
          rintro i m σ1 H2 ⟨rfl, hi, A1, ρ1, so1, g1, ee⟩
          obtain ⟨j1, j2⟩ := hJ H2 A1 ⟨so1.al, .inr ⟨rfl, g1, g1.app⟩⟩
          by_cases hlt : i < ts.length
          · obtain ⟨t, ht⟩ : ∃ t, ts[i]? = some t := ⟨_, List.getElem?_eq_getElem hlt⟩
            obtain ⟨jg, jy⟩ := j1 i t ht
            have hdrop : ts.drop i = t :: ts.drop (i + 1) := by
              rw [List.drop_eq_getElem_cons hlt]
              congr
              rw [List.getElem?_eq_getElem hlt] at ht
              exact Option.some.inj ht
            have hts : t.still = true := List.all_eq_true.mp hst.1 t (List.mem_of_getElem? ht)
            rw [hdrop] at ee
            simp only [forGo] at ee
            refine .inr ⟨jg, fun σ' H' => ∃ A' ρ', StOk w Hc C σ' H' A' ρ' ∧ Gr H1 A H' A' ∧ EndOk w Hc C W D H1 A (forGo g (execs c body) (ts.drop (i + 1)) ρ'), fun σ' H' hn => ⟨ts.length - (i + 1), by omega, rfl, hlt, hn⟩, fun x H3 hy => ?_⟩
            obtain ⟨e3, hb3⟩ := jy x H3 hy
            cases htg : tgV g t ρ1 with
            | none => simp only [htg] at ee; exact ee.elim
            | some ρ2 =>
              simp only [htg] at ee
              refine tgS_ok (so1.up e3) hb3 hts htg fun σ2 so2 => ?_
              have g2 : Gr H1 A H3 A1 := g1.trans (Gr.ex e3)
              refine hb _ _ _ _ _ _ _ _ _ _ p k4 so2 ?_
              cases hx : execs c body ρ2 with
              | nx ρ3 => rw [hx] at ee; exact fun σ' H' A' s' g' => ⟨A', ρ3, s', g2.trans g', ee⟩
              | cnt ρ3 => rw [hx] at ee; exact fun σ' H' A' s' g' => ⟨A', ρ3, s', g2.trans g', ee⟩
              | brk ρ3 => rw [hx] at ee; exact fun σ' H' A' s' g' => ee σ' H' A' s' (g2.trans g')
              | ret y => rw [hx] at ee; exact ee
              | exc cc vs ρ3 => rw [hx] at ee; exact fun kk dx σ' H' A' s' g' => ee kk dx σ' H' A' s' (g2.trans g')
              | bad => rw [hx] at ee; exact ee.elim
          · have ei : i = ts.length := by omega
            subst ei
            rw [List.drop_length] at ee
            exact .inl ⟨j2, ee σ1 H2 A1 so1 g1⟩
        · exact he.elim
  · cases ok
theorem snd_whl (n : Nat) (t : E) {body : List S} (hb : SndB c w lv body) : SndS c w lv (.whl n t body) := by
  intro st X W Hc C D σ H A ρ p ok so he
  unfold okSt at ok
  split at ok
  · rename_i x sts pos
    simp only [Bool.and_eq_true] at ok
    simp only [exec] at he
    refine sW_of (ps_while p.po pt_W pss_W) ⟨fun m σ' H' => ∃ A' ρ', StOk w Hc C σ' H' A' ρ' ∧ Gr H A H' A' ∧ EndOk w Hc C W D H A (whGo (evT c t) (execs c body) m ρ'), ⟨n, A, ρ, so, Gr.refl, he⟩, ?_⟩
    rintro m σ1 H1 ⟨A1, ρ1, so1, g1, ee⟩
    cases m with
    | zero => exact ee.elim
    | succ m =>
      simp only [whGo] at ee
      refine goT_ok (Q := fun b H1 => if b = true then _ else _) so1 ((soundE t).t _ _ _ _ _ _ _ _ (so1.pt p) ok.1) (ee.gr g1) fun k hk he' H2 e2 so2 => ?_
      cases k with
      | true =>
        simp only [if_true] at he' ⊢
        have g2 := g1.trans (Gr.ex (A := A1) e2)
        have ee2 : EndOk w Hc C W D H A (match execs c body ρ1 with
          | .nx ρ2 => whGo (evT c t) (execs c body) m ρ2
          | .cnt ρ2 => whGo (evT c t) (execs c body) m ρ2
          | .brk ρ2 => .nx ρ2
          | o => o) := by
          rw [hk] at ee
          exact ee
        refine ⟨fun σ' H' => ∃ A' ρ', StOk w Hc C σ' H' A' ρ' ∧ Gr H A H' A' ∧ EndOk w Hc C W D H A (whGo (evT c t) (execs c body) m ρ'), fun σ' H' hn => ⟨m, Nat.lt_succ_self m, hn⟩, ?_⟩
        refine hb _ _ _ _ _ _ _ _ _ _ p ok.2 so2 ?_
        cases hx : execs c body ρ1 with
        | nx ρ3 => rw [hx] at ee2; exact fun σ' H' A' s' g' => ⟨A', ρ3, s', g2.trans g', ee2⟩
        | cnt ρ3 => rw [hx] at ee2; exact fun σ' H' A' s' g' => ⟨A', ρ3, s', g2.trans g', ee2⟩
        | brk ρ3 => rw [hx] at ee2; exact fun σ' H' A' s' g' => ee2 σ' H' A' s' (g2.trans g')
        | ret y => rw [hx] at ee2; exact ee2
        | exc cc vs ρ3 => rw [hx] at ee2; exact fun kk dx σ' H' A' s' g' => ee2 kk dx σ' H' A' s' (g2.trans g')
        | bad => rw [hx] at ee2; exact ee2.elim
      | false =>
        simp only [Bool.false_eq_true, if_false] at he' ⊢
        exact he' σ1 H2 A1 so2 (Gr.ex e2)
  · cases ok
/-- X(..) of an own exception class without own __init__, no argument -/
theorem pmk_own0 {C : Addr} {bmB : List Value} {B newId initId : String} {x : Str} {p pos : Pos} (F : ExcBaseFacts B newId initId bmB) (q : PySem.W.excIn X.K C bmB newId = true) (gC : X.mg x = some (.ref C))
    (kC : PySem.W.keepIn X.K (.ref C) = true) (r : Raises X (.ref C)) (hg : Gl X x) (hdb : (x == ("__debug__" : Str)) = false) :
    PMk X (.Call (.Name x p) [] [] pos) (fun σ H Q => Q (.ref C) none H) := by
  intro pins s σ H Q I h
  refine wpAny_Call_Name_kw (ld_glob I hg gC ?_ hdb)
  refine PySem.W.callWith_K0 I.kIn kC ?_
  show wpAny _ _ (call (.ref C) []) _ _ _
  obtain ⟨bm, N, nm, qn, bs, hdct, sn, sub, ab, col, dd, k0, k1, k2, k3, k5, mN, hC, hN, hni, T⟩ := exc_obj I.kIn q
  refine wpAny_call_exc_subT F T hC hN hni (fun h' e hm => ?_) (by show 0 ≤ sizeLine; exact Nat.zero_le _)
  exact mk_of I hm r h (I.hok.gone hm.new)
theorem snd_rse (x : Str) (es : List E) : SndS c w lv (.rse x es) := by
  intro st X W Hc C D σ H A ρ p ok so he
  unfold okSt at ok
  split at ok
  · rename_i n np xs cpos pos
    simp only [Bool.and_eq_true, decide_eq_true_eq] at ok
    obtain ⟨⟨⟨rfl, k1⟩, k2⟩, k3⟩ := ok
    obtain ⟨g1, g2, g3⟩ := Gl_of k1
    simp only [exec] at he
    have r := (soundL es).a xs X W A C σ H ρ (so.pt p) k3
    by_cases hx : x ∈ c.exA
    · rw [if_pos hx] at he
      obtain ⟨bmB, B, newId, initId, f1, f2, f3, f4, f5, f6⟩ := p.good.exA x hx
      have rs : Raises X (.ref (w.cl x)) := raises_own f5 f6
      have fin : ∀ H1 ys, Ex H H1 → EndOk w Hc C W D H A (if List.length ys ≤ sizeLine then .exc x [] ρ else .bad) → W (.ref (w.cl x)) none σ H1 := fun H1 (ys : List Vl) e1 he' => by
        split at he'
        · exact he' _ _ σ H1 A (so.up e1) (Gr.ex e1) ⟨rfl, .inl ⟨rfl, rfl⟩⟩
        · exact he'.elim
      cases xs with
      | nil =>
        have : es = [] := by
          cases es with
          | nil => rfl
          | cons _ _ => unfold okEs at k3; cases k3
        subst this
        simp only [evs, Res.go_ok] at he
        exact sW_of (ps_raise p.good.calm p.tk (pmk_own0 f1 f2 f3 f4 rs g1 g2)) (fin H [] (Ex.refl _) he)
      | cons y ys =>
        have k2' := k2
        simp only [List.all_cons, Bool.and_eq_true] at k2'
        refine sW_of (ps_raise p.good.calm p.tk (pmk_ownA f1 f2 f3 f4 rs g1 (pa_W k2) g2 (star_cons k2'.1) (star_pl k2'.2))) (goA_ok (Q := fun vs H1 => vs.length ≤ sizeLine ∧ W (.ref (w.cl x)) none σ H1) so r he fun zs hz he' vs H1 e1 h1 so1 => ⟨?_, fin H1 zs e1 he'⟩)
        rw [h1.length]
        split at he'
        · rename_i hh
          exact hh
        · exact he'.elim
    · rw [if_neg hx] at he
      exact he.elim
  · cases ok
/-! ### blocks -/
theorem sb_nil : SndB c w lv [] := by
  intro sts X W Hc C D σ H A ρ p ok so he
  unfold okBd at ok
  split at ok
  · simp only [execs] at he
    exact ssW_of pss_nil (he σ H A so Gr.refl)
  · cases ok
theorem sb_cons {s : S} {ss : List S} (hs : SndS c w lv s) (hb : SndB c w lv ss) : SndB c w lv (s :: ss) := by
  intro sts X W Hc C D σ H A ρ p ok so he
  simp only [okBd, Bool.or_eq_true] at ok
  rcases ok with ok | ok
  · split at ok
    · rename_i i
      simp only [execs, exec] at he
      cases hi : ρ[i]? with
      | none => simp only [hi] at he; exact he.elim
      | some o =>
        cases o with
        | none => simp only [hi] at he; exact he.elim
        | some t =>
          cases t with
          | sh d => simp only [hi] at he; exact he.elim
          | ro d => simp only [hi] at he; exact he.elim
          | scr d => simp only [hi] at he; exact he.elim
          | lst ts =>
            simp only [hi] at he
            obtain ⟨v, hs, a, vs, ds, rfl, rfl, ha, hl, hr⟩ := so.slot i _ hi
            obtain ⟨A', so', g'⟩ := so.freeze hi
            rw [T.ds_sh] at he
            exact hb _ _ _ _ _ _ _ _ _ _ p ok so' (he.gr g')
    · cases ok
  · split at ok
    · simp only [Bool.and_eq_true] at ok
      simp only [execs] at he
      refine ssW_of (pss_cons ps_W pss_W) (hs _ _ _ _ _ _ _ _ _ _ p ok.1 so ?_)
      cases hx : exec c s ρ with
      | nx ρ1 => rw [hx] at he; exact fun σ' H' A' s' g' => hb _ _ _ _ _ _ _ _ _ _ p ok.2 s' (he.gr g')
      | ret x => rw [hx] at he; exact he
      | brk ρ1 => rw [hx] at he; exact he
      | cnt ρ1 => rw [hx] at he; exact he
      | exc cc vs ρ1 => rw [hx] at he; exact he
      | bad => rw [hx] at he; exact he.elim
    · cases ok
mutual
theorem soundS : ∀ s : S, SndS c w lv s
  | .asg g e => snd_asg g e
  | .own i e => snd_own i e
  | .aug i op e => snd_aug i op e
  | .app i e => snd_app i e
  | .setI i k e => snd_setI i k e
  | .drop e => snd_drop e
  | .ret e => snd_ret e
  | .retN => snd_retN
  | .ifS t a b => snd_ifS (soundB a) (soundB b)
  | .forS g k es body => snd_forS g k es (soundB body)
  | .whl n t body => snd_whl n t (soundB body)
  | .brk => snd_brk
  | .cnt => snd_cnt
  | .pss => snd_pss
  | .rse x es => snd_rse x es
  | .tryS _ _ _ _ => fun st X W Hc C D σ H A ρ p ok so he => by
    simp only [exec] at he
    exact he.elim
  | .frz _ => fun st X W Hc C D σ H A ρ p ok so he => by
    unfold okSt at ok
    cases ok
theorem soundB : ∀ ss : List S, SndB c w lv ss
  | [] => sb_nil
  | s :: ss => sb_cons (soundS s) (soundB ss)
end
end
/-! ### a def -/
/-- what a configuration asks of the module -/
structure Env1 (c : Cfg) (w : Wd) (P : Program) (wo : World) (K : PySem.W.Frag) (mg : Str → Option Value) (base : Heap) (lv : Nat) : Prop where
  Ke : K = w.K
  funs : ∀ f g, c.fn f = some g → ∃ a fd, FnOk P wo K mg base (L2.CX P wo) lv a fd g.ps (SpV w g.ps.length g.run) ∧ mg f = some (.ref a) ∧ PySem.W.keepIn K (.ref a) = true ∧ Binds K fd g.ps []
  consts : ∀ x d, c.consts.lookup x = some d → ∃ v u, mg x = some u ∧ RelV v u ∧ ∀ H, Rp w H v d
  free : ∀ x ∈ c.free, mg x = none
  exA : ∀ x ∈ c.exA, ExcA K mg x (w.cl x)
def scopeC (N ps : List Str) (sc : Scope) : Bool :=
  decide (sc.kind = .function) && !sc.isCoroutine && !sc.isGenerator && decide N.Nodup && decide (N.take ps.length = ps) && (ps.all fun x => decide (sc.names.lookup x = some .local) || decide (sc.names.lookup x = some .cell)) && (sc.names.all fun y => decide (y.2 ≠ .free))
theorem scopeC_ok {N ps : List Str} {sc : Scope} (h : scopeC N ps sc = true) : FnScope N ps sc := by
  unfold scopeC at h
  simp only [Bool.and_eq_true, Bool.not_eq_true', decide_eq_true_eq, List.all_eq_true, Bool.or_eq_true] at h
  obtain ⟨⟨⟨⟨⟨⟨h1, h2⟩, h3⟩, h4⟩, h5⟩, h6⟩, h7⟩ := h
  exact ⟨h1, h2, h3, h4, h5, h6, h7⟩
theorem start_env {w : Wd} {H : Hp} {C : List Addr} {N : List Str} : ∀ {vs : List V} {ts : List T}, BwAtL w H [] C vs ts → ts.all T.still = true → ∀ (i : Nat) t, (ts.map some ++ List.replicate (N.length - ts.length) none)[i]? = some (some t) →
    ∃ v, (L2.start N vs)[i]? = some (some v) ∧ SlotAt w H [] C v t ∧ t.still = true := by
  intro vs ts h hs i t e
  have hl := h.length
  by_cases hi : i < ts.length
  · rw [List.getElem?_append_left (by simpa using hi), List.getElem?_map] at e
    obtain ⟨t', e1, e2⟩ := Option.map_eq_some_iff.mp e
    cases e2
    obtain ⟨v, q1, q2⟩ := h.get e1
    have st : t.still = true := List.all_eq_true.mp hs t (List.mem_of_getElem? e1)
    refine ⟨v, ?_, ?_, st⟩
    · unfold L2.start
      rw [List.getElem?_append_left (by simp; omega), List.getElem?_map, q1]
      rfl
    · cases t with
      | lst _ => cases st
      | sh d => exact q2
      | ro d => exact q2
      | scr d => exact q2
  · rw [List.getElem?_append_right (by simpa using hi)] at e
    have := List.mem_of_getElem? e
    rw [List.mem_replicate] at this
    cases this.2
/-- THE RULE: a def whose text the check takes does what its term does -/
theorem def_ok {c : Cfg} {w : Wd} {P : Program} {wo : World} {K : PySem.W.Frag} {mg : Str → Option Value} {base : Heap} {lv : Nat} {x qual : Str} {st : Stmt} {f : Addr} {fd : FuncData} {ps : List Str} {body : List S}
    (F : FunD K x qual (defArgs st) (defBody st) (defScope st) [] [] f fd) (e : Env1 c w P wo K mg base lv) (hs : scopeC c.N ps (defScope st) = true) (hb : okBd c (defScope st) body (defBody st) = true) :
    FnOk P wo K mg base (L2.CX P wo) (lv + 1) f fd ps (SpV w ps.length (runDef c body)) := by
  have S := scopeC_ok hs
  refine F.ok S (fun vs H Q E ⟨C, ts, h, _⟩ => h) fun cdv A outer s H vs Q E hr hsp => ?_
  refine ⟨ssW _ (defBody st), pss_W, ?_⟩
  obtain ⟨C, ts, hl, alC, hb0, hrun⟩ := hsp
  have hlt : ts.length = vs.length := hb0.length.symm
  have hle : ps.length ≤ c.N.length := by
    have := congrArg List.length S.pre
    rw [List.length_take] at this
    omega
  by_cases hst : ts.all T.still = true
  rotate_left
  · have : runDef c body ts = .bad := by
      unfold runDef
      rw [if_pos (by simpa using hst)]
    rw [this] at hrun
    exact hrun.elim
  · have hrd : runDef c body ts = match execs c body (ts.map some ++ List.replicate (c.N.length - ts.length) none) with
      | .nx _ => .ok (.sh .non)
      | .ret x => .ok x
      | .exc k vs _ => .exc k vs
      | _ => .bad := by
      unfold runDef
      rw [if_neg (by simp [hst])] <;> rfl
    rw [hrd] at hrun
    have g : Good c w lv (cxOf (L2.CX P wo) P wo K mg base c.N qual (defScope st) f cdv A outer s H E) := ⟨rfl, S.nd, e.Ke, rfl, hr, e.funs, e.consts, e.free, e.exA⟩
    have p : PtS c w lv (cxOf (L2.CX P wo) P wo K mg base c.N qual (defScope st) f cdv A outer s H E) (fun cls d _ H => E cls d H) :=
      ⟨g, takes_of rfl rfl rfl rfl, passes_of rfl, fun _ => rfl, S.kind⟩
    have so : StOk w H C (L2.start c.N vs) H [] (ts.map some ++ List.replicate (c.N.length - ts.length) none) := by
      refine ⟨?_, fun i t q => ?_, fun i j a us us' hij hi hj => ?_, alC, fun a ha => by (cases ha), Ex.refl _, alC⟩
      · unfold L2.start
        simp [hlt]
      · obtain ⟨v, q1, q2, _⟩ := start_env (N := c.N) hb0 hst i t q
        exact ⟨v, q1, q2⟩
      · obtain ⟨v, q1, q2, q3⟩ := start_env (N := c.N) hb0 hst i _ hi
        cases q3
    refine soundB body (defBody st) _ (fun cls d _ H => E cls d H) H C _ _ H [] _ p hb so ?_
    cases hx : execs c body (ts.map some ++ List.replicate (c.N.length - ts.length) none) with
    | nx ρ =>
      rw [hx] at hrun
      exact fun σ' H' A' s' g' => hrun _ _ s'.ex (VAt.sh_of (by simp only [Rp]))
    | ret y =>
      rw [hx] at hrun
      exact hrun
    | exc cc vs ρ =>
      rw [hx] at hrun
      exact fun k dx σ' H' A' s' g' x' => hrun k dx H' s'.ex ⟨x'.1, x'.2.imp id fun ⟨q0, a, fs, q1, q2, q3, q4⟩ => ⟨q0, a, fs, q1, q2, q3, q4.ex (hide_less fun b hb => List.mem_append_right _ hb)⟩⟩
    | brk ρ => rw [hx] at hrun; exact hrun.elim
    | cnt ρ => rw [hx] at hrun; exact hrun.elim
    | bad => rw [hx] at hrun; exact hrun.elim
end Mi

set_option Elab.async false
set_option linter.all false
set_option maxRecDepth 100000
set_option maxHeartbeats 4000000
namespace Mi
open PySem PySem.Spec PyProof.Rows L2
/-! ### defs that serve -/
def Served (P : Program) (wo : World) (w : Wd) (mg : Str → Option Value) (base : Heap) (lv : Nat) (g : Fn) : Prop :=
  ∃ a fd, FnOk P wo w.K mg base (L2.CX P wo) lv a fd g.ps (SpV w g.ps.length g.run) ∧ mg g.name = some (.ref a) ∧ PySem.W.keepIn w.K (.ref a) = true ∧ Binds w.K fd g.ps []
section
variable {P : Program} {wo : World} {w : Wd} {mg : Str → Option Value} {base : Heap} {lv lv' : Nat} {g : Fn} {c : Cfg}
theorem Served.mono (h : Served P wo w mg base lv g) (l : lv ≤ lv') : Served P wo w mg base lv' g := by
  obtain ⟨a, fd, h1, h2⟩ := h
  exact ⟨a, fd, h1.mono l, h2⟩
/-- the facts of a module that a configuration leans on -/
structure Mod1 (w : Wd) (mg : Str → Option Value) (consts : List (Str × D)) (free exA : List Str) : Prop where
  consts : ∀ x d, consts.lookup x = some d → ∃ v u, mg x = some u ∧ RelV v u ∧ ∀ H, Rp w H v d
  free : ∀ x ∈ free, mg x = none
  exA : ∀ x ∈ exA, ExcA w.K mg x (w.cl x)
theorem env1 (m : Mod1 w mg c.consts c.free c.exA) (h : ∀ g ∈ c.funs, Served P wo w mg base lv g) : Env1 c w P wo w.K mg base lv := by
  refine ⟨rfl, fun f g hf => ?_, m.consts, m.free, m.exA⟩
  have h1 := List.mem_of_find?_eq_some hf
  have h2 := List.find?_some hf
  simp only [beq_iff_eq] at h2
  subst h2
  exact h g h1
theorem served {x : Str} {st : Stmt} {a : Addr} {fd : FuncData} {ps : List Str} {body : List S} (F : FunD w.K x x (defArgs st) (defBody st) (defScope st) [] [] a fd) (hm : mg x = some (.ref a)) (b : Binds w.K fd ps [])
    (m : Mod1 w mg c.consts c.free c.exA) (h : ∀ g ∈ c.funs, Served P wo w mg base lv g) (hs : scopeC c.N ps (defScope st) = true) (hb : okBd c (defScope st) body (defBody st) = true) :
    Served P wo w mg base (lv + 1) ⟨x, ps, runDef c body⟩ :=
  ⟨a, fd, def_ok F (env1 m h) hs hb, hm, F.kp, b⟩
/-- a def that nothing is asked of (below a recursion's floor) -/
theorem served_bad {x : Str} {st : Stmt} {a : Addr} {fd : FuncData} {ps : List Str} (F : FunD w.K x x (defArgs st) (defBody st) (defScope st) [] [] a fd) (hm : mg x = some (.ref a)) (b : Binds w.K fd ps []) :
    Served P wo w mg base lv ⟨x, ps, fun _ => .bad⟩ :=
  ⟨a, fd, ⟨fun vs H Q E ⟨C, ts, h, _⟩ => h, fun A outer s H args us vs Q E _ _ _ _ ⟨C, ts, _, _, _, z⟩ => z.elim⟩, hm, F.kp, b⟩
/-- what is known of its answers is enough -/
theorem Served.imp {run' : List T → Res Vl} (h : Served P wo w mg base lv g) (i : ∀ ts, run' ts = .bad ∨ run' ts = g.run ts) : Served P wo w mg base lv ⟨g.name, g.ps, run'⟩ := by
  obtain ⟨a, fd, h1, h2⟩ := h
  refine ⟨a, fd, h1.imp fun vs H Q E ⟨C, ts, q1, q2, q3, q4⟩ => ⟨C, ts, q1, q2, q3, ?_⟩, h2⟩
  have q4 : match run' ts with
    | .ok x => ∀ v H', Ex H H' → VAt w [] C H v x H' → Q v H'
    | .exc c ds => ∀ k dx H', Ex H H' → XAt w C H' k dx c ds → E k dx H'
    | .bad => False := q4
  rcases i ts with e | e
  · rw [e] at q4
    exact q4.elim
  · rw [← e]
    exact q4
end
theorem exA_of {K : PySem.W.Frag} {h : Heap} {mg : Str → Option Value} (X : K.In h) (G : h.Ns mainGlobals mg) {x : Str} (c : (He.Fa.exc x).ok K = true) (c2 : (He.Fa.glo x).ok K = true) : ExcA K mg x (He.ga K x) := by
  obtain ⟨h1, h2, h3, h4⟩ := He.exc_ok c
  exact ⟨_, _, _, _, PySem.F.excBase_ValueError, h1, He.glo_ok X G c2, h2, h3, h4⟩
/-- the law's own def -/
theorem law_run {P : Program} {wo : World} {w : Wd} {mg : Str → Option Value} {base : Heap} {lv : Nat} {run : List T → Res Vl} {f : Addr} {fd : FuncData}
    (F : FnOk P wo w.K mg base (L2.CX P wo) lv f fd ["script"] (SpV w 1 run)) (h : ∀ ns : List Int, ns.length ≤ 63 → run [.scr ns] = .ok (.sh (.bl true))) :
    FnOk P wo w.K mg base (L2.CX P wo) lv f fd ["script"] (fun vs H Q _ => ∃ (a : Addr) (ns : List Int), vs = [.ref a] ∧ ns.length ≤ 63 ∧ SqL w.K H a (ns.map V.int) ∧ ∀ H', Q (.bl true) H') := by
  refine F.imp fun vs H Q E ⟨a, ns, e, hn, hS, hQ⟩ => ?_
  subst e
  refine ⟨[], [.scr ns], rfl, fun _ hb => by (cases hb), ?_, ?_⟩
  · simp only [BwAtL, BwAt, and_true]
    exact ⟨a, rfl, by rw [hide_nil]; exact hS⟩
  · rw [h ns hn]
    intro v H' e hv
    have hv : BwAt w H' [] [] v (.sh (.bl true)) := hv
    simp only [BwAt, Rp] at hv
    subst hv
    exact hQ H'
end Mi

set_option Elab.async false
set_option linter.all false
set_option maxRecDepth 100000
set_option maxHeartbeats 4000000
namespace Mi
open PySem PySem.Spec PyProof.Rows L2
noncomputable section
/-! ### the evaluator's equations, first order (for simp only) -/
def okD (d : D) : Res Vl := .ok (.sh d)
def okT (t : T) : Res Vl := .ok (.bw t)
theorem okD_i (i : Int) : okD (.int i) = okI i := rfl
theorem okD_b (i : Bool) : okD (.bl i) = okB i := rfl
theorem okD_s (i : Str) : okD (.str i) = okS i := rfl
theorem okT_sh (d : D) : okT (.sh d) = okD d := rfl
def varR : Option (Option T) → Res Vl
  | some (some t) => okT t
  | _ => .bad
def dR : Option D → Res Vl
  | some d => okD d
  | none => .bad
def tR : Option T → Res Vl
  | some t => okT t
  | none => .bad
theorem dR_some (d : D) : dR (some d) = okD d := rfl
theorem tR_some (t : T) : tR (some t) = okT t := rfl
theorem varR_t (t : T) : varR (some (some t)) = okT t := rfl
def binR (op : Bop) (r s : Res Vl) : Res Vl := r.bnd fun x => s.bnd fun y => binV op x y
def negR (r : Res Vl) : Res Vl := r.bnd fun x => match x.d with | .int i => okI (-i) | _ => .bad
def cmR (op : Cop) (r s : Res Vl) : Res Vl := r.bnd fun x => s.bnd fun y => (Res.of (cmpR op x.d y.d)).bnd okB
def andV (r s : Res Vl) : Res Vl := r.bnd fun x => match x.d with
  | .bl k => if k then s.bnd fun y => match y.d with | .bl l => okB l | _ => .bad else okB false
  | _ => .bad
def orV (r s : Res Vl) : Res Vl := r.bnd fun x => match x.d with
  | .bl k => if k then okB true else s.bnd fun y => match y.d with | .bl l => okB l | _ => .bad
  | _ => .bad
def notV (r : Res Vl) : Res Vl := r.bnd fun x => match x.d with | .bl k => okB (!k) | _ => .bad
def iteR (t : Res Bool) (r s : Res Vl) : Res Vl := t.bnd fun k => if k then r else s
def consR (r : Res Vl) (rs : Res (List Vl)) : Res (List Vl) := r.bnd fun x => rs.bnd fun xs => .ok (x :: xs)
def tupR (rs : Res (List Vl)) : Res Vl := rs.bnd fun xs => (Res.of (optAll Vl.shr xs)).bnd fun ds => .iff (ds.length ≤ sizeLine) (.ok (.sh (.tup ds)))
def lstR (rs : Res (List Vl)) : Res Vl := rs.bnd fun xs => (Res.of (optAll Vl.shr xs)).bnd fun ds => .iff (ds.length ≤ sizeLine) (frL ds)
def ixR (r s : Res Vl) : Res Vl := r.bnd fun x => s.bnd fun y => ixV x y
def partR : Res (List Vl) → Res (Option Int)
  | .ok xs => Res.of (optI xs)
  | .exc c vs => .exc c vs
  | .bad => .bad
def slR (r : Res Vl) (l h : Res (Option Int)) : Res Vl := r.bnd fun x => l.bnd fun l' => h.bnd fun h' => slV x l' h'
def callR (c : Cfg) (f : Str) (rs : Res (List Vl)) : Res Vl := rs.bnd fun xs => match c.fn f with
  | some g => .iff (xs.length = g.ps.length) ((g.run (xs.map Vl.arg)).bnd Vl.out)
  | none => .bad
def biR (b : Bi) (rs : Res (List Vl)) : Res Vl := rs.bnd fun xs => biV b xs
def isiR (cs : List Ty) (r : Res Vl) : Res Vl := r.bnd fun x => match x.d.ty with
  | some t => okB (cs.any fun k => isTy t k)
  | none => .bad
def srcR (k : Src) (rs : Res (List Vl)) : Res (List T) := rs.bnd (srcV k)
def cturn (c : Cfg) (g : Tg) (cs : List E) (e : E) (ρ : Env) (t : T) : Res (Option Vl) :=
  (Res.of (tgV g t (wipeE ρ g.slots))).bnd fun ρ1 => (evTs c cs ρ1).bnd fun b => if b then (ev c e ρ1).bnd fun x => .ok (some x) else .ok none
def compR (f : T → Res (Option Vl)) (rs : Res (List T)) : Res Vl := rs.bnd fun ts => (compGo f ts).bnd fun ks => .iff (ts.length ≤ 1000000) (frL ks)
def truT (r : Res Vl) : Res Bool := r.bnd fun x => Res.of (truR x.d)
def andT (r s : Res Bool) : Res Bool := r.bnd fun k => if k then s else .ok false
def orT (r s : Res Bool) : Res Bool := r.bnd fun k => if k then .ok true else s
def notT (r : Res Bool) : Res Bool := r.bnd fun k => .ok (!k)
section
variable {c : Cfg} {ρ : Env} {a b e t : E} {es : List E}
theorem y_var (i : Nat) : ev c (.var i) ρ = varR ρ[i]? := by
  simp only [ev]
  cases h : ρ[i]? with
  | none => rfl
  | some o => cases o <;> rfl
theorem y_int (i : Int) : ev c (.cst (.int i)) ρ = okI i := by simp only [ev]; exact Res.iff_pos rfl
theorem y_bl (i : Bool) : ev c (.cst (.bl i)) ρ = okB i := by simp only [ev]; exact Res.iff_pos rfl
theorem y_str (i : Str) : ev c (.cst (.str i)) ρ = okS i := by simp only [ev]; exact Res.iff_pos rfl
theorem y_non : ev c (.cst .non) ρ = okD .non := by simp only [ev]; exact Res.iff_pos rfl
theorem y_bin (op : Bop) : ev c (.bin op a b) ρ = binR op (ev c a ρ) (ev c b ρ) := by simp only [ev]; rfl
theorem y_neg : ev c (.neg a) ρ = negR (ev c a ρ) := by simp only [ev]; rfl
theorem y_cmp (op : Cop) : ev c (.cmp op a b) ρ = cmR op (ev c a ρ) (ev c b ρ) := by simp only [ev]; rfl
theorem y_and : ev c (.and a b) ρ = andV (ev c a ρ) (ev c b ρ) := by simp only [ev]; rfl
theorem y_or : ev c (.or a b) ρ = orV (ev c a ρ) (ev c b ρ) := by simp only [ev]; rfl
theorem y_not : ev c (.not a) ρ = notV (ev c a ρ) := by simp only [ev]; rfl
theorem y_ite : ev c (.ite t a b) ρ = iteR (evT c t ρ) (ev c a ρ) (ev c b ρ) := by simp only [ev]; rfl
theorem y_tup : ev c (.tup es) ρ = tupR (evs c es ρ) := by simp only [ev]; rfl
theorem y_lst : ev c (.lst es) ρ = lstR (evs c es ρ) := by simp only [ev]; rfl
theorem y_ix : ev c (.ix a b) ρ = ixR (ev c a ρ) (ev c b ρ) := by simp only [ev]; rfl
theorem y_sl (lo hi : List E) : ev c (.sl a lo hi) ρ = slR (ev c a ρ) (partR (evs c lo ρ)) (partR (evs c hi ρ)) := by
  simp only [ev]
  unfold slR
  cases ev c a ρ with
  | ok x =>
    simp only [Res.bnd_ok]
    cases evs c lo ρ with
    | ok l =>
      simp only [Res.bnd_ok, partR]
      cases optI l with
      | none => rfl
      | some l' =>
        simp only [Res.of_some, Res.bnd_ok]
        cases evs c hi ρ with
        | ok h =>
          simp only [Res.bnd_ok]
        | exc _ _ => rfl
        | bad => rfl
    | exc _ _ => rfl
    | bad => rfl
  | exc _ _ => rfl
  | bad => rfl
theorem y_call (f : Str) : ev c (.call f es) ρ = callR c f (evs c es ρ) := by simp only [ev]; rfl
theorem y_bi (k : Bi) : ev c (.bi k es) ρ = biR k (evs c es ρ) := by simp only [ev]; rfl
theorem y_isi (cs : List Ty) (m : Bool) : ev c (.isi a cs m) ρ = isiR cs (ev c a ρ) := by simp only [ev]; rfl
theorem y_comp (g : Tg) (k : Src) (cs : List E) : ev c (.comp g k es cs e) ρ = compR (cturn c g cs e ρ) (srcR k (evs c es ρ)) := by
  simp only [ev, compR, srcR]
  cases evs c es ρ <;> rfl
theorem y_nil : evs c [] ρ = .ok [] := by simp only [evs]
theorem y_cons : evs c (e :: es) ρ = consR (ev c e ρ) (evs c es ρ) := by simp only [evs]; rfl
theorem t_and : evT c (.and a b) ρ = andT (evT c a ρ) (evT c b ρ) := by simp only [evT]; rfl
theorem t_or : evT c (.or a b) ρ = orT (evT c a ρ) (evT c b ρ) := by simp only [evT]; rfl
theorem t_not : evT c (.not a) ρ = notT (evT c a ρ) := by simp only [evT]; rfl
theorem t_var (i : Nat) : evT c (.var i) ρ = truT (ev c (.var i) ρ) := by simp only [evT]; rfl
theorem t_cst (d : D) : evT c (.cst d) ρ = truT (ev c (.cst d) ρ) := by simp only [evT]; rfl
theorem t_cmp (op : Cop) : evT c (.cmp op a b) ρ = truT (cmR op (ev c a ρ) (ev c b ρ)) := by simp only [evT, ev]; rfl
theorem t_call (f : Str) : evT c (.call f es) ρ = truT (ev c (.call f es) ρ) := by simp only [evT]; rfl
theorem t_bi (k : Bi) : evT c (.bi k es) ρ = truT (ev c (.bi k es) ρ) := by simp only [evT]; rfl
theorem t_isi (cs : List Ty) (m : Bool) : evT c (.isi a cs m) ρ = truT (isiR cs (ev c a ρ)) := by simp only [evT, ev]; rfl
theorem t_ix : evT c (.ix a b) ρ = truT (ixR (ev c a ρ) (ev c b ρ)) := by simp only [evT, ev]; rfl
end
/-! values -/
theorem fit_int (i : Int) : (D.int i).fit = true := rfl
theorem eqR_int (i j : Int) : eqR (.int i) (.int j) = some (decide (i = j)) := by
  unfold eqR
  rw [fit_int, fit_int]
  rfl
section
variable (i j : Int) (p q : Bool) (ds es : List D)
theorem b_add : binR .add (okI i) (okI j) = okI (i + j) := rfl
theorem b_sub : binR .sub (okI i) (okI j) = okI (i - j) := rfl
theorem b_mul (h : -18446744073709551616 < j ∧ j < 18446744073709551616) : binR .mul (okI i) (okI j) = okI (i * j) := Res.iff_pos (.inl (.inr ⟨by omega, by omega⟩))
theorem b_mull (h : -18446744073709551616 < i ∧ i < 18446744073709551616) : binR .mul (okI i) (okI j) = okI (i * j) := Res.iff_pos (.inl (.inl ⟨by omega, by omega⟩))
theorem b_mod (h : 0 < j) : binR .mod (okI i) (okI j) = okI (i % j) := Res.iff_pos h
theorem log2_small {j : Int} (h : 0 < j) (h2 : j < 18446744073709551616) : j.natAbs.log2 < 9000 := by
  have h0 : j.natAbs ≠ 0 := by omega
  have h1 : j.natAbs < 2 ^ 64 := by omega
  have := (Nat.log2_lt h0).mpr h1
  omega
theorem b_div (h : 0 < j ∧ j < 18446744073709551616) : binR .fdiv (okI i) (okI j) = okI (i / j) := Res.iff_pos ⟨h.1, log2_small h.1 h.2⟩
theorem b_10_18 : binR .pow (okI 10) (okI 18) = okI 1000000000000000000 := by
  unfold binR
  simp only [okI, Res.bnd_ok]
  show Res.iff _ _ = _
  rw [Res.iff_pos]
  · rfl
  · exact ⟨by decide, by decide, by decide⟩
theorem n_i : negR (okI i) = okI (-i) := rfl
theorem c_eq : cmR .eq (okI i) (okI j) = okB (decide (i = j)) := by
  unfold cmR
  simp only [okI, Res.bnd_ok]
  show (Res.of (eqR (.int i) (.int j))).bnd okB = _
  rw [eqR_int]
  rfl
theorem c_ne : cmR .ne (okI i) (okI j) = okB (!decide (i = j)) := by
  unfold cmR
  simp only [okI, Res.bnd_ok]
  show (Res.of ((eqR (.int i) (.int j)).map fun b => !b)).bnd okB = _
  rw [eqR_int]
  rfl
theorem c_lt : cmR .lt (okI i) (okI j) = okB (decide (i < j)) := rfl
theorem c_le : cmR .le (okI i) (okI j) = okB (decide (i ≤ j)) := rfl
theorem c_gt : cmR .gt (okI i) (okI j) = okB (decide (j < i)) := rfl
theorem c_ge : cmR .ge (okI i) (okI j) = okB (decide (j ≤ i)) := rfl
theorem v_and : andV (okB p) (okB q) = okB (p && q) := by cases p <;> rfl
theorem v_or : orV (okB p) (okB q) = okB (p || q) := by cases p <;> rfl
theorem v_not : notV (okB p) = okB (!p) := rfl
theorem r_ite (r s : Res Vl) : iteR (.ok p) r s = if p then r else s := rfl
theorem tt_b : truT (okB p) = .ok p := rfl
theorem tt_and (r : Res Bool) : andT (.ok p) r = if p then r else .ok false := rfl
theorem tt_or (r : Res Bool) : orT (.ok p) r = if p then .ok true else r := rfl
theorem tt_not : notT (.ok p) = .ok (!p) := rfl
theorem k_i (xs : List Vl) : consR (okI i) (.ok xs) = .ok (.sh (.int i) :: xs) := rfl
theorem k_b (xs : List Vl) : consR (okB p) (.ok xs) = .ok (.sh (.bl p) :: xs) := rfl
theorem k_s (s : Str) (xs : List Vl) : consR (okS s) (.ok xs) = .ok (.sh (.str s) :: xs) := rfl
theorem k_d (d : D) (xs : List Vl) : consR (okD d) (.ok xs) = .ok (.sh d :: xs) := rfl
theorem k_t (t : T) (xs : List Vl) : consR (okT t) (.ok xs) = .ok (.bw t :: xs) := rfl
theorem k_f (xs : List Vl) : consR (frL ds) (.ok xs) = .ok (.fr (.lst (ds.map T.sh)) :: xs) := rfl
theorem i_int (cs : List Ty) : isiR cs (okI i) = okB (cs.any fun k => isTy .int k) := rfl
theorem i_bl (cs : List Ty) : isiR cs (okB p) = okB (cs.any fun k => isTy .bl k) := rfl
theorem i_str (cs : List Ty) (s : Str) : isiR cs (okS s) = okB (cs.any fun k => isTy .str k) := rfl
theorem i_tup (cs : List Ty) : isiR cs (okD (.tup ds)) = okB (cs.any fun k => isTy .tup k) := rfl
theorem i_lst (cs : List Ty) : isiR cs (okD (.lst ds)) = okB (cs.any fun k => isTy .lst k) := rfl
theorem i_rolst (cs : List Ty) : isiR cs (okT (.ro (.lst ds))) = okB (cs.any fun k => isTy .lst k) := rfl
theorem i_rotup (cs : List Ty) : isiR cs (okT (.ro (.tup ds))) = okB (cs.any fun k => isTy .tup k) := rfl
theorem bi_int : biR .int (.ok [.sh (.int i)]) = okI i := rfl
theorem bi_min : biR .min2 (.ok [.sh (.int i), .sh (.int j)]) = okI (if j < i then j else i) := rfl
theorem bi_max : biR .max2 (.ok [.sh (.int i), .sh (.int j)]) = okI (if j > i then j else i) := rfl
end
end
end Mi

set_option Elab.async false
set_option linter.all false
set_option maxRecDepth 100000
set_option maxHeartbeats 4000000
namespace Mi
open PySem PySem.Spec PyProof.Rows L2
noncomputable section
/-! ### sequences -/
theorem shrs_sh : ∀ ds : List D, shrs (ds.map T.sh) = some ds
  | [] => rfl
  | d :: ds => by rw [List.map_cons, shrs, shrs_sh ds]; rfl
/-- the scripts' numbers, lists of numbers -/
def iD (ns : List Int) : List D := ns.map D.int
theorem iD_nil : iD [] = [] := rfl
theorem iD_cons (n : Int) (ns : List Int) : iD (n :: ns) = .int n :: iD ns := rfl
theorem iD_app (a b : List Int) : iD (a ++ b) = iD a ++ iD b := List.map_append
theorem iD_length (a : List Int) : (iD a).length = a.length := List.length_map ..
theorem iD_scal : ∀ a : List Int, (iD a).all D.scal = true
  | [] => rfl
  | n :: a => by rw [iD_cons, List.all_cons, iD_scal a]; rfl
theorem iD_ro : ∀ a : List Int, (iD a).map roT = (iD a).map T.sh
  | [] => rfl
  | n :: a => by rw [iD_cons, List.map_cons, List.map_cons, iD_ro a]; rfl
theorem sumR_iD : ∀ a : List Int, sumR (iD a) = some a.sum
  | [] => rfl
  | n :: a => by rw [iD_cons, sumR, sumR_iD a, List.sum_cons]; rfl
theorem atI_iD (a : List Int) (i : Int) : atI (iD a) i = (atI a i).map D.int := atI_map
theorem atI_nat {α : Type} {xs : List α} {k : Nat} (h : k < xs.length) : atI xs (k : Int) = xs[k]? := by
  unfold atI ixN
  rw [if_pos (by omega), if_pos (by omega)]
  rfl
theorem cut_iD (a : List Int) (l h : Option Int) : cutL (iD a) l h = iD (cutL a l h) := by
  unfold cutL iD
  rw [List.length_map, ← List.map_drop, ← List.map_take]
section
variable (ds es : List D) (ns : List Int) (i : Int)
theorem l_sl : biR .len (.ok [.sh (.lst ds)]) = okI ds.length := rfl
theorem l_st : biR .len (.ok [.sh (.tup ds)]) = okI ds.length := rfl
theorem l_rl : biR .len (.ok [.bw (.ro (.lst ds))]) = okI ds.length := rfl
theorem l_rt : biR .len (.ok [.bw (.ro (.tup ds))]) = okI ds.length := rfl
theorem l_ow : biR .len (.ok [.bw (.lst (ds.map T.sh))]) = okI ds.length := by
  show okI (T.ds (ds.map T.sh)).length = _
  rw [T.ds_sh]
theorem l_fr : biR .len (.ok [.fr (.lst (ds.map T.sh))]) = okI ds.length := by
  show okI (T.ds (ds.map T.sh)).length = _
  rw [T.ds_sh]
theorem l_sc : biR .len (.ok [.bw (.scr ns)]) = okI ns.length := by
  show okI (ns.map D.int).length = _
  rw [List.length_map]
theorem m_sl : biR .list (.ok [.sh (.lst ds)]) = frL ds := rfl
theorem m_st : biR .list (.ok [.sh (.tup ds)]) = frL ds := rfl
theorem its_rl (h : ds.all D.scal = true) : T.its (.ro (.lst ds)) = some ds := by
  simp only [T.its, D.its]
  exact if_pos h
theorem its_rt (h : ds.all D.scal = true) : T.its (.ro (.tup ds)) = some ds := by
  simp only [T.its, D.its]
  exact if_pos h
theorem m_rl (h : ds.all D.scal = true) : biR .list (.ok [.bw (.ro (.lst ds))]) = frL ds := by
  simp only [biR, biV, Vl.rd, its_rl ds h, Res.bnd_ok, Res.of_some]
theorem m_rt (h : ds.all D.scal = true) : biR .list (.ok [.bw (.ro (.tup ds))]) = frL ds := by
  simp only [biR, biV, Vl.rd, its_rt ds h, Res.bnd_ok, Res.of_some]
theorem m_ow : biR .list (.ok [.bw (.lst (ds.map T.sh))]) = frL ds := by
  simp [biR, biV, Vl.rd, T.its, shrs_sh]
theorem m_fr : biR .list (.ok [.fr (.lst (ds.map T.sh))]) = frL ds := by
  simp [biR, biV, Vl.rd, T.its, D.its, T.d, T.ds_sh]
theorem u_sl : biR .tuple (.ok [.sh (.lst ds)]) = okD (.tup ds) := rfl
theorem u_st : biR .tuple (.ok [.sh (.tup ds)]) = okD (.tup ds) := rfl
theorem u_rl (h : ds.all D.scal = true) : biR .tuple (.ok [.bw (.ro (.lst ds))]) = okD (.tup ds) := by
  simp only [biR, biV, Vl.rd, Vl.d, T.d, its_rl ds h, Res.bnd_ok, Res.of_some]
  rfl
theorem u_ow : biR .tuple (.ok [.bw (.lst (ds.map T.sh))]) = okD (.tup ds) := by
  simp [biR, biV, Vl.rd, Vl.d, T.d, T.its, shrs_sh, okD]
theorem u_fr : biR .tuple (.ok [.fr (.lst (ds.map T.sh))]) = okD (.tup ds) := by
  simp [biR, biV, Vl.rd, Vl.d, T.its, D.its, T.d, T.ds_sh, okD]
theorem s_sl' : biR .sum (.ok [.sh (.lst (iD ns))]) = okI ns.sum := by simp [biR, biV, Vl.d, Vl.rd, T.d, sumR_iD]
theorem s_st' : biR .sum (.ok [.sh (.tup (iD ns))]) = okI ns.sum := by simp [biR, biV, Vl.d, Vl.rd, T.d, sumR_iD]
theorem s_rl' : biR .sum (.ok [.bw (.ro (.lst (iD ns)))]) = okI ns.sum := by simp [biR, biV, Vl.d, Vl.rd, T.d, sumR_iD]
theorem s_rt' : biR .sum (.ok [.bw (.ro (.tup (iD ns)))]) = okI ns.sum := by simp [biR, biV, Vl.d, Vl.rd, T.d, sumR_iD]
theorem s_ow' : biR .sum (.ok [.bw (.lst ((iD ns).map T.sh))]) = okI ns.sum := by simp [biR, biV, Vl.d, Vl.rd, T.d, T.ds_sh, sumR_iD]
/-! items -/
theorem tR_sh (xs : List D) : tR (atI (xs.map T.sh) i) = dR (atI xs i) := by
  rw [atI_map]
  cases atI xs i <;> rfl
theorem ofI_bw (o : Option T) : (Res.of o).bnd (fun t => Res.ok (Vl.bw t)) = tR o := by cases o <;> rfl
theorem x_sl : ixR (okD (.lst ds)) (okI i) = dR (atI ds i) := by
  rw [← tR_sh, ← ofI_bw]
  rfl
theorem x_st : ixR (okD (.tup ds)) (okI i) = dR (atI ds i) := by
  rw [← tR_sh, ← ofI_bw]
  rfl
theorem x_ow : ixR (okT (.lst (ds.map T.sh))) (okI i) = dR (atI ds i) := by
  rw [← tR_sh, ← ofI_bw]
  rfl
theorem x_fr : ixR (frL ds) (okI i) = dR (atI ds i) := by
  rw [← tR_sh, ← ofI_bw]
  simp [ixR, frL, okI, ixV, Vl.d, Vl.rd, T.d, T.ds_sh, T.kids, D.its]
theorem x_rl : ixR (okT (.ro (.lst ds))) (okI i) = tR (atI (ds.map roT) i) := by
  rw [← ofI_bw]
  rfl
theorem x_rt : ixR (okT (.ro (.tup ds))) (okI i) = tR (atI (ds.map roT) i) := by
  rw [← ofI_bw]
  rfl
theorem x_rli : ixR (okT (.ro (.lst (iD ns)))) (okI i) = dR (atI (iD ns) i) := by rw [x_rl, iD_ro, tR_sh]
theorem x_rti : ixR (okT (.ro (.tup (iD ns)))) (okI i) = dR (atI (iD ns) i) := by rw [x_rt, iD_ro, tR_sh]
theorem x_sc : ixR (okT (.scr ns)) (okI i) = dR (atI (iD ns) i) := by
  rw [← tR_sh, ← ofI_bw]
  rfl
/-! slices -/
theorem p_none : partR (.ok []) = .ok none := rfl
theorem p_some : partR (.ok [.sh (.int i)]) = .ok (some i) := rfl
variable (l h : Option Int)
theorem z_sl : slR (okD (.lst ds)) (.ok l) (.ok h) = frL (cutL ds l h) := rfl
theorem z_ow : slR (okT (.lst (ds.map T.sh))) (.ok l) (.ok h) = frL (cutL ds l h) := by
  simp [slR, okT, slV, Vl.d, Vl.rd, T.d, T.its, shrs_sh]
theorem z_fr : slR (frL ds) (.ok l) (.ok h) = frL (cutL ds l h) := by
  simp [slR, frL, slV, Vl.d, Vl.rd, T.d, T.its, D.its, T.ds_sh]
theorem z_rl (hs : ds.all D.scal = true) : slR (okT (.ro (.lst ds))) (.ok l) (.ok h) = frL (cutL ds l h) := by
  simp only [slR, okT, slV, Vl.rd, Vl.d, T.d, its_rl ds hs, Res.bnd_ok, Res.of_some]
theorem z_st : slR (okD (.tup ds)) (.ok l) (.ok h) = okD (.tup (cutL ds l h)) := rfl
/-! +, * -/
theorem a_ff (hl : ds.length + es.length ≤ sizeLine) : binR .add (frL ds) (frL es) = frL (ds ++ es) := by
  simp [binR, frL, binV, Vl.d, Vl.rd, T.d, T.its, D.its, T.ds_sh, Res.iff_pos hl]
theorem a_fl (hl : ds.length + es.length ≤ sizeLine) : binR .add (frL ds) (okD (.lst es)) = frL (ds ++ es) := by
  simp [binR, frL, okD, binV, Vl.d, Vl.rd, T.d, T.its, D.its, T.ds_sh, Res.iff_pos hl]
theorem a_lf (hl : ds.length + es.length ≤ sizeLine) : binR .add (okD (.lst ds)) (frL es) = frL (ds ++ es) := by
  simp [binR, frL, okD, binV, Vl.d, Vl.rd, T.d, T.its, D.its, T.ds_sh, Res.iff_pos hl]
theorem a_ll (hl : ds.length + es.length ≤ sizeLine) : binR .add (okD (.lst ds)) (okD (.lst es)) = frL (ds ++ es) := by
  simp [binR, frL, okD, binV, Vl.d, Vl.rd, T.d, T.its, D.its, T.ds_sh, Res.iff_pos hl]
theorem rep_ok {k n : Nat} (hk : k < 1000000) (hl : n * k ≤ sizeLine) : repOk (k : Int) n := by
  have e : (2 : Int) ^ 63 = 9223372036854775808 := by decide
  unfold repOk
  rw [e, Int.toNat_natCast]
  exact ⟨by omega, by omega, hl⟩
theorem r_core {x y : Vl} {es ds : List D} {k : Int} (hx : x.d = .lst es) (hi : x.rd.its = some ds) (hy : y.d = .int k) (h : repOk k ds.length) : binV .mul x y = frL (List.replicate k.toNat ds).flatten := by
  unfold binV
  rw [hx, hy]
  simp only [hi, Res.of_some, Res.bnd_ok]
  exact Res.iff_pos h
theorem rf_0 (ds : List D) (k : Int) : binR .mul (frL ds) (okI k) = binV .mul (.fr (.lst (ds.map T.sh))) (.sh (.int k)) := by
  unfold binR frL okI
  rw [Res.bnd_ok, Res.bnd_ok]
theorem rf_1 (ds : List D) : (Vl.fr (.lst (ds.map T.sh))).rd.its = some ds := by
  show T.its (.sh (.lst (T.ds (ds.map T.sh)))) = _
  rw [T.ds_sh]
  rfl
theorem rf_2 (ds : List D) (k : Int) (h : repOk k ds.length) : binR .mul (frL ds) (okI k) = frL (List.replicate k.toNat ds).flatten :=
  (rf_0 ds k).trans (r_core (es := T.ds (ds.map T.sh)) rfl (rf_1 ds) rfl h)
theorem r_f (k : Nat) (hk : k < 1000000) (hl : ds.length * k ≤ sizeLine) : binR .mul (frL ds) (okI (k : Int)) = frL (List.replicate k ds).flatten :=
  (rf_2 ds (k : Int) (rep_ok hk hl)).trans (by rw [Int.toNat_natCast])
/-! displays -/
theorem optAll_sh : ∀ ds : List D, optAll Vl.shr (ds.map Vl.sh) = some ds
  | [] => rfl
  | d :: ds => by rw [List.map_cons, optAll, optAll_sh ds]; rfl
theorem lst_k (xs : List Vl) (hd : optAll Vl.shr xs = some ds) (hl : ds.length ≤ sizeLine) : lstR (.ok xs) = frL ds := by
  unfold lstR
  simp only [Res.bnd_ok, hd, Res.of_some]
  exact Res.iff_pos hl
theorem tup_k (xs : List Vl) (hd : optAll Vl.shr xs = some ds) (hl : ds.length ≤ sizeLine) : tupR (.ok xs) = okD (.tup ds) := by
  unfold tupR
  simp only [Res.bnd_ok, hd, Res.of_some]
  exact Res.iff_pos hl
theorem lst_0 : lstR (.ok []) = frL [] := lst_k [] [] rfl (Nat.zero_le _)
/-! walks -/
theorem srcR_ok (k : Src) (xs : List Vl) : srcR k (.ok xs) = srcV k xs := rfl
theorem w_sl : srcV .seq [.sh (.lst ds)] = .ok (ds.map T.sh) := rfl
theorem w_st : srcV .seq [.sh (.tup ds)] = .ok (ds.map T.sh) := rfl
theorem w_rl : srcV .seq [.bw (.ro (.lst ds))] = .ok (ds.map roT) := rfl
theorem w_rt : srcV .seq [.bw (.ro (.tup ds))] = .ok (ds.map roT) := rfl
theorem w_ow : srcV .seq [.bw (.lst (ds.map T.sh))] = .ok (ds.map T.sh) := rfl
theorem w_fr : srcV .seq [.fr (.lst (ds.map T.sh))] = .ok (ds.map T.sh) := by
  simp [srcV, Vl.rd, T.d, T.ds_sh, T.kids, D.its]
theorem w_sc : srcV .seq [.bw (.scr ns)] = .ok ((iD ns).map T.sh) := rfl
theorem w_r1 (k : Nat) (hk : k < 1000000000) : srcV .rng1 [.sh (.int k)] = .ok ((List.range k).map fun (i : Nat) => T.sh (.int i)) := by
  have : small (k : Int) := ⟨by omega, by omega⟩
  simp [srcV, Vl.d, Vl.rd, T.d, Res.iff_pos this]
theorem w_r1n (hk : i ≤ 0) (h2 : -1000000000 < i) : srcV .rng1 [.sh (.int i)] = .ok [] := by
  have : small i := ⟨by omega, by omega⟩
  have h0 : i.toNat = 0 := by omega
  simp [srcV, Vl.d, Vl.rd, T.d, Res.iff_pos this, h0]
end
/-! ### statements -/
def tgO (g : Tg) (t : T) (ρ : Env) : Out := match tgV g t ρ with
  | some ρ1 => .nx ρ1
  | none => .bad
def asgO (g : Tg) (ρ : Env) (r : Res Vl) : Out := r.go ρ fun x => match (match x.rd with | .ro d => some (if d.scal then T.sh d else T.ro d) | .sh d => some (T.sh d) | _ => none) with
    | some t => (Res.of (tgV g t ρ)).go ρ .nx
    | none => .bad
def ownO (i : Nat) (ρ : Env) (r : Res Vl) : Out := r.go ρ fun x => match x with
    | .fr (.lst ts) => if i < ρ.length then .nx (ρ.set i (some (.lst ((T.ds ts).map T.sh)))) else .bad
    | _ => .bad
def appO (i : Nat) (ρ : Env) (o : Option (Option T)) (r : Res Vl) : Out := match o with
    | some (some (.lst ts)) => r.go ρ fun x => match x.shr with
      | some d => if ts.length < sizeLine then .nx (ρ.set i (some (.lst (ts ++ [.sh d])))) else .bad
      | none => .bad
    | _ => .bad
def setO (i : Nat) (ρ : Env) (o : Option (Option T)) (k r : Res Vl) : Out := match o with
    | some (some (.lst ts)) => r.go ρ fun x => k.go ρ fun y => match y.d, x.shr with
      | .int n, some d => (match ixN ts.length n with
        | some j => Out.nx (ρ.set i (some (.lst (ts.set j (.sh d)))))
        | none => .bad)
      | _, _ => .bad
    | _ => .bad
def retO (e : E) (ρ : Env) (r : Res Vl) : Out := r.go ρ fun x => match e, x with
    | _, .fr t => .ret (.fr t)
    | _, .bw (.sh d) => .ret (.sh d)
    | _, .bw (.ro d) => if d.scal then .ret (.sh d) else .bad
    | .var _, .bw (.lst ts) => .ret (.fr (.lst ts))
    | _, _ => .bad
def ifO (c : Cfg) (a b : List S) (ρ : Env) (r : Res Bool) : Out := r.go ρ fun k => if k then execs c a ρ else execs c b ρ
def seqO (c : Cfg) (ss : List S) : Out → Out
  | .nx ρ1 => execs c ss ρ1
  | o => o
section
variable {c : Cfg} {ρ : Env} {e k t : E} {es : List E} {ss a b : List S} {s : S} {i : Nat} {g : Tg}
theorem e_nil : Mi.execs c [] ρ = .nx ρ := by simp only [Mi.execs]
theorem e_cons : Mi.execs c (s :: ss) ρ = seqO c ss (Mi.exec c s ρ) := by
  simp only [Mi.execs]
  cases Mi.exec c s ρ <;> rfl
theorem q_nx (ρ1 : Env) : seqO c ss (.nx ρ1) = Mi.execs c ss ρ1 := rfl
theorem q_ret (x : Vl) : seqO c ss (.ret x) = .ret x := rfl
theorem q_brk (ρ1 : Env) : seqO c ss (.brk ρ1) = .brk ρ1 := rfl
theorem q_cnt (ρ1 : Env) : seqO c ss (.cnt ρ1) = .cnt ρ1 := rfl
theorem q_exc (x : Str) (vs : List D) (ρ1 : Env) : seqO c ss (.exc x vs ρ1) = .exc x vs ρ1 := rfl
theorem e_asg : Mi.exec c (.asg g e) ρ = asgO g ρ (ev c e ρ) := by simp only [Mi.exec]; rfl
theorem e_own : Mi.exec c (.own i e) ρ = ownO i ρ (ev c e ρ) := by simp only [Mi.exec]; rfl
theorem e_app : Mi.exec c (.app i e) ρ = appO i ρ ρ[i]? (ev c e ρ) := by simp only [Mi.exec]; rfl
theorem e_setI : Mi.exec c (.setI i k e) ρ = setO i ρ ρ[i]? (ev c k ρ) (ev c e ρ) := by simp only [Mi.exec]; rfl
theorem e_ret : Mi.exec c (.ret e) ρ = retO e ρ (ev c e ρ) := by simp only [Mi.exec]; rfl
theorem e_retN : Mi.exec c .retN ρ = .ret (.sh .non) := by simp only [Mi.exec]
theorem e_if : Mi.exec c (.ifS t a b) ρ = ifO c a b ρ (evT c t ρ) := by simp only [Mi.exec]; rfl
theorem e_for {k : Src} {xs : List Vl} {ts : List T} (h1 : evs c es ρ = .ok xs) (h2 : srcV k xs = .ok ts) (h3 : ts.all T.still = true) (h4 : (xs.all fun x => x.rd.still) = true) :
    Mi.exec c (.forS g k es ss) ρ = forGo g (Mi.execs c ss) ts ρ := by
  simp only [Mi.exec, h1, h2, Res.go_ok, h3, h4, Bool.and_self, if_true]
theorem e_rse (x : Str) (h : x ∈ c.exA) : Mi.exec c (.rse x []) ρ = .exc x [] ρ := by
  simp only [Mi.exec, evs, Res.go_ok, if_pos h, List.length_nil]
  exact if_pos (Nat.zero_le _)
theorem e_frz (ds : List D) (h : ρ[i]? = some (some (.lst (ds.map T.sh)))) : Mi.exec c (.frz i) ρ = .nx (ρ.set i (some (.sh (.lst ds)))) := by
  simp only [Mi.exec, h, T.ds_sh]
variable (n : Int) (p : Bool) (x : Str) (d : D) (ds : List D)
theorem g_nm (t : T) (h : i < ρ.length) : tgO (.nm i) t ρ = .nx (ρ.set i (some t)) := by
  simp only [tgO, tgV, if_pos h]
theorem a_i : asgO g ρ (okI n) = tgO g (.sh (.int n)) ρ := by
  show (Res.of (tgV g (.sh (.int n)) ρ)).go ρ .nx = _
  unfold tgO
  cases tgV g (.sh (.int n)) ρ <;> rfl
theorem a_b : asgO g ρ (okB p) = tgO g (.sh (.bl p)) ρ := by
  show (Res.of (tgV g (.sh (.bl p)) ρ)).go ρ .nx = _
  unfold tgO
  cases tgV g (.sh (.bl p)) ρ <;> rfl
theorem a_s : asgO g ρ (okS x) = tgO g (.sh (.str x)) ρ := by
  show (Res.of (tgV g (.sh (.str x)) ρ)).go ρ .nx = _
  unfold tgO
  cases tgV g (.sh (.str x)) ρ <;> rfl
theorem a_d : asgO g ρ (okD d) = tgO g (.sh d) ρ := by
  show (Res.of (tgV g (.sh d) ρ)).go ρ .nx = _
  unfold tgO
  cases tgV g (.sh d) ρ <;> rfl
theorem a_f : asgO g ρ (frL ds) = tgO g (.sh (.lst ds)) ρ := by
  have : asgO g ρ (frL ds) = (Res.of (tgV g (.sh (.lst (T.ds (ds.map T.sh)))) ρ)).go ρ .nx := rfl
  rw [this, T.ds_sh]
  unfold tgO
  cases tgV g (.sh (.lst ds)) ρ <;> rfl
theorem a_exc (vs : List D) : asgO g ρ (.exc x vs) = .exc x vs ρ := rfl
theorem o_f (h : i < ρ.length) : ownO i ρ (frL ds) = .nx (ρ.set i (some (.lst (ds.map T.sh)))) := by
  have : ownO i ρ (frL ds) = if i < ρ.length then .nx (ρ.set i (some (.lst ((T.ds (ds.map T.sh)).map T.sh)))) else .bad := rfl
  rw [this, if_pos h, T.ds_sh]
theorem p_i (h : ds.length < sizeLine) : appO i ρ (some (some (.lst (ds.map T.sh)))) (okI n) = .nx (ρ.set i (some (.lst ((ds ++ [D.int n]).map T.sh)))) := by
  have : appO i ρ (some (some (.lst (ds.map T.sh)))) (okI n) = if (ds.map T.sh).length < sizeLine then .nx (ρ.set i (some (.lst (ds.map T.sh ++ [.sh (.int n)])))) else .bad := rfl
  rw [this, if_pos (by simpa using h)]
  simp
theorem p_d (h : ds.length < sizeLine) : appO i ρ (some (some (.lst (ds.map T.sh)))) (okD d) = .nx (ρ.set i (some (.lst ((ds ++ [d]).map T.sh)))) := by
  have : appO i ρ (some (some (.lst (ds.map T.sh)))) (okD d) = if (ds.map T.sh).length < sizeLine then .nx (ρ.set i (some (.lst (ds.map T.sh ++ [.sh d])))) else .bad := rfl
  rw [this, if_pos (by simpa using h)]
  simp
theorem st_i (m : Int) (j : Nat) (h : ixN ds.length m = some j) : setO i ρ (some (some (.lst (ds.map T.sh)))) (okI m) (okI n) = .nx (ρ.set i (some (.lst ((ds.set j (D.int n)).map T.sh)))) := by
  have : setO i ρ (some (some (.lst (ds.map T.sh)))) (okI m) (okI n) = (match ixN (ds.map T.sh).length m with
        | some j => Out.nx (ρ.set i (some (.lst ((ds.map T.sh).set j (.sh (.int n))))))
        | none => .bad) := rfl
  rw [this, List.length_map, h, List.map_set]
theorem rt_i : retO e ρ (okI n) = .ret (.sh (.int n)) := by cases e <;> rfl
theorem rt_b : retO e ρ (okB p) = .ret (.sh (.bl p)) := by cases e <;> rfl
theorem rt_s : retO e ρ (okS x) = .ret (.sh (.str x)) := by cases e <;> rfl
theorem rt_d : retO e ρ (okD d) = .ret (.sh d) := by cases e <;> rfl
theorem rt_f : retO e ρ (frL ds) = .ret (.fr (.lst (ds.map T.sh))) := by cases e <;> rfl
theorem rt_o (ts : List T) : retO (.var i) ρ (okT (.lst ts)) = .ret (.fr (.lst ts)) := rfl
theorem rt_x (vs : List D) : retO e ρ (.exc x vs) = .exc x vs ρ := rfl
theorem if_k : ifO c a b ρ (.ok p) = if p then Mi.execs c a ρ else Mi.execs c b ρ := rfl
theorem if_x (vs : List D) : ifO c a b ρ (.exc x vs) = .exc x vs ρ := rfl
end
/-- a def's answer -/
def resO : Out → Res Vl
  | .nx _ => .ok (.sh .non)
  | .ret x => .ok x
  | .exc k vs _ => .exc k vs
  | _ => .bad
theorem rd_eq {c : Cfg} {body : List S} {args : List T} (h : args.all T.still = true) : runDef c body args = resO (Mi.execs c body (args.map some ++ List.replicate (c.N.length - args.length) none)) := by
  unfold runDef
  rw [if_neg (by simp [h])]
  cases Mi.execs c body (args.map some ++ List.replicate (c.N.length - args.length) none) <;> rfl
theorem ro_i (n : Int) : resO (.ret (.sh (.int n))) = okI n := rfl
theorem ro_b (n : Bool) : resO (.ret (.sh (.bl n))) = okB n := rfl
theorem ro_s (n : Str) : resO (.ret (.sh (.str n))) = okS n := rfl
theorem ro_d (n : D) : resO (.ret (.sh n)) = okD n := rfl
theorem ro_f (ds : List D) : resO (.ret (.fr (.lst (ds.map T.sh)))) = frL ds := rfl
theorem ro_x (x : Str) (vs : List D) (ρ : Env) : resO (.exc x vs ρ) = .exc x vs := rfl
/-! calls -/
theorem call_k {c : Cfg} {f : Str} {g : Fn} {xs : List Vl} (h : c.fn f = some g) (hl : xs.length = g.ps.length) : callR c f (.ok xs) = (g.run (xs.map Vl.arg)).bnd Vl.out := by
  unfold callR
  simp only [Res.bnd_ok, h]
  exact Res.iff_pos hl
theorem ou_i (n : Int) : (okI n).bnd Vl.out = okI n := rfl
theorem ou_b (n : Bool) : (okB n).bnd Vl.out = okB n := rfl
theorem ou_s (n : Str) : (okS n).bnd Vl.out = okS n := rfl
theorem ou_d (n : D) : (okD n).bnd Vl.out = okD n := rfl
theorem ou_f (ds : List D) : (frL ds).bnd Vl.out = frL ds := rfl
theorem ou_x (x : Str) (vs : List D) : (Res.exc x vs : Res Vl).bnd Vl.out = .exc x vs := rfl
theorem ar_sh (d : D) : Vl.arg (.sh d) = .sh d := rfl
theorem ar_ro (d : D) : Vl.arg (.bw (.ro d)) = .ro d := rfl
theorem ar_sc (ns : List Int) : Vl.arg (.bw (.scr ns)) = .scr ns := rfl
theorem ar_ow (ds : List D) : Vl.arg (.bw (.lst (ds.map T.sh))) = .ro (.lst ds) := by
  show T.ro (.lst (T.ds (ds.map T.sh))) = _
  rw [T.ds_sh]
theorem ar_fr (ds : List D) : Vl.arg (.fr (.lst (ds.map T.sh))) = .sh (.lst ds) := by
  show T.sh (.lst (T.ds (ds.map T.sh))) = _
  rw [T.ds_sh]
theorem y_t0 {c : Cfg} {ρ : Env} : evTs c [] ρ = .ok true := by simp only [evTs]
theorem y_t1 {c : Cfg} {ρ : Env} {e : E} : evTs c [e] ρ = evT c e ρ := by
  simp only [evTs]
  cases evT c e ρ with
  | ok b => cases b <;> rfl
  | exc _ _ => rfl
  | bad => rfl
theorem cturn_b {c : Cfg} {g : Tg} {cs : List E} {e : E} {ρ ρ1 : Env} {t : T} {b : Bool} {x : Vl} (h1 : tgV g t (wipeE ρ g.slots) = some ρ1) (h2 : evTs c cs ρ1 = .ok b) (h3 : ev c e ρ1 = .ok x) :
    cturn c g cs e ρ t = .ok (if b then some x else none) := by
  unfold cturn
  rw [h1, Res.of_some, Res.bnd_ok, h2, Res.bnd_ok]
  cases b with
  | true => simp only [if_true, h3, Res.bnd_ok]
  | false => simp only [Bool.false_eq_true, if_false]
/-- a loop without an early end -/
theorem for_nx {g : Tg} {body : Env → Out} (I : List T → Env → Prop) (step : ∀ t ts ρ, I (t :: ts) ρ → ∃ ρ1 ρ2, tgV g t ρ = some ρ1 ∧ body ρ1 = .nx ρ2 ∧ I ts ρ2) :
    ∀ (ts : List T) (ρ : Env), I ts ρ → ∃ ρ', forGo g body ts ρ = .nx ρ' ∧ I [] ρ'
  | [], ρ, h => ⟨ρ, rfl, h⟩
  | t :: ts, ρ, h => by
    obtain ⟨ρ1, ρ2, h1, h2, h3⟩ := step t ts ρ h
    obtain ⟨ρ', h4, h5⟩ := for_nx I step ts ρ2 h3
    exact ⟨ρ', by simp only [forGo, h1, h2, h4], h5⟩
end
end Mi

set_option Elab.async false
set_option linter.all false
set_option maxRecDepth 100000
set_option maxHeartbeats 4000000
namespace Mi.K75
open PySem PySem.Spec PyProof.Rows L2 Mi
noncomputable section
/-! ### the defs, in the small language -/
def top (i : Nat) : Stmt := PySem.Challenge.pw_onereader_k75_turnings.main.body.getD i (.Pass ⟨0, 0, 0, 0⟩)
abbrev st_frozen : Stmt := top 5
def d_frozen : He.DefD := ⟨("frozen", none), "frozen", "frozen", defArgs st_frozen, defBody st_frozen, defScope st_frozen, [], []⟩
def N_frozen : List Str := ["value", "item"]
def p_frozen : List Str := ["value"]
def b_frozen : List S := [
  .ifS (.isi (.var 0) [.lst, .tup] true) [
    .ret (.bi .tuple [.comp (.nm 1) .seq [.var 0] [] (.call "frozen" [.var 1])])] [],
  .ret (.var 0)]
abbrev st_turning : Stmt := top 7
def d_turning : He.DefD := ⟨("turning", none), "turning", "turning", defArgs st_turning, defBody st_turning, defScope st_turning, [], []⟩
def N_turning : List Str := ["lays", "numbers", "found", "least", "level", "index", "number"]
def p_turning : List Str := ["lays"]
def l_turning_0 : List S := [
  .ifS (.cmp .lt (.var 4) (.var 3)) [
    .asg (.nm 3) (.var 4),
    .asg (.nm 2) (.var 5)] [],
  .asg (.nm 4) (.bin .sub (.bin .add (.var 4) (.var 6)) (.cst (.int 1)))]
def b_turning : List S := [
  .asg (.nm 1) (.call "frozen" [.var 0]),
  .ifS (.or (.cmp .eq (.bi .len [.var 1]) (.cst (.int 0))) (.cmp .ne (.bi .sum [.var 1]) (.bin .sub (.bi .len [.var 1]) (.cst (.int 1))))) [
    .rse "NoReading" []] [],
  .asg (.nm 2) (.cst (.int 0)),
  .asg (.nm 3) (.cst (.int 0)),
  .asg (.nm 4) (.cst (.int 0)),
  .forS (.tp [5, 6]) .enum [.var 1] l_turning_0,
  .ret (.var 2)]
abbrev st__law_whole : Stmt := top 9
def d__law_whole : He.DefD := ⟨("_law_whole", none), "_law_whole", "_law_whole", defArgs st__law_whole, defBody st__law_whole, defScope st__law_whole, [], []⟩
def N__law_whole : List Str := ["value"]
def p__law_whole : List Str := ["value"]
def b__law_whole : List S := [
  .ret (.and (.isi (.var 0) [.int] false) (.not (.isi (.var 0) [.bl] false)))]
abbrev st__law_cell : Stmt := top 10
def d__law_cell : He.DefD := ⟨("_law_cell", none), "_law_cell", "_law_cell", defArgs st__law_cell, defBody st__law_cell, defScope st__law_cell, [], []⟩
def N__law_cell : List Str := ["script", "k", "seed", "cell"]
def p__law_cell : List Str := ["script", "k"]
def l__law_cell_0 : List S := [
  .asg (.nm 2) (.bin .mod (.bi .int [.bin .add (.bin .mul (.var 2) (.cst (.int 31))) (.bin .mod (.bi .int [.var 3]) (.cst (.int 1000003)))]) (.cst (.int 1000003)))]
def b__law_cell : List S := [
  .ifS (.cmp .lt (.var 1) (.bi .len [.var 0])) [
    .ret (.ix (.var 0) (.var 1))] [],
  .asg (.nm 2) (.cst (.int 17)),
  .forS (.nm 3) .seq [.var 0] l__law_cell_0,
  .ret (.bin .mod (.bi .int [.bin .mul (.bin .mul (.bin .add (.var 2) (.cst (.int 7))) (.bin .add (.var 1) (.cst (.int 3)))) (.cst (.int 69621))]) (.cst (.int 2147483647)))]
abbrev st__law_digits : Stmt := top 11
def d__law_digits : He.DefD := ⟨("_law_digits", none), "_law_digits", "_law_digits", defArgs st__law_digits, defBody st__law_digits, defScope st__law_digits, [], []⟩
def N__law_digits : List Str := ["cell", "sizes", "row", "rest", "seed", "k", "size", "twice"]
def p__law_digits : List Str := ["cell", "sizes"]
def l__law_digits_0 : List S := [
  .app 2 (.bin .mod (.bi .int [.var 3]) (.var 6)),
  .asg (.nm 3) (.bin .fdiv (.bi .int [.var 3]) (.var 6))]
def l__law_digits_1 : List S := [
  .asg (.nm 4) (.bin .mod (.bi .int [.bin .add (.bin .add (.bin .mul (.var 4) (.cst (.int 48271))) (.bin .mul (.cst (.int 974711)) (.var 5))) (.cst (.int 12345))]) (.cst (.int 2147483647))),
  .asg (.nm 7) (.bin .mod (.bi .int [.bin .mul (.var 4) (.bin .add (.bin .fdiv (.var 4) (.cst (.int 65537))) (.cst (.int 3)))]) (.cst (.int 2147483629))),
  .app 2 (.bin .mod (.bin .fdiv (.var 7) (.cst (.int 19))) (.ix (.var 1) (.var 5)))]
def b__law_digits : List S := [
  .own 2 (.lst []),
  .asg (.nm 3) (.bi .int [.var 0]),
  .ifS (.cmp .ge (.var 3) (.bin .pow (.cst (.int 10)) (.cst (.int 18)))) [
    .asg (.nm 3) (.bin .sub (.var 3) (.bin .pow (.cst (.int 10)) (.cst (.int 18)))),
    .forS (.nm 6) .seq [.var 1] l__law_digits_0,
    .ret (.var 2)] [],
  .asg (.nm 4) (.bin .mod (.bi .int [.var 3]) (.cst (.int 2147483629))),
  .forS (.nm 5) .rng1 [.bi .len [.var 1]] l__law_digits_1,
  .ret (.var 2)]
abbrev st__law_filled : Stmt := top 12
def d__law_filled : He.DefD := ⟨("_law_filled", none), "_law_filled", "_law_filled", defArgs st__law_filled, defBody st__law_filled, defScope st__law_filled, [], []⟩
def N__law_filled : List Str := ["raw", "place", "spread", "row", "many", "missing", "turn", "k", "step"]
def p__law_filled : List Str := ["raw", "place", "spread"]
def l__law_filled_0 : List S := [
  .asg (.nm 7) (.bin .mod (.bi .int [.bin .add (.var 1) (.var 6)]) (.var 4)),
  .asg (.nm 8) (.cst (.int 0)),
  .ifS (.cmp .lt (.var 5) (.cst (.int 0))) [
    .asg (.nm 8) (.bin .sub (.cst (.int 0)) (.bi .min2 [.ix (.var 3) (.var 7), .bin .sub (.cst (.int 0)) (.var 5)]))] [],
  .ifS (.cmp .gt (.var 5) (.cst (.int 0))) [
    .asg (.nm 8) (.ite (.and (.cmp .eq (.var 2) (.cst (.int 1))) (.cmp .lt (.var 6) (.var 4))) (.cst (.int 1)) (.var 5))] [],
  .setI 3 (.var 7) (.bin .add (.ix (.var 3) (.var 7)) (.var 8)),
  .asg (.nm 5) (.bin .sub (.var 5) (.var 8))]
def b__law_filled : List S := [
  .own 3 (.bi .list [.var 0]),
  .asg (.nm 4) (.bi .len [.var 3]),
  .asg (.nm 5) (.bin .sub (.bin .sub (.var 4) (.cst (.int 1))) (.bi .sum [.var 3])),
  .forS (.nm 6) .rng1 [.bin .mul (.cst (.int 2)) (.var 4)] l__law_filled_0,
  .ret (.var 3)]
abbrev st__law_good : Stmt := top 13
def d__law_good : He.DefD := ⟨("_law_good", none), "_law_good", "_law_good", defArgs st__law_good, defBody st__law_good, defScope st__law_good, [], []⟩
def N__law_good : List Str := ["row", "total", "k"]
def p__law_good : List Str := ["row"]
def l__law_good_0 : List S := [
  .asg (.nm 1) (.bin .add (.var 1) (.ix (.var 0) (.var 2))),
  .ifS (.cmp .lt (.var 1) (.bin .add (.var 2) (.cst (.int 1)))) [
    .ret (.cst (.bl false))] []]
def b__law_good : List S := [
  .asg (.nm 1) (.cst (.int 0)),
  .forS (.nm 2) .rng1 [.bin .sub (.bi .len [.var 0]) (.cst (.int 1))] l__law_good_0,
  .ret (.cst (.bl true))]
abbrev st__law_due : Stmt := top 14
def d__law_due : He.DefD := ⟨("_law_due", none), "_law_due", "_law_due", defArgs st__law_due, defBody st__law_due, defScope st__law_due, [], []⟩
def N__law_due : List Str := ["row", "k"]
def p__law_due : List Str := ["row"]
def b__law_due : List S := [
  .ifS (.or (.cmp .eq (.bi .len [.var 0]) (.cst (.int 0))) (.cmp .ne (.bi .sum [.var 0]) (.bin .sub (.bi .len [.var 0]) (.cst (.int 1))))) [
    .ret (.lst [])] [],
  .ret (.comp (.nm 1) .rng1 [.bi .len [.var 0]] [.call "_law_good" [.bin .add (.sl (.var 0) [.var 1] []) (.sl (.var 0) [] [.var 1])]] (.var 1))]
abbrev st__law_asked : Stmt := top 15
def d__law_asked : He.DefD := ⟨("_law_asked", none), "_law_asked", "_law_asked", defArgs st__law_asked, defBody st__law_asked, defScope st__law_asked, [], []⟩
def N__law_asked : List Str := ["row", "e"]
def p__law_asked : List Str := ["row"]
abbrev st__law_fine : Stmt := top 16
def d__law_fine : He.DefD := ⟨("_law_fine", none), "_law_fine", "_law_fine", defArgs st__law_fine, defBody st__law_fine, defScope st__law_fine, [], []⟩
def N__law_fine : List Str := ["row", "due", "kept", "told", "one"]
def p__law_fine : List Str := ["row", "due"]
def b__law_fine : List S := [
  .asg (.nm 2) (.bi .list [.var 0]),
  .asg (.nm 3) (.call "_law_asked" [.var 0]),
  .ifS (.or (.cmp .ne (.var 3) (.var 1)) (.or (.cmp .isIn (.cst (.bl false)) (.comp (.nm 4) .seq [.var 3] [] (.call "_law_whole" [.var 4]))) (.cmp .ne (.var 0) (.var 2)))) [
    .ret (.cst (.bl false))] [],
  .ret (.cmp .eq (.call "_law_asked" [.bi .tuple [.var 0]]) (.var 1))]
abbrev st_law : Stmt := top 17
def d_law : He.DefD := ⟨("law", none), "law", "law", defArgs st_law, defBody st_law, defScope st_law, [], []⟩
def N_law : List Str := ["script", "flags", "many", "digits", "menu", "raw", "row", "due", "turn", "place", "other", "more", "longer", "k"]
def p_law : List Str := ["script"]
def l_law_0 : List S := [
  .asg (.nm 12) (.sl (.bin .add (.bin .add (.sl (.var 6) [] [.var 9]) (.lst [.var 11])) (.sl (.var 6) [.var 9] [])) [] [.cst (.int 200)]),
  .ifS (.not (.call "_law_fine" [.var 12, .call "_law_due" [.var 12]])) [
    .ret (.cst (.bl false))] []]
def b_law : List S := [
  .asg (.nm 1) (.call "_law_digits" [.call "_law_cell" [.var 0, .cst (.int 0)], .lst [.cst (.int 12), .cst (.int 60), .cst (.int 200), .cst (.int 2), .cst (.int 5), .cst (.int 200), .cst (.int 200)]]),
  .asg (.nm 2) (.ix (.lst [.cst (.int 1), .cst (.int 2), .cst (.int 3), .cst (.int 4), .cst (.int 6), .cst (.int 9), .cst (.int 14), .cst (.int 25), .bin .add (.cst (.int 1)) (.ix (.var 1) (.cst (.int 1))), .bin .add (.cst (.int 1)) (.ix (.var 1) (.cst (.int 1))), .cst (.int 60), .cst (.int 200)]) (.ix (.var 1) (.cst (.int 0)))),
  .asg (.nm 3) (.call "_law_digits" [.call "_law_cell" [.var 0, .cst (.int 1)], .bin .mul (.lst [.cst (.int 8)]) (.cst (.int 60))]),
  .asg (.nm 4) (.ix (.lst [.lst [.cst (.int 0), .cst (.int 0), .cst (.int 1), .cst (.int 2), .cst (.int 0), .cst (.int 1), .cst (.int 3), .cst (.int 0)], .lst [.cst (.int 0), .cst (.int 1), .cst (.int 1), .cst (.int 2), .cst (.int 1), .cst (.int 0), .cst (.int 1), .cst (.int 1)], .lst [.cst (.int 0), .cst (.int 0), .cst (.int 0), .cst (.int 0), .cst (.int 0), .cst (.int 0), .cst (.int 0), .cst (.int 9)], .lst [.cst (.int 0), .cst (.int 0), .cst (.int 0), .cst (.int 5), .cst (.int 0), .cst (.int 40), .cst (.int 0), .cst (.int 2)], .bin .mul (.lst [.cst (.int 0)]) (.cst (.int 8))]) (.ix (.var 1) (.cst (.int 4)))),
  .asg (.nm 5) (.comp (.nm 13) .rng1 [.var 2] [] (.ix (.var 4) (.bin .mod (.bi .int [.bin .add (.ix (.var 3) (.bin .mod (.var 13) (.cst (.int 60)))) (.bin .fdiv (.var 13) (.cst (.int 60)))]) (.cst (.int 8))))),
  .asg (.nm 6) (.call "_law_filled" [.var 5, .bin .mod (.bi .int [.ix (.var 1) (.cst (.int 2))]) (.var 2), .ix (.var 1) (.cst (.int 3))]),
  .asg (.nm 7) (.call "_law_due" [.var 6]),
  .ifS (.or (.cmp .ne (.bi .len [.var 7]) (.cst (.int 1))) (.not (.call "_law_fine" [.var 6, .var 7]))) [
    .ret (.cst (.bl false))] [],
  .asg (.nm 8) (.bin .mod (.bi .int [.ix (.var 1) (.cst (.int 5))]) (.var 2)),
  .ifS (.not (.call "_law_fine" [.bin .add (.sl (.var 6) [.var 8] []) (.sl (.var 6) [] [.var 8]), .lst [.bin .mod (.bi .int [.bin .sub (.ix (.var 7) (.cst (.int 0))) (.var 8)]) (.var 2)]])) [
    .ret (.cst (.bl false))] [],
  .ifS (.not (.call "_law_fine" [.bin .add (.sl (.var 6) [.ix (.var 7) (.cst (.int 0))] []) (.sl (.var 6) [] [.ix (.var 7) (.cst (.int 0))]), .lst [.cst (.int 0)]])) [
    .ret (.cst (.bl false))] [],
  .asg (.nm 9) (.bin .mod (.bi .int [.ix (.var 1) (.cst (.int 6))]) (.var 2)),
  .own 10 (.bi .list [.var 6]),
  .setI 10 (.var 9) (.bin .add (.ix (.var 10) (.var 9)) (.cst (.int 1))),
  .ifS (.not (.call "_law_fine" [.var 10, .lst []])) [
    .ret (.cst (.bl false))] [],
  .ifS (.cmp .gt (.ix (.var 6) (.var 9)) (.cst (.int 0))) [
    .setI 10 (.var 9) (.bin .sub (.ix (.var 6) (.var 9)) (.cst (.int 1))),
    .ifS (.not (.call "_law_fine" [.var 10, .lst []])) [
      .ret (.cst (.bl false))] []] [],
  .forS (.nm 11) .seq [.lst [.cst (.int 0), .cst (.int 1), .cst (.int 2)]] l_law_0,
  .ifS (.not (.call "_law_fine" [.sl (.var 5) [] [.var 9], .call "_law_due" [.sl (.var 5) [] [.var 9]]])) [
    .ret (.cst (.bl false))] [],
  .ret (.and (.call "_law_fine" [.lst [], .lst []]) (.call "_law_fine" [.var 6, .var 7]))]
def fr : List Str := ["bool", "enumerate", "int", "isinstance", "len", "list", "min", "range", "sum", "tuple"]
def exs : List Str := ["NoReading"]
def cns : List (Str × D) := []
def c_frozen (self : List T → Res Vl) : Cfg := ⟨N_frozen, [⟨"frozen", p_frozen, self⟩], cns, fr, exs⟩
def r_frozen : Nat → List T → Res Vl
  | 0 => fun _ => .bad
  | k + 1 => runDef (c_frozen (r_frozen k)) b_frozen
theorem ch_frozen (self : List T → Res Vl) : okBd (c_frozen self) (defScope st_frozen) b_frozen (defBody st_frozen) = true := by kernel_rfl
theorem sc_frozen : scopeC N_frozen p_frozen (defScope st_frozen) = true := by decide +kernel
def c_turning : Cfg := ⟨N_turning, [⟨"frozen", p_frozen, r_frozen 20⟩], cns, fr, exs⟩
def r_turning : List T → Res Vl := runDef c_turning b_turning
theorem ch_turning : okBd c_turning (defScope st_turning) b_turning (defBody st_turning) = true := by decide +kernel
theorem sc_turning : scopeC N_turning p_turning (defScope st_turning) = true := by decide +kernel
def c__law_whole : Cfg := ⟨N__law_whole, [], cns, fr, exs⟩
def r__law_whole : List T → Res Vl := runDef c__law_whole b__law_whole
theorem ch__law_whole : okBd c__law_whole (defScope st__law_whole) b__law_whole (defBody st__law_whole) = true := by decide +kernel
theorem sc__law_whole : scopeC N__law_whole p__law_whole (defScope st__law_whole) = true := by decide +kernel
def c__law_cell : Cfg := ⟨N__law_cell, [], cns, fr, exs⟩
def r__law_cell : List T → Res Vl := runDef c__law_cell b__law_cell
theorem ch__law_cell : okBd c__law_cell (defScope st__law_cell) b__law_cell (defBody st__law_cell) = true := by decide +kernel
theorem sc__law_cell : scopeC N__law_cell p__law_cell (defScope st__law_cell) = true := by decide +kernel
def c__law_digits : Cfg := ⟨N__law_digits, [], cns, fr, exs⟩
def r__law_digits : List T → Res Vl := runDef c__law_digits b__law_digits
theorem ch__law_digits : okBd c__law_digits (defScope st__law_digits) b__law_digits (defBody st__law_digits) = true := by decide +kernel
theorem sc__law_digits : scopeC N__law_digits p__law_digits (defScope st__law_digits) = true := by decide +kernel
def c__law_filled : Cfg := ⟨N__law_filled, [], cns, fr, exs⟩
def r__law_filled : List T → Res Vl := runDef c__law_filled b__law_filled
theorem ch__law_filled : okBd c__law_filled (defScope st__law_filled) b__law_filled (defBody st__law_filled) = true := by decide +kernel
theorem sc__law_filled : scopeC N__law_filled p__law_filled (defScope st__law_filled) = true := by decide +kernel
def c__law_good : Cfg := ⟨N__law_good, [], cns, fr, exs⟩
def r__law_good : List T → Res Vl := runDef c__law_good b__law_good
theorem ch__law_good : okBd c__law_good (defScope st__law_good) b__law_good (defBody st__law_good) = true := by decide +kernel
theorem sc__law_good : scopeC N__law_good p__law_good (defScope st__law_good) = true := by decide +kernel
def c__law_due : Cfg := ⟨N__law_due, [⟨"_law_good", p__law_good, r__law_good⟩], cns, fr, exs⟩
def r__law_due : List T → Res Vl := runDef c__law_due b__law_due
theorem ch__law_due : okBd c__law_due (defScope st__law_due) b__law_due (defBody st__law_due) = true := by decide +kernel
theorem sc__law_due : scopeC N__law_due p__law_due (defScope st__law_due) = true := by decide +kernel
/-- try: return [turning(row)]; except NoReading as e: return [] if .. -/
def askR (rt : List T → Res Vl) : List T → Res Vl
  | [t] => if !t.still then .bad else match (rt [Vl.arg (.bw t)]).bnd Vl.out with
    | .ok x => (Res.of x.shr).bnd fun d => frL [d]
    | .exc k vs => if k = "NoReading" ∧ vs = [] then frL [] else .bad
    | .bad => .bad
  | _ => .bad
def b__law_asked : List S := [.ret (.lst [.call "turning" [.var 0]])]
def c__law_asked : Cfg := ⟨N__law_asked, [⟨"turning", p_turning, r_turning⟩], cns, fr, exs⟩
def r__law_asked : List T → Res Vl := askR r_turning
def excCB (K : PySem.W.Frag) (D : Addr) : Bool :=
  decide (PySem.W.findIn K (.ref D) "__getattribute__" = some (some (.builtin "BaseException.__getattribute__"))) && decide (PySem.W.findIn K (.ref D) "__getattr__" = some none) &&
  decide (PySem.W.subIn K (.ref D) (.type "BaseException") = some true) && decide (PySem.W.hasDictIn K D = true) && decide (PySem.W.findIn K (.ref D) "__class__" = some (some (.builtin "object.__class__"))) &&
  decide (PySem.W.specialIn K (.builtin "object.__class__") "__get__" = some (some (.builtin "getset_descriptor.__get__"))) && decide (PySem.W.takesIn K (.builtin "object.__class__") = some true) && decide (PySem.W.mroIn K D (.type "object") = some true)
theorem excC_of {K : PySem.W.Frag} {D : Addr} (h : excCB K D = true) : ExcC K D := by
  unfold excCB at h
  simp only [Bool.and_eq_true, decide_eq_true_eq] at h
  obtain ⟨⟨⟨⟨⟨⟨⟨h1, h2⟩, h3⟩, h4⟩, h5⟩, h6⟩, h7⟩, h8⟩ := h
  exact ⟨h1, h2, h3, h4, h5, h6, h7, h8⟩
def exB (K : PySem.W.Frag) : Bool := excCB K (He.ga K "NoReading") && decide (PySem.W.kitOne K (.ref (He.ga K "NoReading")) (.ref (He.ga K "ReaderError")) = some true) &&
  decide (PySem.W.kitOne K (.ref (He.ga K "NoReading")) (.ref (He.ga K "BadNumber")) = some false)
def c__law_fine : Cfg := ⟨N__law_fine, [⟨"_law_asked", p__law_asked, r__law_asked⟩, ⟨"_law_whole", p__law_whole, r__law_whole⟩], cns, fr, exs⟩
def r__law_fine : List T → Res Vl := runDef c__law_fine b__law_fine
theorem ch__law_fine : okBd c__law_fine (defScope st__law_fine) b__law_fine (defBody st__law_fine) = true := by decide +kernel
theorem sc__law_fine : scopeC N__law_fine p__law_fine (defScope st__law_fine) = true := by decide +kernel
def c_law : Cfg := ⟨N_law, [⟨"_law_cell", p__law_cell, r__law_cell⟩, ⟨"_law_digits", p__law_digits, r__law_digits⟩, ⟨"_law_due", p__law_due, r__law_due⟩, ⟨"_law_filled", p__law_filled, r__law_filled⟩, ⟨"_law_fine", p__law_fine, r__law_fine⟩], cns, fr, exs⟩
def r_law : List T → Res Vl := runDef c_law b_law
theorem ch_law : okBd c_law (defScope st_law) b_law (defBody st_law) = true := by decide +kernel
theorem sc_law : scopeC N_law p_law (defScope st_law) = true := by decide +kernel
def fn : List He.DefD := [d_frozen, d_turning, d__law_whole, d__law_cell, d__law_digits, d__law_filled, d__law_good, d__law_due, d__law_asked, d__law_fine, d_law]
def fa : List He.Fa := [.glo "frozen", .glo "turning", .glo "_law_whole", .glo "_law_cell", .glo "_law_digits", .glo "_law_filled", .glo "_law_good", .glo "_law_due", .glo "_law_asked", .glo "_law_fine", .glo "law", .glo "NoReading", .exc "NoReading", .free "bool", .free "enumerate", .free "int", .free "isinstance", .free "len", .free "list", .free "min", .free "range", .free "sum", .free "tuple", .exm "NoReading" "NoReading" true, .glo "ReaderError", .glo "BadNumber"]
def wd (K : PySem.W.Frag) : Wd := ⟨K, He.ga K, fun _ => []⟩
section
variable {P : Program} {wo : World} {K : PySem.W.Frag} {h base : Heap} {mg : Str → Option Value}
theorem mod1 (X : K.In h) (G : h.Ns mainGlobals mg) (c : He.SaysD fa fn K) : Mod1 (wd K) mg cns fr exs where
  consts := fun x d e => by cases e
  free := fun x e => by
    simp only [fr, List.mem_cons, List.not_mem_nil, or_false] at e
    exact He.free_ok X G (c.facts (f := .free x) (by rcases e with rfl | rfl | rfl | rfl | rfl | rfl | rfl | rfl | rfl | rfl <;> simp [fa]))
  exA := fun x e => by
    simp only [exs, List.mem_cons, List.not_mem_nil, or_false] at e
    exact exA_of X G (c.facts (f := .exc x) (by rcases e with rfl <;> simp [fa])) (c.facts (f := .glo x) (by rcases e with rfl <;> simp [fa]))
theorem sv_frozen_k (X : K.In h) (G : h.Ns mainGlobals mg) (c : He.SaysD fa fn K) (cx : exB K = true) : ∀ k : Nat, Served P wo (wd K) mg base k ⟨"frozen", p_frozen, r_frozen k⟩
  | 0 => by
    obtain ⟨fd, F⟩ := c.defs (d := d_frozen) (by simp [fn])
    have F : FunD (wd K).K "frozen" "frozen" (defArgs st_frozen) (defBody st_frozen) (defScope st_frozen) [] [] (He.ga K "frozen") fd := F
    exact served_bad F (He.glo_ok X G (c.facts (f := .glo "frozen") (by simp [fa]))) (FunD.bindsN (ps := p_frozen) F fun _ _ _ _ _ _ us hl => match us, hl with | [_], _ => rfl)
  | k + 1 => by
    obtain ⟨fd, F⟩ := c.defs (d := d_frozen) (by simp [fn])
    have F : FunD (wd K).K "frozen" "frozen" (defArgs st_frozen) (defBody st_frozen) (defScope st_frozen) [] [] (He.ga K "frozen") fd := F
    refine served (c := c_frozen (r_frozen k)) F (He.glo_ok X G (c.facts (f := .glo "frozen") (by simp [fa]))) (FunD.bindsN (ps := p_frozen) F fun _ _ _ _ _ _ us hl => match us, hl with | [_], _ => rfl) (mod1 X G c) (fun g hg => ?_) sc_frozen (ch_frozen _)
    simp only [c_frozen, List.mem_cons, List.not_mem_nil, or_false] at hg
    subst hg
    exact sv_frozen_k X G c cx k
theorem sv_frozen (X : K.In h) (G : h.Ns mainGlobals mg) (c : He.SaysD fa fn K) (cx : exB K = true) : Served P wo (wd K) mg base 20 ⟨"frozen", p_frozen, r_frozen 20⟩ := sv_frozen_k X G c cx 20
theorem su_turning (X : K.In h) (G : h.Ns mainGlobals mg) (c : He.SaysD fa fn K) (cx : exB K = true) : ∀ g ∈ c_turning.funs, Served P wo (wd K) mg base 20 g := fun g hg => by
  simp only [c_turning, List.mem_cons, List.not_mem_nil, or_false] at hg
  subst hg
  exact (sv_frozen X G c cx).mono (by decide)
theorem sv_turning (X : K.In h) (G : h.Ns mainGlobals mg) (c : He.SaysD fa fn K) (cx : exB K = true) : Served P wo (wd K) mg base 21 ⟨"turning", p_turning, r_turning⟩ := by
  obtain ⟨fd, F⟩ := c.defs (d := d_turning) (by simp [fn])
  have F : FunD (wd K).K "turning" "turning" (defArgs st_turning) (defBody st_turning) (defScope st_turning) [] [] (He.ga K "turning") fd := F
  exact served (c := c_turning) F (He.glo_ok X G (c.facts (f := .glo "turning") (by simp [fa]))) (FunD.bindsN (ps := p_turning) F fun _ _ _ _ _ _ us hl => match us, hl with | [_], _ => rfl) (mod1 X G c) (su_turning X G c cx) sc_turning ch_turning
theorem su__law_whole (X : K.In h) (G : h.Ns mainGlobals mg) (c : He.SaysD fa fn K) (cx : exB K = true) : ∀ g ∈ c__law_whole.funs, Served P wo (wd K) mg base 0 g := fun g hg => by
  cases hg
theorem sv__law_whole (X : K.In h) (G : h.Ns mainGlobals mg) (c : He.SaysD fa fn K) (cx : exB K = true) : Served P wo (wd K) mg base 1 ⟨"_law_whole", p__law_whole, r__law_whole⟩ := by
  obtain ⟨fd, F⟩ := c.defs (d := d__law_whole) (by simp [fn])
  have F : FunD (wd K).K "_law_whole" "_law_whole" (defArgs st__law_whole) (defBody st__law_whole) (defScope st__law_whole) [] [] (He.ga K "_law_whole") fd := F
  exact served (c := c__law_whole) F (He.glo_ok X G (c.facts (f := .glo "_law_whole") (by simp [fa]))) (FunD.bindsN (ps := p__law_whole) F fun _ _ _ _ _ _ us hl => match us, hl with | [_], _ => rfl) (mod1 X G c) (su__law_whole X G c cx) sc__law_whole ch__law_whole
theorem su__law_cell (X : K.In h) (G : h.Ns mainGlobals mg) (c : He.SaysD fa fn K) (cx : exB K = true) : ∀ g ∈ c__law_cell.funs, Served P wo (wd K) mg base 0 g := fun g hg => by
  cases hg
theorem sv__law_cell (X : K.In h) (G : h.Ns mainGlobals mg) (c : He.SaysD fa fn K) (cx : exB K = true) : Served P wo (wd K) mg base 1 ⟨"_law_cell", p__law_cell, r__law_cell⟩ := by
  obtain ⟨fd, F⟩ := c.defs (d := d__law_cell) (by simp [fn])
  have F : FunD (wd K).K "_law_cell" "_law_cell" (defArgs st__law_cell) (defBody st__law_cell) (defScope st__law_cell) [] [] (He.ga K "_law_cell") fd := F
  exact served (c := c__law_cell) F (He.glo_ok X G (c.facts (f := .glo "_law_cell") (by simp [fa]))) (FunD.bindsN (ps := p__law_cell) F fun _ _ _ _ _ _ us hl => match us, hl with | [_, _], _ => rfl) (mod1 X G c) (su__law_cell X G c cx) sc__law_cell ch__law_cell
theorem su__law_digits (X : K.In h) (G : h.Ns mainGlobals mg) (c : He.SaysD fa fn K) (cx : exB K = true) : ∀ g ∈ c__law_digits.funs, Served P wo (wd K) mg base 0 g := fun g hg => by
  cases hg
theorem sv__law_digits (X : K.In h) (G : h.Ns mainGlobals mg) (c : He.SaysD fa fn K) (cx : exB K = true) : Served P wo (wd K) mg base 1 ⟨"_law_digits", p__law_digits, r__law_digits⟩ := by
  obtain ⟨fd, F⟩ := c.defs (d := d__law_digits) (by simp [fn])
  have F : FunD (wd K).K "_law_digits" "_law_digits" (defArgs st__law_digits) (defBody st__law_digits) (defScope st__law_digits) [] [] (He.ga K "_law_digits") fd := F
  exact served (c := c__law_digits) F (He.glo_ok X G (c.facts (f := .glo "_law_digits") (by simp [fa]))) (FunD.bindsN (ps := p__law_digits) F fun _ _ _ _ _ _ us hl => match us, hl with | [_, _], _ => rfl) (mod1 X G c) (su__law_digits X G c cx) sc__law_digits ch__law_digits
theorem su__law_filled (X : K.In h) (G : h.Ns mainGlobals mg) (c : He.SaysD fa fn K) (cx : exB K = true) : ∀ g ∈ c__law_filled.funs, Served P wo (wd K) mg base 0 g := fun g hg => by
  cases hg
theorem sv__law_filled (X : K.In h) (G : h.Ns mainGlobals mg) (c : He.SaysD fa fn K) (cx : exB K = true) : Served P wo (wd K) mg base 1 ⟨"_law_filled", p__law_filled, r__law_filled⟩ := by
  obtain ⟨fd, F⟩ := c.defs (d := d__law_filled) (by simp [fn])
  have F : FunD (wd K).K "_law_filled" "_law_filled" (defArgs st__law_filled) (defBody st__law_filled) (defScope st__law_filled) [] [] (He.ga K "_law_filled") fd := F
  exact served (c := c__law_filled) F (He.glo_ok X G (c.facts (f := .glo "_law_filled") (by simp [fa]))) (FunD.bindsN (ps := p__law_filled) F fun _ _ _ _ _ _ us hl => match us, hl with | [_, _, _], _ => rfl) (mod1 X G c) (su__law_filled X G c cx) sc__law_filled ch__law_filled
theorem su__law_good (X : K.In h) (G : h.Ns mainGlobals mg) (c : He.SaysD fa fn K) (cx : exB K = true) : ∀ g ∈ c__law_good.funs, Served P wo (wd K) mg base 0 g := fun g hg => by
  cases hg
theorem sv__law_good (X : K.In h) (G : h.Ns mainGlobals mg) (c : He.SaysD fa fn K) (cx : exB K = true) : Served P wo (wd K) mg base 1 ⟨"_law_good", p__law_good, r__law_good⟩ := by
  obtain ⟨fd, F⟩ := c.defs (d := d__law_good) (by simp [fn])
  have F : FunD (wd K).K "_law_good" "_law_good" (defArgs st__law_good) (defBody st__law_good) (defScope st__law_good) [] [] (He.ga K "_law_good") fd := F
  exact served (c := c__law_good) F (He.glo_ok X G (c.facts (f := .glo "_law_good") (by simp [fa]))) (FunD.bindsN (ps := p__law_good) F fun _ _ _ _ _ _ us hl => match us, hl with | [_], _ => rfl) (mod1 X G c) (su__law_good X G c cx) sc__law_good ch__law_good
theorem su__law_due (X : K.In h) (G : h.Ns mainGlobals mg) (c : He.SaysD fa fn K) (cx : exB K = true) : ∀ g ∈ c__law_due.funs, Served P wo (wd K) mg base 1 g := fun g hg => by
  simp only [c__law_due, List.mem_cons, List.not_mem_nil, or_false] at hg
  subst hg
  exact (sv__law_good X G c cx).mono (by decide)
theorem sv__law_due (X : K.In h) (G : h.Ns mainGlobals mg) (c : He.SaysD fa fn K) (cx : exB K = true) : Served P wo (wd K) mg base 2 ⟨"_law_due", p__law_due, r__law_due⟩ := by
  obtain ⟨fd, F⟩ := c.defs (d := d__law_due) (by simp [fn])
  have F : FunD (wd K).K "_law_due" "_law_due" (defArgs st__law_due) (defBody st__law_due) (defScope st__law_due) [] [] (He.ga K "_law_due") fd := F
  exact served (c := c__law_due) F (He.glo_ok X G (c.facts (f := .glo "_law_due") (by simp [fa]))) (FunD.bindsN (ps := p__law_due) F fun _ _ _ _ _ _ us hl => match us, hl with | [_], _ => rfl) (mod1 X G c) (su__law_due X G c cx) sc__law_due ch__law_due

theorem asked_text : ∃ (body : List Stmt) (np p1 p2 p3 p4 p5 p6 p7 p8 p9 p10 p11 p12 p13 p14 p15 pos' pos : Pos) (j : Nat), defBody st__law_asked = [.Try body [.ExceptHandler (some (.Name "NoReading" np)) (some "e")
    [.Return (some (.IfExp (.BoolOp .And [.Call (.Name "isinstance" p1) [.Name "e" p2, .Name "ReaderError" p3] [] p4, .UnaryOp .Not (.Call (.Name "isinstance" p5) [.Name "e" p6, .Name "BadNumber" p7] [] p8) p9] p10)
      (.List [] p11) (.List [.Constant (.str "other") j p12] p13) p14)) p15] pos'] [] [] pos] ∧ okBd c__law_asked (defScope st__law_asked) b__law_asked body = true :=
  ⟨_, _, _, _, _, _, _, _, _, _, _, _, _, _, _, _, _, _, _, _, rfl, by decide +kernel⟩
theorem asked_exec (t : T) : Mi.execs c__law_asked b__law_asked [some t, none] = match (r_turning [Vl.arg (.bw t)]).bnd Vl.out with
    | .ok x => (match x.shr with
      | some d => .ret (.fr (.lst [.sh d]))
      | none => .bad)
    | .exc k vs => .exc k vs [some t, none]
    | .bad => .bad := by
  have hf : c__law_asked.fn "turning" = some ⟨"turning", p_turning, r_turning⟩ := rfl
  have hl : Res.iff ([Vl.bw t].length = (⟨"turning", p_turning, r_turning⟩ : Fn).ps.length) ((r_turning [Vl.arg (.bw t)]).bnd Vl.out) = (r_turning [Vl.arg (.bw t)]).bnd Vl.out := Res.iff_pos rfl
  have hE : ev c__law_asked (.lst [.call "turning" [.var 0]]) [some t, none] = ((r_turning [Vl.arg (.bw t)]).bnd Vl.out).bnd fun x => (Res.of x.shr).bnd fun d => frL [d] := by
    simp only [ev, evs, List.getElem?_cons_zero, Res.bnd_ok, hf]
    rw [show ([Vl.bw t].map Vl.arg) = [Vl.arg (.bw t)] from rfl, hl]
    cases (r_turning [Vl.arg (.bw t)]).bnd Vl.out with
    | ok x =>
      simp only [Res.bnd_ok, optAll]
      cases x.shr with
      | none => rfl
      | some d =>
        simp only [Res.of_some, Res.bnd_ok, List.length_cons, List.length_nil]
        exact Res.iff_pos (by rw [sizeLine_eq]; omega)
    | exc k vs => rfl
    | bad => rfl
  simp only [b__law_asked, Mi.execs, Mi.exec, hE]
  cases (r_turning [Vl.arg (.bw t)]).bnd Vl.out with
  | ok x =>
    simp only [Res.bnd_ok]
    cases x.shr with
    | none => rfl
    | some d => rfl
  | exc k vs => rfl
  | bad => rfl
theorem sc__law_asked : scopeC N__law_asked p__law_asked (defScope st__law_asked) = true := by decide +kernel
theorem sv__law_asked (X : K.In h) (G : h.Ns mainGlobals mg) (c : He.SaysD fa fn K) (cx : exB K = true) : Served P wo (wd K) mg base 22 ⟨"_law_asked", p__law_asked, r__law_asked⟩ := by
  obtain ⟨fd, F⟩ := c.defs (d := d__law_asked) (by simp [fn])
  have F : FunD (wd K).K "_law_asked" "_law_asked" (defArgs st__law_asked) (defBody st__law_asked) (defScope st__law_asked) [] [] (He.ga K "_law_asked") fd := F
  have gl := fun x (hx : He.Fa.glo x ∈ fa) => He.glo_ok X G (c.facts hx)
  have fe := fun x (hx : He.Fa.free x ∈ fa) => He.free_ok X G (c.facts hx)
  refine ⟨_, fd, ?_, gl "_law_asked" (by simp [fa]), F.kp, FunD.bindsN (ps := p__law_asked) F fun _ _ _ _ _ _ us hl => match us, hl with | [_], _ => rfl⟩
  have S := scopeC_ok sc__law_asked
  have hcx := cx
  unfold exB at hcx
  simp only [Bool.and_eq_true, decide_eq_true_eq] at hcx
  obtain ⟨⟨x1, x2⟩, x3⟩ := hcx
  have EC := excC_of x1
  have em := He.exm_ok (c.facts (f := .exm "NoReading" "NoReading" true) (by simp [fa]))
  have bo : bootBuiltins "isinstance" = some (.builtin "isinstance") := by decide +kernel
  obtain ⟨body, np, p1, p2, p3, p4, p5, p6, p7, p8, p9, p10, p11, p12, p13, p14, p15, pos', pos, j, htx, hok⟩ := asked_text
  refine F.ok (N := N__law_asked) S (fun vs H Q E ⟨C, ts, h, _⟩ => h) fun cdv A outer s0 H vs Q E hr hsp => ?_
  rw [htx]
  obtain ⟨C, ts, hl, alC, hb0, hrun⟩ := hsp
  generalize hX : cxOf (L2.CX P wo) P wo (wd K).K mg base N__law_asked "_law_asked" (defScope st__law_asked) (He.ga K "_law_asked") cdv A outer s0 H E = X0
  have tk : Takes X0 (fun cls d _ H => E cls d H) := by
    subst hX
    exact takes_of rfl rfl rfl rfl
  have hn : Names X0 "NoReading" (.ref (He.ga K "NoReading")) := by
    subst hX
    exact ⟨rfl, rfl, .inl (gl "NoReading" (by simp [fa]))⟩
  let tb : WX → TS := fun W D σ H => ∀ pn xe, Takes (X0.tr pn xe) W → PassesOwn (model X0.prog X0.w) X0.A X0.env xe → ssW (X0.tr pn xe) body D σ H
  let tsu : Addr → Value → Option Addr → TS := fun a cls d D σ H => (cls = .ref (He.ga K "NoReading") ∧ d = none ∧ σ[1]? = some (some (.ref a))) ∧ ∀ p, H p = none → D.rt (.ref p) (upd H p (.lst []))
  refine ⟨_, pss_one (ps_try_as (i := 1) (tb := tb) (ts := tsu) (by subst hX; rfl) (by subst hX; rfl) (by subst hX; exact S.nd) (by subst hX; rfl) (by subst hX; rfl) hn tk (fun W pn xe tk' po => ⟨fun pins s σ H D I h => h pn xe tk' po pins s I⟩) ?_), ?_⟩
  · subst hX
    intro a oe cls d pn hz hf
    refine ⟨fun pins s σ H1 D I ⟨⟨hc, hd, hσ⟩, h⟩ => ?_⟩
    subst hc hd
    have hi := call_isE (pn := pn) (a := a) (oe := oe) (X := cxOf (L2.CX P wo) P wo (wd K).K mg base N__law_asked "_law_asked" (defScope st__law_asked) (He.ga K "_law_asked") cdv A outer s0 H E) EC hz hf
    generalize hXs : (cxOf (L2.CX P wo) P wo (wd K).K mg base N__law_asked "_law_asked" (defScope st__law_asked) (He.ga K "_law_asked") cdv A outer s0 H E).suite a ((a, oe) :: pn) = Xs at hi I ⊢
    have v1 : ∀ q, PE Xs (.Name "e" q) (tVar 1) := fun q => pe_var (by subst hXs; rfl) (by subst hXs; exact .inl rfl) rfl rfl
    have c1 : ∀ q, PE Xs (.Name "ReaderError" q) (tC (.ref (He.ga K "ReaderError"))) := fun q => pe_glob (by subst hXs; rfl) (by subst hXs; exact gl "ReaderError" (by simp [fa])) rfl rfl
    have c2 : ∀ q, PE Xs (.Name "BadNumber" q) (tC (.ref (He.ga K "BadNumber"))) := fun q => pe_glob (by subst hXs; rfl) (by subst hXs; exact gl "BadNumber" (by simp [fa])) rfl rfl
    have g1 : Gl Xs "isinstance" := by subst hXs; rfl
    have m1 : Xs.mg "isinstance" = none := by subst hXs; exact fe "isinstance" (by simp [fa])
    have i1 : PT Xs (.Call (.Name "isinstance" p1) [.Name "e" p2, .Name "ReaderError" p3] [] p4) _ := pt_truth (pe_callB hi g1 m1 bo (pa_cons (v1 p2) (pa_cons (c1 p3) pa_nil))) (fun _ => rfl)
    have i2 : PT Xs (.Call (.Name "isinstance" p5) [.Name "e" p6, .Name "BadNumber" p7] [] p8) _ := pt_truth (pe_callB hi g1 m1 bo (pa_cons (v1 p6) (pa_cons (c2 p7) pa_nil))) (fun _ => rfl)
    refine (pss_one (ps_ret (pe_ifExp (pw_and i1 (pw_and1 (pt_not i2))).pt (pe_lst pa_nil) (pe_lst (pa_cons pe_str pa_nil))))).run pins s σ H1 D I ?_
    refine ⟨_, hσ, .ref (He.ga K "ReaderError"), .ref (He.ga K "ReaderError"), true, rfl, fun u r => r, x2, true, rfl, ?_⟩
    refine ite_tt ?_
    refine ⟨_, hσ, .ref (He.ga K "BadNumber"), .ref (He.ga K "BadNumber"), false, rfl, fun u r => r, x3, false, rfl, ?_⟩
    refine ite_tt ?_
    exact ⟨Nat.zero_le _, fun p n => h p n⟩
  · have hrun : match askR r_turning ts with
      | .ok x => ∀ v H', Ex H H' → VAt (wd K) [] C H v x H' → Q v H'
      | .exc c ds => ∀ k dx H', Ex H H' → XAt (wd K) C H' k dx c ds → E k dx H'
      | .bad => False := hrun
    obtain ⟨t, rfl⟩ : ∃ t, ts = [t] := by
      have : ts.length = 1 := by rw [← hb0.length, hl]; rfl
      match ts, this with
      | [t], _ => exact ⟨t, rfl⟩
    have hst : t.still = true := by
      cases hq : t.still with
      | true => rfl
      | false =>
        have : askR r_turning [t] = .bad := by
          simp only [askR, hq]
          rfl
        rw [this] at hrun
        exact hrun.elim
    have e1 : Env1 c__law_asked (wd K) P wo (wd K).K mg base 21 := env1 (mod1 X G c) fun g hg => by
      simp only [c__law_asked, List.mem_cons, List.not_mem_nil, or_false] at hg
      subst hg
      exact sv_turning X G c cx
    intro pn xe tk' po
    have p : PtS c__law_asked (wd K) 21 (X0.tr pn xe) _ := ⟨by subst hX; exact ⟨rfl, S.nd, e1.Ke, rfl, hr, e1.funs, e1.consts, e1.free, e1.exA⟩, tk', po, by subst hX; exact fun _ => rfl, by subst hX; exact S.kind⟩
    have so : StOk (wd K) H C (L2.start N__law_asked vs) H [] [some t, none] := by
      have hv : vs.length = 1 := hl
      refine ⟨?_, fun i t' q => ?_, fun i j a us us' hij hi hj => ?_, alC, fun a ha => by (cases ha), Ex.refl _, alC⟩
      · unfold L2.start
        simp [hv, N__law_asked]
      · obtain ⟨v, q1, q2, _⟩ := start_env (N := N__law_asked) hb0 (by simp [hst]) i t' q
        exact ⟨v, q1, q2⟩
      · obtain ⟨v, q1, q2, q3⟩ := start_env (N := N__law_asked) hb0 (by simp [hst]) i _ hi
        cases q3
    refine soundB b__law_asked body (X0.tr pn xe) _ H C _ _ H [] _ p (by subst hX; exact hok) so ?_
    rw [asked_exec]
    simp only [askR, hst, Bool.not_true, Bool.false_eq_true, if_false] at hrun
    cases hrt : (r_turning [Vl.arg (.bw t)]).bnd Vl.out with
    | bad => rw [hrt] at hrun; exact hrun.elim
    | ok x =>
      rw [hrt] at hrun
      simp only at hrun ⊢
      cases hsx : x.shr with
      | none => rw [hsx] at hrun; exact hrun.elim
      | some d => rw [hsx] at hrun; exact hrun
    | exc k vs' =>
      rw [hrt] at hrun
      simp only at hrun ⊢
      by_cases hk : k = "NoReading" ∧ vs' = []
      · rw [if_pos hk] at hrun
        obtain ⟨rfl, rfl⟩ := hk
        intro kk dx σ' H' A' so' g' x'
        obtain ⟨rfl, x' | x'⟩ := x'
        · obtain ⟨_, rfl⟩ := x'
          refine ⟨true, by subst hX; exact em, fun _ a na => ⟨⟨rfl, rfl, ?_⟩, fun p n => ?_⟩, fun z => nomatch z⟩
          · have l2 : σ'.length = 2 := so'.len
            exact List.getElem?_set_self (by omega)
          · exact hrun _ _ (so'.ex.trans (Ex.new n)) (VAt.new (ds := []) so'.ex n (by simp only [RpL]))
        · exact absurd rfl x'.1
      · rw [if_neg hk] at hrun
        exact hrun.elim

-- HAND _law_asked level 22
theorem su__law_fine (X : K.In h) (G : h.Ns mainGlobals mg) (c : He.SaysD fa fn K) (cx : exB K = true) : ∀ g ∈ c__law_fine.funs, Served P wo (wd K) mg base 22 g := fun g hg => by
  simp only [c__law_fine, List.mem_cons, List.not_mem_nil, or_false] at hg
  rcases hg with rfl | rfl
  · exact (sv__law_asked X G c cx).mono (by decide)
  · exact (sv__law_whole X G c cx).mono (by decide)
theorem sv__law_fine (X : K.In h) (G : h.Ns mainGlobals mg) (c : He.SaysD fa fn K) (cx : exB K = true) : Served P wo (wd K) mg base 23 ⟨"_law_fine", p__law_fine, r__law_fine⟩ := by
  obtain ⟨fd, F⟩ := c.defs (d := d__law_fine) (by simp [fn])
  have F : FunD (wd K).K "_law_fine" "_law_fine" (defArgs st__law_fine) (defBody st__law_fine) (defScope st__law_fine) [] [] (He.ga K "_law_fine") fd := F
  exact served (c := c__law_fine) F (He.glo_ok X G (c.facts (f := .glo "_law_fine") (by simp [fa]))) (FunD.bindsN (ps := p__law_fine) F fun _ _ _ _ _ _ us hl => match us, hl with | [_, _], _ => rfl) (mod1 X G c) (su__law_fine X G c cx) sc__law_fine ch__law_fine
theorem su_law (X : K.In h) (G : h.Ns mainGlobals mg) (c : He.SaysD fa fn K) (cx : exB K = true) : ∀ g ∈ c_law.funs, Served P wo (wd K) mg base 23 g := fun g hg => by
  simp only [c_law, List.mem_cons, List.not_mem_nil, or_false] at hg
  rcases hg with rfl | rfl | rfl | rfl | rfl
  · exact (sv__law_cell X G c cx).mono (by decide)
  · exact (sv__law_digits X G c cx).mono (by decide)
  · exact (sv__law_due X G c cx).mono (by decide)
  · exact (sv__law_filled X G c cx).mono (by decide)
  · exact (sv__law_fine X G c cx).mono (by decide)
theorem sv_law (X : K.In h) (G : h.Ns mainGlobals mg) (c : He.SaysD fa fn K) (cx : exB K = true) : Served P wo (wd K) mg base 24 ⟨"law", p_law, r_law⟩ := by
  obtain ⟨fd, F⟩ := c.defs (d := d_law) (by simp [fn])
  have F : FunD (wd K).K "law" "law" (defArgs st_law) (defBody st_law) (defScope st_law) [] [] (He.ga K "law") fd := F
  exact served (c := c_law) F (He.glo_ok X G (c.facts (f := .glo "law") (by simp [fa]))) (FunD.bindsN (ps := p_law) F fun _ _ _ _ _ _ us hl => match us, hl with | [_], _ => rfl) (mod1 X G c) (su_law X G c cx) sc_law ch_law
end
theorem ca_frozen_frozen (self : List T → Res Vl) (x0 : Vl) : callR (c_frozen self) "frozen" (.ok [x0]) = (self [Vl.arg x0]).bnd Vl.out := call_k (g := ⟨"frozen", p_frozen, self⟩) rfl rfl
theorem ca_turning_frozen (x0 : Vl) : callR c_turning "frozen" (.ok [x0]) = (r_frozen 20 [Vl.arg x0]).bnd Vl.out := call_k (g := ⟨"frozen", p_frozen, r_frozen 20⟩) rfl rfl
theorem ca__law_due__law_good (x0 : Vl) : callR c__law_due "_law_good" (.ok [x0]) = (r__law_good [Vl.arg x0]).bnd Vl.out := call_k (g := ⟨"_law_good", p__law_good, r__law_good⟩) rfl rfl
theorem ca__law_fine__law_asked (x0 : Vl) : callR c__law_fine "_law_asked" (.ok [x0]) = (r__law_asked [Vl.arg x0]).bnd Vl.out := call_k (g := ⟨"_law_asked", p__law_asked, r__law_asked⟩) rfl rfl
theorem ca__law_fine__law_whole (x0 : Vl) : callR c__law_fine "_law_whole" (.ok [x0]) = (r__law_whole [Vl.arg x0]).bnd Vl.out := call_k (g := ⟨"_law_whole", p__law_whole, r__law_whole⟩) rfl rfl
theorem ca_law__law_cell (x0 x1 : Vl) : callR c_law "_law_cell" (.ok [x0, x1]) = (r__law_cell [Vl.arg x0, Vl.arg x1]).bnd Vl.out := call_k (g := ⟨"_law_cell", p__law_cell, r__law_cell⟩) rfl rfl
theorem ca_law__law_digits (x0 x1 : Vl) : callR c_law "_law_digits" (.ok [x0, x1]) = (r__law_digits [Vl.arg x0, Vl.arg x1]).bnd Vl.out := call_k (g := ⟨"_law_digits", p__law_digits, r__law_digits⟩) rfl rfl
theorem ca_law__law_due (x0 : Vl) : callR c_law "_law_due" (.ok [x0]) = (r__law_due [Vl.arg x0]).bnd Vl.out := call_k (g := ⟨"_law_due", p__law_due, r__law_due⟩) rfl rfl
theorem ca_law__law_filled (x0 x1 x2 : Vl) : callR c_law "_law_filled" (.ok [x0, x1, x2]) = (r__law_filled [Vl.arg x0, Vl.arg x1, Vl.arg x2]).bnd Vl.out := call_k (g := ⟨"_law_filled", p__law_filled, r__law_filled⟩) rfl rfl
theorem ca_law__law_fine (x0 x1 : Vl) : callR c_law "_law_fine" (.ok [x0, x1]) = (r__law_fine [Vl.arg x0, Vl.arg x1]).bnd Vl.out := call_k (g := ⟨"_law_fine", p__law_fine, r__law_fine⟩) rfl rfl

end
end Mi.K75

set_option Elab.async false
set_option linter.all false
set_option maxRecDepth 100000
set_option maxHeartbeats 4000000
namespace Mi.K75
open PySem PySem.Spec PyProof.Rows L2 Mi
theorem whole_ok (i : Int) : r__law_whole [.sh (.int i)] = okB true := by
  unfold r__law_whole
  rw [rd_eq rfl]
  show resO (Mi.execs _ b__law_whole [some (T.sh (.int i))]) = _
  unfold b__law_whole
  simp only [ca_frozen_frozen, ca_turning_frozen, ca__law_due__law_good, ca__law_fine__law_asked, ca__law_fine__law_whole, ca_law__law_cell, ca_law__law_digits, ca_law__law_due, ca_law__law_filled, ca_law__law_fine, okD_i, okD_b, okD_s, okT_sh, dR_some, tR_some, varR_t, y_var, y_int, y_bl, y_str, y_non, y_bin, y_neg, y_cmp, y_and, y_or, y_not, y_ite, y_tup, y_lst, y_ix, y_sl, y_call, y_bi, y_isi, y_comp, y_nil, y_cons, t_and, t_or, t_not, t_var, t_cst, t_cmp, t_call, t_bi, t_isi, t_ix, b_add, b_sub, b_mul, b_mod, b_div, b_10_18, n_i, c_eq, c_ne, c_lt, c_le, c_gt, c_ge, v_and, v_or, v_not, r_ite, tt_b, tt_and, tt_or, tt_not, k_i, k_b, k_s, k_d, k_t, k_f, i_int, i_bl, i_str, i_tup, i_lst, i_rolst, i_rotup, bi_int, bi_min, bi_max, l_sl, l_st, l_rl, l_rt, l_ow, l_fr, l_sc, m_sl, m_st, m_rl, m_rt, m_ow, m_fr, u_sl, u_st, u_rl, u_ow, u_fr, s_sl', s_st', s_rl', s_rt', s_ow', x_sl, x_st, x_ow, x_fr, x_rl, x_rt, x_rli, x_rti, x_sc, p_none, p_some, z_sl, z_ow, z_fr, z_rl, z_st, a_ff, a_fl, a_lf, a_ll, lst_0, srcR_ok, w_sl, w_st, w_rl, w_rt, w_ow, w_fr, w_sc, w_r1, w_r1n, e_nil, e_cons, q_nx, q_ret, q_brk, q_cnt, q_exc, e_asg, e_own, e_app, e_setI, e_ret, e_retN, e_if, e_rse, g_nm, a_i, a_b, a_s, a_d, a_f, a_exc, o_f, p_i, p_d, rt_i, rt_b, rt_s, rt_d, rt_f, rt_o, rt_x, if_k, if_x, ro_i, ro_b, ro_s, ro_d, ro_f, ro_x, ou_i, ou_b, ou_s, ou_d, ou_f, ou_x, ar_sh, ar_ro, ar_sc, ar_ow, ar_fr, y_t0, y_t1, List.getElem?_cons_zero, List.getElem?_cons_succ, List.set_cons_zero, List.set_cons_succ, List.length_cons, List.length_nil, List.map_cons, List.map_nil, List.cons_append, List.nil_append, List.append_nil, Nat.zero_add, Nat.reduceAdd, Nat.reduceLT, List.replicate_succ, List.replicate_zero, Int.reduceLT, Int.reduceNeg, and_self, true_and, and_true]
  simp [isTy]
theorem atN (ns : List Int) (k : Nat) (hk : k < ns.length) : dR (atI (iD ns) k) = okI ns[k] := by
  rw [atI_nat (by rw [iD_length]; exact hk)]
  simp [iD, hk, dR, okD, okI]
theorem cell_ok (ns : List Int) (k : Nat) : ∃ i : Int, r__law_cell [.scr ns, .sh (.int k)] = okI i := by
  unfold r__law_cell
  rw [rd_eq rfl]
  show ∃ i, resO (Mi.execs _ b__law_cell [some (T.scr ns), some (T.sh (.int k)), none, none]) = _
  unfold b__law_cell
  by_cases hk : k < ns.length
  · refine ⟨ns[k], ?_⟩
    have e : decide ((k : Int) < (ns.length : Int)) = true := by simpa using hk
    simp only [ca_frozen_frozen, ca_turning_frozen, ca__law_due__law_good, ca__law_fine__law_asked, ca__law_fine__law_whole, ca_law__law_cell, ca_law__law_digits, ca_law__law_due, ca_law__law_filled, ca_law__law_fine, okD_i, okD_b, okD_s, okT_sh, dR_some, tR_some, varR_t, y_var, y_int, y_bl, y_str, y_non, y_bin, y_neg, y_cmp, y_and, y_or, y_not, y_ite, y_tup, y_lst, y_ix, y_sl, y_call, y_bi, y_isi, y_comp, y_nil, y_cons, t_and, t_or, t_not, t_var, t_cst, t_cmp, t_call, t_bi, t_isi, t_ix, b_add, b_sub, b_mul, b_mod, b_div, b_10_18, n_i, c_eq, c_ne, c_lt, c_le, c_gt, c_ge, v_and, v_or, v_not, r_ite, tt_b, tt_and, tt_or, tt_not, k_i, k_b, k_s, k_d, k_t, k_f, i_int, i_bl, i_str, i_tup, i_lst, i_rolst, i_rotup, bi_int, bi_min, bi_max, l_sl, l_st, l_rl, l_rt, l_ow, l_fr, l_sc, m_sl, m_st, m_rl, m_rt, m_ow, m_fr, u_sl, u_st, u_rl, u_ow, u_fr, s_sl', s_st', s_rl', s_rt', s_ow', x_sl, x_st, x_ow, x_fr, x_rl, x_rt, x_rli, x_rti, x_sc, p_none, p_some, z_sl, z_ow, z_fr, z_rl, z_st, a_ff, a_fl, a_lf, a_ll, lst_0, srcR_ok, w_sl, w_st, w_rl, w_rt, w_ow, w_fr, w_sc, w_r1, w_r1n, e_nil, e_cons, q_nx, q_ret, q_brk, q_cnt, q_exc, e_asg, e_own, e_app, e_setI, e_ret, e_retN, e_if, e_rse, g_nm, a_i, a_b, a_s, a_d, a_f, a_exc, o_f, p_i, p_d, rt_i, rt_b, rt_s, rt_d, rt_f, rt_o, rt_x, if_k, if_x, ro_i, ro_b, ro_s, ro_d, ro_f, ro_x, ou_i, ou_b, ou_s, ou_d, ou_f, ou_x, ar_sh, ar_ro, ar_sc, ar_ow, ar_fr, y_t0, y_t1, List.getElem?_cons_zero, List.getElem?_cons_succ, List.set_cons_zero, List.set_cons_succ, List.length_cons, List.length_nil, List.map_cons, List.map_nil, List.cons_append, List.nil_append, List.append_nil, Nat.zero_add, Nat.reduceAdd, Nat.reduceLT, List.replicate_succ, List.replicate_zero, Int.reduceLT, Int.reduceNeg, and_self, true_and, and_true, e, if_true, atN ns k hk]
  · have e : decide ((k : Int) < (ns.length : Int)) = false := by simpa using hk
    obtain ⟨ρ', h1, _, s, x, hs, rfl⟩ := for_nx (g := .nm 3) (body := Mi.execs c__law_cell l__law_cell_0)
      (fun ts ρ => (∃ is : List Int, ts = (iD is).map T.sh) ∧ ∃ (s : Int) (x : Option T), (0 ≤ s ∧ s < 1000003) ∧ ρ = [some (.scr ns), some (.sh (.int k)), some (.sh (.int s)), x])
      (fun t ts ρ ⟨⟨is, e⟩, s, x, hs, hρ⟩ => by
        cases is with
        | nil => cases e
        | cons i is =>
          rw [iD_cons, List.map_cons] at e
          cases e
          subst hρ
          refine ⟨_, _, rfl, ?_, ⟨is, rfl⟩, (s * 31 + i % 1000003) % 1000003, some (.sh (.int i)), ⟨by omega, by omega⟩, rfl⟩
          unfold l__law_cell_0
          simp only [ca_frozen_frozen, ca_turning_frozen, ca__law_due__law_good, ca__law_fine__law_asked, ca__law_fine__law_whole, ca_law__law_cell, ca_law__law_digits, ca_law__law_due, ca_law__law_filled, ca_law__law_fine, okD_i, okD_b, okD_s, okT_sh, dR_some, tR_some, varR_t, y_var, y_int, y_bl, y_str, y_non, y_bin, y_neg, y_cmp, y_and, y_or, y_not, y_ite, y_tup, y_lst, y_ix, y_sl, y_call, y_bi, y_isi, y_comp, y_nil, y_cons, t_and, t_or, t_not, t_var, t_cst, t_cmp, t_call, t_bi, t_isi, t_ix, b_add, b_sub, b_mul, b_mod, b_div, b_10_18, n_i, c_eq, c_ne, c_lt, c_le, c_gt, c_ge, v_and, v_or, v_not, r_ite, tt_b, tt_and, tt_or, tt_not, k_i, k_b, k_s, k_d, k_t, k_f, i_int, i_bl, i_str, i_tup, i_lst, i_rolst, i_rotup, bi_int, bi_min, bi_max, l_sl, l_st, l_rl, l_rt, l_ow, l_fr, l_sc, m_sl, m_st, m_rl, m_rt, m_ow, m_fr, u_sl, u_st, u_rl, u_ow, u_fr, s_sl', s_st', s_rl', s_rt', s_ow', x_sl, x_st, x_ow, x_fr, x_rl, x_rt, x_rli, x_rti, x_sc, p_none, p_some, z_sl, z_ow, z_fr, z_rl, z_st, a_ff, a_fl, a_lf, a_ll, lst_0, srcR_ok, w_sl, w_st, w_rl, w_rt, w_ow, w_fr, w_sc, w_r1, w_r1n, e_nil, e_cons, q_nx, q_ret, q_brk, q_cnt, q_exc, e_asg, e_own, e_app, e_setI, e_ret, e_retN, e_if, e_rse, g_nm, a_i, a_b, a_s, a_d, a_f, a_exc, o_f, p_i, p_d, rt_i, rt_b, rt_s, rt_d, rt_f, rt_o, rt_x, if_k, if_x, ro_i, ro_b, ro_s, ro_d, ro_f, ro_x, ou_i, ou_b, ou_s, ou_d, ou_f, ou_x, ar_sh, ar_ro, ar_sc, ar_ow, ar_fr, y_t0, y_t1, List.getElem?_cons_zero, List.getElem?_cons_succ, List.set_cons_zero, List.set_cons_succ, List.length_cons, List.length_nil, List.map_cons, List.map_nil, List.cons_append, List.nil_append, List.append_nil, Nat.zero_add, Nat.reduceAdd, Nat.reduceLT, List.replicate_succ, List.replicate_zero, Int.reduceLT, Int.reduceNeg, and_self, true_and, and_true])
      ((iD ns).map T.sh) [some (.scr ns), some (.sh (.int k)), some (.sh (.int 17)), none] ⟨⟨ns, by simp⟩, 17, none, by omega, rfl⟩
    have hf : Mi.exec c__law_cell (.forS (.nm 3) .seq [.var 0] l__law_cell_0) [some (.scr ns), some (.sh (.int k)), some (.sh (.int 17)), none] = .nx [some (.scr ns), some (.sh (.int k)), some (.sh (.int s)), x] := by
      rw [e_for (xs := [.bw (.scr ns)]) (ts := (iD ns).map T.sh) (by simp only [ca_frozen_frozen, ca_turning_frozen, ca__law_due__law_good, ca__law_fine__law_asked, ca__law_fine__law_whole, ca_law__law_cell, ca_law__law_digits, ca_law__law_due, ca_law__law_filled, ca_law__law_fine, okD_i, okD_b, okD_s, okT_sh, dR_some, tR_some, varR_t, y_var, y_int, y_bl, y_str, y_non, y_bin, y_neg, y_cmp, y_and, y_or, y_not, y_ite, y_tup, y_lst, y_ix, y_sl, y_call, y_bi, y_isi, y_comp, y_nil, y_cons, t_and, t_or, t_not, t_var, t_cst, t_cmp, t_call, t_bi, t_isi, t_ix, b_add, b_sub, b_mul, b_mod, b_div, b_10_18, n_i, c_eq, c_ne, c_lt, c_le, c_gt, c_ge, v_and, v_or, v_not, r_ite, tt_b, tt_and, tt_or, tt_not, k_i, k_b, k_s, k_d, k_t, k_f, i_int, i_bl, i_str, i_tup, i_lst, i_rolst, i_rotup, bi_int, bi_min, bi_max, l_sl, l_st, l_rl, l_rt, l_ow, l_fr, l_sc, m_sl, m_st, m_rl, m_rt, m_ow, m_fr, u_sl, u_st, u_rl, u_ow, u_fr, s_sl', s_st', s_rl', s_rt', s_ow', x_sl, x_st, x_ow, x_fr, x_rl, x_rt, x_rli, x_rti, x_sc, p_none, p_some, z_sl, z_ow, z_fr, z_rl, z_st, a_ff, a_fl, a_lf, a_ll, lst_0, srcR_ok, w_sl, w_st, w_rl, w_rt, w_ow, w_fr, w_sc, w_r1, w_r1n, e_nil, e_cons, q_nx, q_ret, q_brk, q_cnt, q_exc, e_asg, e_own, e_app, e_setI, e_ret, e_retN, e_if, e_rse, g_nm, a_i, a_b, a_s, a_d, a_f, a_exc, o_f, p_i, p_d, rt_i, rt_b, rt_s, rt_d, rt_f, rt_o, rt_x, if_k, if_x, ro_i, ro_b, ro_s, ro_d, ro_f, ro_x, ou_i, ou_b, ou_s, ou_d, ou_f, ou_x, ar_sh, ar_ro, ar_sc, ar_ow, ar_fr, y_t0, y_t1, List.getElem?_cons_zero, List.getElem?_cons_succ, List.set_cons_zero, List.set_cons_succ, List.length_cons, List.length_nil, List.map_cons, List.map_nil, List.cons_append, List.nil_append, List.append_nil, Nat.zero_add, Nat.reduceAdd, Nat.reduceLT, List.replicate_succ, List.replicate_zero, Int.reduceLT, Int.reduceNeg, and_self, true_and, and_true]) rfl (still_sh _) rfl]
      exact h1
    have hm : binR .mul (okI (s + 7)) (okI ((k : Int) + 3)) = okI ((s + 7) * (k + 3)) := b_mull _ _ (by omega)
    exact ⟨(s + 7) * (k + 3) * 69621 % 2147483647, by simp only [ca_frozen_frozen, ca_turning_frozen, ca__law_due__law_good, ca__law_fine__law_asked, ca__law_fine__law_whole, ca_law__law_cell, ca_law__law_digits, ca_law__law_due, ca_law__law_filled, ca_law__law_fine, okD_i, okD_b, okD_s, okT_sh, dR_some, tR_some, varR_t, y_var, y_int, y_bl, y_str, y_non, y_bin, y_neg, y_cmp, y_and, y_or, y_not, y_ite, y_tup, y_lst, y_ix, y_sl, y_call, y_bi, y_isi, y_comp, y_nil, y_cons, t_and, t_or, t_not, t_var, t_cst, t_cmp, t_call, t_bi, t_isi, t_ix, b_add, b_sub, b_mul, b_mod, b_div, b_10_18, n_i, c_eq, c_ne, c_lt, c_le, c_gt, c_ge, v_and, v_or, v_not, r_ite, tt_b, tt_and, tt_or, tt_not, k_i, k_b, k_s, k_d, k_t, k_f, i_int, i_bl, i_str, i_tup, i_lst, i_rolst, i_rotup, bi_int, bi_min, bi_max, l_sl, l_st, l_rl, l_rt, l_ow, l_fr, l_sc, m_sl, m_st, m_rl, m_rt, m_ow, m_fr, u_sl, u_st, u_rl, u_ow, u_fr, s_sl', s_st', s_rl', s_rt', s_ow', x_sl, x_st, x_ow, x_fr, x_rl, x_rt, x_rli, x_rti, x_sc, p_none, p_some, z_sl, z_ow, z_fr, z_rl, z_st, a_ff, a_fl, a_lf, a_ll, lst_0, srcR_ok, w_sl, w_st, w_rl, w_rt, w_ow, w_fr, w_sc, w_r1, w_r1n, e_nil, e_cons, q_nx, q_ret, q_brk, q_cnt, q_exc, e_asg, e_own, e_app, e_setI, e_ret, e_retN, e_if, e_rse, g_nm, a_i, a_b, a_s, a_d, a_f, a_exc, o_f, p_i, p_d, rt_i, rt_b, rt_s, rt_d, rt_f, rt_o, rt_x, if_k, if_x, ro_i, ro_b, ro_s, ro_d, ro_f, ro_x, ou_i, ou_b, ou_s, ou_d, ou_f, ou_x, ar_sh, ar_ro, ar_sc, ar_ow, ar_fr, y_t0, y_t1, List.getElem?_cons_zero, List.getElem?_cons_succ, List.set_cons_zero, List.set_cons_succ, List.length_cons, List.length_nil, List.map_cons, List.map_nil, List.cons_append, List.nil_append, List.append_nil, Nat.zero_add, Nat.reduceAdd, Nat.reduceLT, List.replicate_succ, List.replicate_zero, Int.reduceLT, Int.reduceNeg, and_self, true_and, and_true, e, hf, hm, Bool.false_eq_true, if_false]⟩
/-! ### the rows of digits -/
def sized (row sizes : List Int) : Prop := row.length = sizes.length ∧ ∀ (k : Nat) (s : Int), sizes[k]? = some s → ∃ r, row[k]? = some r ∧ 0 ≤ r ∧ r < s
theorem sized_nil : sized [] [] := ⟨rfl, fun k s h => by simp at h⟩
theorem sized_snoc {row sizes : List Int} {r s : Int} (h : sized row sizes) (h0 : 0 ≤ r) (h1 : r < s) : sized (row ++ [r]) (sizes ++ [s]) := by
  refine ⟨by simp [h.1], fun k s' e => ?_⟩
  by_cases hk : k < sizes.length
  · rw [List.getElem?_append_left hk] at e
    obtain ⟨r', e1, e2⟩ := h.2 k s' e
    exact ⟨r', by rw [List.getElem?_append_left (by rw [h.1]; exact hk)]; exact e1, e2⟩
  · have : k = sizes.length := by
      have := (List.getElem?_eq_some_iff.mp e).1
      simp at this
      omega
    subst this
    rw [List.getElem?_append_right (Nat.le_refl _)] at e
    simp at e
    subst e
    exact ⟨r, by rw [← h.1]; simp, h0, h1⟩
theorem digits_ok (c : Int) (sizes : List Int) (hp : ∀ s ∈ sizes, 0 < s ∧ s < 1000000) (hl : sizes.length ≤ 1000) : ∃ row : List Int, r__law_digits [.sh (.int c), .sh (.lst (iD sizes))] = frL (iD row) ∧ sized row sizes := by
  unfold r__law_digits
  rw [rd_eq rfl]
  show ∃ row, resO (Mi.execs _ b__law_digits [some (T.sh (.int c)), some (T.sh (.lst (iD sizes))), none, none, none, none, none, none]) = _ ∧ _
  unfold b__law_digits
  by_cases hc : 1000000000000000000 ≤ c
  · have e : decide (1000000000000000000 ≤ c) = true := by simpa using hc
    obtain ⟨ρ', h1, is, hi, pre, hpre, row, r, x, hs, rfl⟩ := for_nx (g := .nm 6) (body := Mi.execs c__law_digits l__law_digits_0)
      (fun ts ρ => ∃ (is : List Int), ts = (iD is).map T.sh ∧ ∃ pre, sizes = pre ++ is ∧ ∃ (row : List Int) (r : Int) (x : Option T), sized row pre ∧ ρ = [some (.sh (.int c)), some (.sh (.lst (iD sizes))), some (.lst ((iD row).map T.sh)), some (.sh (.int r)), none, none, x, none])
      (fun t ts ρ ⟨is, e, pre, hpre, row, r, x, hs, hρ⟩ => by
        cases is with
        | nil => cases e
        | cons i is =>
          rw [iD_cons, List.map_cons] at e
          cases e
          subst hρ
          have hi := hp i (by rw [hpre]; simp)
          have hlen : (iD row).length < sizeLine := by
            rw [iD_length, hs.1, sizeLine_eq]
            have : pre.length ≤ sizes.length := by rw [hpre]; simp
            omega
          have d1 : 0 < i ∧ i < 18446744073709551616 := ⟨hi.1, by omega⟩
          refine ⟨_, _, rfl, ?_, is, rfl, pre ++ [i], by simp [hpre], row ++ [r % i], r / i, some (.sh (.int i)), sized_snoc hs (Int.emod_nonneg _ (by omega)) (Int.emod_lt_of_pos _ hi.1), rfl⟩
          unfold l__law_digits_0
          rw [iD_app]
          simp only [ca_frozen_frozen, ca_turning_frozen, ca__law_due__law_good, ca__law_fine__law_asked, ca__law_fine__law_whole, ca_law__law_cell, ca_law__law_digits, ca_law__law_due, ca_law__law_filled, ca_law__law_fine, okD_i, okD_b, okD_s, okT_sh, dR_some, tR_some, varR_t, y_var, y_int, y_bl, y_str, y_non, y_bin, y_neg, y_cmp, y_and, y_or, y_not, y_ite, y_tup, y_lst, y_ix, y_sl, y_call, y_bi, y_isi, y_comp, y_nil, y_cons, t_and, t_or, t_not, t_var, t_cst, t_cmp, t_call, t_bi, t_isi, t_ix, b_add, b_sub, b_mul, b_mod, b_div, b_10_18, n_i, c_eq, c_ne, c_lt, c_le, c_gt, c_ge, v_and, v_or, v_not, r_ite, tt_b, tt_and, tt_or, tt_not, k_i, k_b, k_s, k_d, k_t, k_f, i_int, i_bl, i_str, i_tup, i_lst, i_rolst, i_rotup, bi_int, bi_min, bi_max, l_sl, l_st, l_rl, l_rt, l_ow, l_fr, l_sc, m_sl, m_st, m_rl, m_rt, m_ow, m_fr, u_sl, u_st, u_rl, u_ow, u_fr, s_sl', s_st', s_rl', s_rt', s_ow', x_sl, x_st, x_ow, x_fr, x_rl, x_rt, x_rli, x_rti, x_sc, p_none, p_some, z_sl, z_ow, z_fr, z_rl, z_st, a_ff, a_fl, a_lf, a_ll, lst_0, srcR_ok, w_sl, w_st, w_rl, w_rt, w_ow, w_fr, w_sc, w_r1, w_r1n, e_nil, e_cons, q_nx, q_ret, q_brk, q_cnt, q_exc, e_asg, e_own, e_app, e_setI, e_ret, e_retN, e_if, e_rse, g_nm, a_i, a_b, a_s, a_d, a_f, a_exc, o_f, p_i, p_d, rt_i, rt_b, rt_s, rt_d, rt_f, rt_o, rt_x, if_k, if_x, ro_i, ro_b, ro_s, ro_d, ro_f, ro_x, ou_i, ou_b, ou_s, ou_d, ou_f, ou_x, ar_sh, ar_ro, ar_sc, ar_ow, ar_fr, y_t0, y_t1, List.getElem?_cons_zero, List.getElem?_cons_succ, List.set_cons_zero, List.set_cons_succ, List.length_cons, List.length_nil, List.map_cons, List.map_nil, List.cons_append, List.nil_append, List.append_nil, Nat.zero_add, Nat.reduceAdd, Nat.reduceLT, List.replicate_succ, List.replicate_zero, Int.reduceLT, Int.reduceNeg, and_self, true_and, and_true, hi.1, hlen, d1]
          rfl)
      ((iD sizes).map T.sh) [some (.sh (.int c)), some (.sh (.lst (iD sizes))), some (.lst ((iD []).map T.sh)), some (.sh (.int (c - 1000000000000000000))), none, none, none, none] ⟨sizes, rfl, [], rfl, [], _, none, sized_nil, rfl⟩
    have : is = [] := by
      cases is with
      | nil => rfl
      | cons _ _ => cases hi
    subst this
    rw [List.append_nil] at hpre
    subst hpre
    have hf : Mi.exec c__law_digits (.forS (.nm 6) .seq [.var 1] l__law_digits_0) [some (.sh (.int c)), some (.sh (.lst (iD sizes))), some (.lst ((iD []).map T.sh)), some (.sh (.int (c - 1000000000000000000))), none, none, none, none] =
        .nx [some (.sh (.int c)), some (.sh (.lst (iD sizes))), some (.lst ((iD row).map T.sh)), some (.sh (.int r)), none, none, x, none] := by
      rw [e_for (xs := [.sh (.lst (iD sizes))]) (ts := (iD sizes).map T.sh) (by simp only [ca_frozen_frozen, ca_turning_frozen, ca__law_due__law_good, ca__law_fine__law_asked, ca__law_fine__law_whole, ca_law__law_cell, ca_law__law_digits, ca_law__law_due, ca_law__law_filled, ca_law__law_fine, okD_i, okD_b, okD_s, okT_sh, dR_some, tR_some, varR_t, y_var, y_int, y_bl, y_str, y_non, y_bin, y_neg, y_cmp, y_and, y_or, y_not, y_ite, y_tup, y_lst, y_ix, y_sl, y_call, y_bi, y_isi, y_comp, y_nil, y_cons, t_and, t_or, t_not, t_var, t_cst, t_cmp, t_call, t_bi, t_isi, t_ix, b_add, b_sub, b_mul, b_mod, b_div, b_10_18, n_i, c_eq, c_ne, c_lt, c_le, c_gt, c_ge, v_and, v_or, v_not, r_ite, tt_b, tt_and, tt_or, tt_not, k_i, k_b, k_s, k_d, k_t, k_f, i_int, i_bl, i_str, i_tup, i_lst, i_rolst, i_rotup, bi_int, bi_min, bi_max, l_sl, l_st, l_rl, l_rt, l_ow, l_fr, l_sc, m_sl, m_st, m_rl, m_rt, m_ow, m_fr, u_sl, u_st, u_rl, u_ow, u_fr, s_sl', s_st', s_rl', s_rt', s_ow', x_sl, x_st, x_ow, x_fr, x_rl, x_rt, x_rli, x_rti, x_sc, p_none, p_some, z_sl, z_ow, z_fr, z_rl, z_st, a_ff, a_fl, a_lf, a_ll, lst_0, srcR_ok, w_sl, w_st, w_rl, w_rt, w_ow, w_fr, w_sc, w_r1, w_r1n, e_nil, e_cons, q_nx, q_ret, q_brk, q_cnt, q_exc, e_asg, e_own, e_app, e_setI, e_ret, e_retN, e_if, e_rse, g_nm, a_i, a_b, a_s, a_d, a_f, a_exc, o_f, p_i, p_d, rt_i, rt_b, rt_s, rt_d, rt_f, rt_o, rt_x, if_k, if_x, ro_i, ro_b, ro_s, ro_d, ro_f, ro_x, ou_i, ou_b, ou_s, ou_d, ou_f, ou_x, ar_sh, ar_ro, ar_sc, ar_ow, ar_fr, y_t0, y_t1, List.getElem?_cons_zero, List.getElem?_cons_succ, List.set_cons_zero, List.set_cons_succ, List.length_cons, List.length_nil, List.map_cons, List.map_nil, List.cons_append, List.nil_append, List.append_nil, Nat.zero_add, Nat.reduceAdd, Nat.reduceLT, List.replicate_succ, List.replicate_zero, Int.reduceLT, Int.reduceNeg, and_self, true_and, and_true]) rfl (still_sh _) rfl]
      exact h1
    have hf : Mi.exec c__law_digits (.forS (.nm 6) .seq [.var 1] l__law_digits_0) [some (.sh (.int c)), some (.sh (.lst (iD sizes))), some (.lst []), some (.sh (.int (c - 1000000000000000000))), none, none, none, none] =
        .nx [some (.sh (.int c)), some (.sh (.lst (iD sizes))), some (.lst ((iD row).map T.sh)), some (.sh (.int r)), none, none, x, none] := hf
    refine ⟨row, ?_, hs⟩
    simp only [ca_frozen_frozen, ca_turning_frozen, ca__law_due__law_good, ca__law_fine__law_asked, ca__law_fine__law_whole, ca_law__law_cell, ca_law__law_digits, ca_law__law_due, ca_law__law_filled, ca_law__law_fine, okD_i, okD_b, okD_s, okT_sh, dR_some, tR_some, varR_t, y_var, y_int, y_bl, y_str, y_non, y_bin, y_neg, y_cmp, y_and, y_or, y_not, y_ite, y_tup, y_lst, y_ix, y_sl, y_call, y_bi, y_isi, y_comp, y_nil, y_cons, t_and, t_or, t_not, t_var, t_cst, t_cmp, t_call, t_bi, t_isi, t_ix, b_add, b_sub, b_mul, b_mod, b_div, b_10_18, n_i, c_eq, c_ne, c_lt, c_le, c_gt, c_ge, v_and, v_or, v_not, r_ite, tt_b, tt_and, tt_or, tt_not, k_i, k_b, k_s, k_d, k_t, k_f, i_int, i_bl, i_str, i_tup, i_lst, i_rolst, i_rotup, bi_int, bi_min, bi_max, l_sl, l_st, l_rl, l_rt, l_ow, l_fr, l_sc, m_sl, m_st, m_rl, m_rt, m_ow, m_fr, u_sl, u_st, u_rl, u_ow, u_fr, s_sl', s_st', s_rl', s_rt', s_ow', x_sl, x_st, x_ow, x_fr, x_rl, x_rt, x_rli, x_rti, x_sc, p_none, p_some, z_sl, z_ow, z_fr, z_rl, z_st, a_ff, a_fl, a_lf, a_ll, lst_0, srcR_ok, w_sl, w_st, w_rl, w_rt, w_ow, w_fr, w_sc, w_r1, w_r1n, e_nil, e_cons, q_nx, q_ret, q_brk, q_cnt, q_exc, e_asg, e_own, e_app, e_setI, e_ret, e_retN, e_if, e_rse, g_nm, a_i, a_b, a_s, a_d, a_f, a_exc, o_f, p_i, p_d, rt_i, rt_b, rt_s, rt_d, rt_f, rt_o, rt_x, if_k, if_x, ro_i, ro_b, ro_s, ro_d, ro_f, ro_x, ou_i, ou_b, ou_s, ou_d, ou_f, ou_x, ar_sh, ar_ro, ar_sc, ar_ow, ar_fr, y_t0, y_t1, List.getElem?_cons_zero, List.getElem?_cons_succ, List.set_cons_zero, List.set_cons_succ, List.length_cons, List.length_nil, List.map_cons, List.map_nil, List.cons_append, List.nil_append, List.append_nil, Nat.zero_add, Nat.reduceAdd, Nat.reduceLT, List.replicate_succ, List.replicate_zero, Int.reduceLT, Int.reduceNeg, and_self, true_and, and_true, e, if_true, hf]
  · have e : decide (1000000000000000000 ≤ c) = false := by simpa using hc
    obtain ⟨ρ', h1, j, ⟨hj, hj2⟩, row, s, x, y, hs, hb, rfl⟩ := for_nx (g := .nm 5) (body := Mi.execs c__law_digits l__law_digits_1)
      (fun ts ρ => ∃ j : Nat, (ts = ((List.range' j (sizes.length - j)).map fun (i : Nat) => T.sh (.int i)) ∧ j ≤ sizes.length) ∧ ∃ (row : List Int) (s : Int) (x y : Option T), sized row (sizes.take j) ∧ (0 ≤ s ∧ s < 2147483647) ∧
        ρ = [some (.sh (.int c)), some (.sh (.lst (iD sizes))), some (.lst ((iD row).map T.sh)), some (.sh (.int c)), some (.sh (.int s)), x, none, y])
      (fun t ts ρ ⟨j, ⟨e, hj⟩, row, s, x, y, hs, hb, hρ⟩ => by
        by_cases hlt : j < sizes.length
        · have e1 : List.range' j (sizes.length - j) = j :: List.range' (j + 1) (sizes.length - (j + 1)) := by
            have : sizes.length - j = (sizes.length - (j + 1)) + 1 := by omega
            rw [this, List.range'_succ]
          rw [e1, List.map_cons] at e
          cases e
          subst hρ
          have hsz := hp sizes[j] (List.getElem_mem hlt)
          have m1 : binR .mul (okI 974711) (okI (j : Int)) = okI (974711 * j) := b_mull _ _ (by omega)
          have b1 : 0 ≤ (s * 48271 + 974711 * (j : Int) + 12345) % 2147483647 ∧ (s * 48271 + 974711 * (j : Int) + 12345) % 2147483647 < 2147483647 := by omega
          generalize hs' : (s * 48271 + 974711 * (j : Int) + 12345) % 2147483647 = s' at b1
          have m2 : binR .mul (okI s') (okI (s' / 65537 + 3)) = okI (s' * (s' / 65537 + 3)) := b_mull _ _ (by omega)
          have hlen : (iD row).length < sizeLine := by
            rw [iD_length, hs.1, sizeLine_eq, List.length_take]
            omega
          have ht : sizes.take (j + 1) = sizes.take j ++ [sizes[j]] := by rw [List.take_succ_eq_append_getElem hlt]
          refine ⟨_, _, rfl, ?_, j + 1, ⟨rfl, hlt⟩, row ++ [s' * (s' / 65537 + 3) % 2147483629 / 19 % sizes[j]], s', some (.sh (.int j)), some (.sh (.int (s' * (s' / 65537 + 3) % 2147483629))), by rw [ht]; exact sized_snoc hs (Int.emod_nonneg _ (by omega)) (Int.emod_lt_of_pos _ hsz.1), b1, rfl⟩
          unfold l__law_digits_1
          rw [iD_app]
          simp only [ca_frozen_frozen, ca_turning_frozen, ca__law_due__law_good, ca__law_fine__law_asked, ca__law_fine__law_whole, ca_law__law_cell, ca_law__law_digits, ca_law__law_due, ca_law__law_filled, ca_law__law_fine, okD_i, okD_b, okD_s, okT_sh, dR_some, tR_some, varR_t, y_var, y_int, y_bl, y_str, y_non, y_bin, y_neg, y_cmp, y_and, y_or, y_not, y_ite, y_tup, y_lst, y_ix, y_sl, y_call, y_bi, y_isi, y_comp, y_nil, y_cons, t_and, t_or, t_not, t_var, t_cst, t_cmp, t_call, t_bi, t_isi, t_ix, b_add, b_sub, b_mul, b_mod, b_div, b_10_18, n_i, c_eq, c_ne, c_lt, c_le, c_gt, c_ge, v_and, v_or, v_not, r_ite, tt_b, tt_and, tt_or, tt_not, k_i, k_b, k_s, k_d, k_t, k_f, i_int, i_bl, i_str, i_tup, i_lst, i_rolst, i_rotup, bi_int, bi_min, bi_max, l_sl, l_st, l_rl, l_rt, l_ow, l_fr, l_sc, m_sl, m_st, m_rl, m_rt, m_ow, m_fr, u_sl, u_st, u_rl, u_ow, u_fr, s_sl', s_st', s_rl', s_rt', s_ow', x_sl, x_st, x_ow, x_fr, x_rl, x_rt, x_rli, x_rti, x_sc, p_none, p_some, z_sl, z_ow, z_fr, z_rl, z_st, a_ff, a_fl, a_lf, a_ll, lst_0, srcR_ok, w_sl, w_st, w_rl, w_rt, w_ow, w_fr, w_sc, w_r1, w_r1n, e_nil, e_cons, q_nx, q_ret, q_brk, q_cnt, q_exc, e_asg, e_own, e_app, e_setI, e_ret, e_retN, e_if, e_rse, g_nm, a_i, a_b, a_s, a_d, a_f, a_exc, o_f, p_i, p_d, rt_i, rt_b, rt_s, rt_d, rt_f, rt_o, rt_x, if_k, if_x, ro_i, ro_b, ro_s, ro_d, ro_f, ro_x, ou_i, ou_b, ou_s, ou_d, ou_f, ou_x, ar_sh, ar_ro, ar_sc, ar_ow, ar_fr, y_t0, y_t1, List.getElem?_cons_zero, List.getElem?_cons_succ, List.set_cons_zero, List.set_cons_succ, List.length_cons, List.length_nil, List.map_cons, List.map_nil, List.cons_append, List.nil_append, List.append_nil, Nat.zero_add, Nat.reduceAdd, Nat.reduceLT, List.replicate_succ, List.replicate_zero, Int.reduceLT, Int.reduceNeg, and_self, true_and, and_true, m1, m2, hs', hlen, atN sizes j hlt, hsz.1]
          rfl
        · have : sizes.length - j = 0 := by omega
          rw [this] at e
          cases e)
      ((List.range sizes.length).map fun (i : Nat) => T.sh (.int i)) [some (.sh (.int c)), some (.sh (.lst (iD sizes))), some (.lst []), some (.sh (.int c)), some (.sh (.int (c % 2147483629))), none, none, none]
      ⟨0, ⟨by rw [List.range_eq_range']; simp, Nat.zero_le _⟩, [], _, none, none, sized_nil, by omega, rfl⟩
    have hj3 : j = sizes.length := by
      have := congrArg List.length hj
      simp at this
      omega
    subst hj3
    rw [List.take_length] at hs
    have hf : Mi.exec c__law_digits (.forS (.nm 5) .rng1 [.bi .len [.var 1]] l__law_digits_1) [some (.sh (.int c)), some (.sh (.lst (iD sizes))), some (.lst []), some (.sh (.int c)), some (.sh (.int (c % 2147483629))), none, none, none] =
        .nx [some (.sh (.int c)), some (.sh (.lst (iD sizes))), some (.lst ((iD row).map T.sh)), some (.sh (.int c)), some (.sh (.int s)), x, none, y] := by
      rw [e_for (xs := [.sh (.int ((iD sizes).length : Nat))]) (ts := (List.range (iD sizes).length).map fun (i : Nat) => T.sh (.int i)) (by simp only [ca_frozen_frozen, ca_turning_frozen, ca__law_due__law_good, ca__law_fine__law_asked, ca__law_fine__law_whole, ca_law__law_cell, ca_law__law_digits, ca_law__law_due, ca_law__law_filled, ca_law__law_fine, okD_i, okD_b, okD_s, okT_sh, dR_some, tR_some, varR_t, y_var, y_int, y_bl, y_str, y_non, y_bin, y_neg, y_cmp, y_and, y_or, y_not, y_ite, y_tup, y_lst, y_ix, y_sl, y_call, y_bi, y_isi, y_comp, y_nil, y_cons, t_and, t_or, t_not, t_var, t_cst, t_cmp, t_call, t_bi, t_isi, t_ix, b_add, b_sub, b_mul, b_mod, b_div, b_10_18, n_i, c_eq, c_ne, c_lt, c_le, c_gt, c_ge, v_and, v_or, v_not, r_ite, tt_b, tt_and, tt_or, tt_not, k_i, k_b, k_s, k_d, k_t, k_f, i_int, i_bl, i_str, i_tup, i_lst, i_rolst, i_rotup, bi_int, bi_min, bi_max, l_sl, l_st, l_rl, l_rt, l_ow, l_fr, l_sc, m_sl, m_st, m_rl, m_rt, m_ow, m_fr, u_sl, u_st, u_rl, u_ow, u_fr, s_sl', s_st', s_rl', s_rt', s_ow', x_sl, x_st, x_ow, x_fr, x_rl, x_rt, x_rli, x_rti, x_sc, p_none, p_some, z_sl, z_ow, z_fr, z_rl, z_st, a_ff, a_fl, a_lf, a_ll, lst_0, srcR_ok, w_sl, w_st, w_rl, w_rt, w_ow, w_fr, w_sc, w_r1, w_r1n, e_nil, e_cons, q_nx, q_ret, q_brk, q_cnt, q_exc, e_asg, e_own, e_app, e_setI, e_ret, e_retN, e_if, e_rse, g_nm, a_i, a_b, a_s, a_d, a_f, a_exc, o_f, p_i, p_d, rt_i, rt_b, rt_s, rt_d, rt_f, rt_o, rt_x, if_k, if_x, ro_i, ro_b, ro_s, ro_d, ro_f, ro_x, ou_i, ou_b, ou_s, ou_d, ou_f, ou_x, ar_sh, ar_ro, ar_sc, ar_ow, ar_fr, y_t0, y_t1, List.getElem?_cons_zero, List.getElem?_cons_succ, List.set_cons_zero, List.set_cons_succ, List.length_cons, List.length_nil, List.map_cons, List.map_nil, List.cons_append, List.nil_append, List.append_nil, Nat.zero_add, Nat.reduceAdd, Nat.reduceLT, List.replicate_succ, List.replicate_zero, Int.reduceLT, Int.reduceNeg, and_self, true_and, and_true]) (w_r1 _ (by rw [iD_length]; omega)) (by simp [T.still]) rfl, iD_length]
      exact h1
    refine ⟨row, ?_, hs⟩
    simp only [ca_frozen_frozen, ca_turning_frozen, ca__law_due__law_good, ca__law_fine__law_asked, ca__law_fine__law_whole, ca_law__law_cell, ca_law__law_digits, ca_law__law_due, ca_law__law_filled, ca_law__law_fine, okD_i, okD_b, okD_s, okT_sh, dR_some, tR_some, varR_t, y_var, y_int, y_bl, y_str, y_non, y_bin, y_neg, y_cmp, y_and, y_or, y_not, y_ite, y_tup, y_lst, y_ix, y_sl, y_call, y_bi, y_isi, y_comp, y_nil, y_cons, t_and, t_or, t_not, t_var, t_cst, t_cmp, t_call, t_bi, t_isi, t_ix, b_add, b_sub, b_mul, b_mod, b_div, b_10_18, n_i, c_eq, c_ne, c_lt, c_le, c_gt, c_ge, v_and, v_or, v_not, r_ite, tt_b, tt_and, tt_or, tt_not, k_i, k_b, k_s, k_d, k_t, k_f, i_int, i_bl, i_str, i_tup, i_lst, i_rolst, i_rotup, bi_int, bi_min, bi_max, l_sl, l_st, l_rl, l_rt, l_ow, l_fr, l_sc, m_sl, m_st, m_rl, m_rt, m_ow, m_fr, u_sl, u_st, u_rl, u_ow, u_fr, s_sl', s_st', s_rl', s_rt', s_ow', x_sl, x_st, x_ow, x_fr, x_rl, x_rt, x_rli, x_rti, x_sc, p_none, p_some, z_sl, z_ow, z_fr, z_rl, z_st, a_ff, a_fl, a_lf, a_ll, lst_0, srcR_ok, w_sl, w_st, w_rl, w_rt, w_ow, w_fr, w_sc, w_r1, w_r1n, e_nil, e_cons, q_nx, q_ret, q_brk, q_cnt, q_exc, e_asg, e_own, e_app, e_setI, e_ret, e_retN, e_if, e_rse, g_nm, a_i, a_b, a_s, a_d, a_f, a_exc, o_f, p_i, p_d, rt_i, rt_b, rt_s, rt_d, rt_f, rt_o, rt_x, if_k, if_x, ro_i, ro_b, ro_s, ro_d, ro_f, ro_x, ou_i, ou_b, ou_s, ou_d, ou_f, ou_x, ar_sh, ar_ro, ar_sc, ar_ow, ar_fr, y_t0, y_t1, List.getElem?_cons_zero, List.getElem?_cons_succ, List.set_cons_zero, List.set_cons_succ, List.length_cons, List.length_nil, List.map_cons, List.map_nil, List.cons_append, List.nil_append, List.append_nil, Nat.zero_add, Nat.reduceAdd, Nat.reduceLT, List.replicate_succ, List.replicate_zero, Int.reduceLT, Int.reduceNeg, and_self, true_and, and_true, e, Bool.false_eq_true, if_false, hf]
end Mi.K75

set_option Elab.async false
set_option linter.all false
set_option maxRecDepth 100000
set_option maxHeartbeats 4000000
namespace Mi
open PySem PySem.Spec PyProof.Rows L2
theorem eqv_iD : ∀ a b : List Int, PyData.eqvAll (D.pys (iD a)) (D.pys (iD b)) = decide (a = b)
  | [], [] => by simp [iD, D.pys, PyData.eqvAll]
  | [], _ :: _ => by simp [iD, D.pys, PyData.eqvAll]
  | _ :: _, [] => by simp [iD, D.pys, PyData.eqvAll]
  | x :: a, y :: b => by
    rw [iD_cons, iD_cons]
    simp only [D.pys, D.py, PyData.eqvAll, PyData.eqv, eqv_iD a b]
    by_cases h : x = y <;> by_cases h2 : a = b <;> simp [h, h2]
theorem lay_iD : ∀ a : List Int, PyData.canLayAll0 (D.pys (iD a)) = true
  | [] => by simp [iD, D.pys, PyData.canLayAll0]
  | x :: a => by
    rw [iD_cons]
    simp [D.pys, D.py, PyData.canLayAll0, PyData.canLay0, lay_iD a]
theorem dep_iD : ∀ a : List Int, PyData.depthAll (D.pys (iD a)) ≤ 1
  | [] => by simp [iD, D.pys, PyData.depthAll]
  | x :: a => by
    have := dep_iD a
    rw [iD_cons]
    simp only [D.pys, D.py, PyData.depthAll, PyData.depth]
    omega
theorem fit_iL (a : List Int) : (D.lst (iD a)).fit = true := by
  unfold D.fit SeqAt.shaped
  simp only [D.py, PyData.canLay0, lay_iD, Bool.true_and, decide_eq_true_eq, PyData.depth]
  have := dep_iD a
  omega
theorem fit_iT (a : List Int) : (D.tup (iD a)).fit = true := by
  unfold D.fit SeqAt.shaped
  simp only [D.py, PyData.canLay0, lay_iD, Bool.true_and, decide_eq_true_eq, PyData.depth]
  have := dep_iD a
  omega
theorem eqR_ll (a b : List Int) : eqR (.lst (iD a)) (.lst (iD b)) = some (decide (a = b)) := by
  unfold eqR
  rw [fit_iL, fit_iL]
  simp only [Bool.and_self, if_true, D.py, PyData.eqv, eqv_iD]
theorem cl_eq (a b : List Int) : cmR .eq (okD (.lst (iD a))) (okD (.lst (iD b))) = okB (decide (a = b)) := by
  show (Res.of (eqR (.lst (iD a)) (.lst (iD b)))).bnd okB = _
  rw [eqR_ll]
  rfl
theorem cl_ne (a b : List Int) : cmR .ne (okD (.lst (iD a))) (okD (.lst (iD b))) = okB (!decide (a = b)) := by
  show (Res.of ((eqR (.lst (iD a)) (.lst (iD b))).map fun b => !b)).bnd okB = _
  rw [eqR_ll]
  rfl
theorem cl_eqf (a b : List Int) : cmR .eq (frL (iD a)) (okD (.lst (iD b))) = okB (decide (a = b)) := by
  have : cmR .eq (frL (iD a)) (okD (.lst (iD b))) = (Res.of (eqR (.lst (T.ds ((iD a).map T.sh))) (.lst (iD b)))).bnd okB := rfl
  rw [this, T.ds_sh, eqR_ll]
  rfl
/-- a comprehension over what passes a test -/
theorem compGo_fil {α : Type} {f : T → Res (Option Vl)} {h : α → T} {p : α → Bool} {v : α → D} : ∀ {l : List α}, (∀ a ∈ l, f (h a) = .ok (if p a then some (.sh (v a)) else none)) → compGo f (l.map h) = .ok ((l.filter p).map v)
  | [], _ => by simp only [List.map_nil, compGo, List.filter_nil]
  | a :: l, hf => by
    have ih := compGo_fil (l := l) fun b hb => hf b (List.mem_cons_of_mem _ hb)
    have ha := hf a List.mem_cons_self
    simp only [List.map_cons, compGo, ha]
    cases hp : p a with
    | true =>
      simp only [if_true, ih, Res.bnd_ok, List.filter_cons, hp, List.map_cons]
      rfl
    | false =>
      simp only [Bool.false_eq_true, if_false, ih, List.filter_cons, hp]
theorem comp_ok {f : T → Res (Option Vl)} {ts : List T} {ks : List D} (h : compGo f ts = .ok ks) (hl : ts.length ≤ 1000000) : compR f (.ok ts) = frL ks := by
  unfold compR
  simp only [Res.bnd_ok, h]
  exact Res.iff_pos hl
end Mi
namespace Mi.K75
open PySem PySem.Spec PyProof.Rows L2 Mi
/-! ### good turnings -/
def goodAt (row : List Int) (k : Nat) : Bool := decide ((k : Int) + 1 ≤ (row.take (k + 1)).sum)
def goodB (row : List Int) : Bool := (List.range' 0 (row.length - 1)).all (goodAt row)
theorem good_loop (row : List Int) (hl : row.length ≤ 1000) : ∀ (m j : Nat) (x : Option T), j + m = row.length - 1 →
    (((List.range' j m).all (goodAt row) = true → ∃ ρ', forGo (.nm 2) (Mi.execs c__law_good l__law_good_0) ((List.range' j m).map fun (i : Nat) => T.sh (.int i)) [some (.sh (.lst (iD row))), some (.sh (.int (row.take j).sum)), x] = .nx ρ') ∧
    ((List.range' j m).all (goodAt row) = false → forGo (.nm 2) (Mi.execs c__law_good l__law_good_0) ((List.range' j m).map fun (i : Nat) => T.sh (.int i)) [some (.sh (.lst (iD row))), some (.sh (.int (row.take j).sum)), x] = .ret (.sh (.bl false))))
  | 0, j, x, _ => by
    refine ⟨fun _ => ⟨_, rfl⟩, fun h => ?_⟩
    simp at h
  | m + 1, j, x, h => by
    have hj : j < row.length := by omega
    have hs : (row.take (j + 1)).sum = (row.take j).sum + row[j] := by
      rw [List.take_succ_eq_append_getElem hj, List.sum_append]
      simp
    have ih := good_loop row hl m (j + 1) (some (.sh (.int j))) (by omega)
    have hb : Mi.execs c__law_good l__law_good_0 [some (.sh (.lst (iD row))), some (.sh (.int (row.take j).sum)), some (.sh (.int j))] =
        if goodAt row j then .nx [some (.sh (.lst (iD row))), some (.sh (.int (row.take (j + 1)).sum)), some (.sh (.int j))] else .ret (.sh (.bl false)) := by
      unfold l__law_good_0 goodAt
      simp only [ca_frozen_frozen, ca_turning_frozen, ca__law_due__law_good, ca__law_fine__law_asked, ca__law_fine__law_whole, ca_law__law_cell, ca_law__law_digits, ca_law__law_due, ca_law__law_filled, ca_law__law_fine, okD_i, okD_b, okD_s, okT_sh, dR_some, tR_some, varR_t, y_var, y_int, y_bl, y_str, y_non, y_bin, y_neg, y_cmp, y_and, y_or, y_not, y_ite, y_tup, y_lst, y_ix, y_sl, y_call, y_bi, y_isi, y_comp, y_nil, y_cons, t_and, t_or, t_not, t_var, t_cst, t_cmp, t_call, t_bi, t_isi, t_ix, b_add, b_sub, b_mul, b_mod, b_div, b_10_18, n_i, c_eq, c_ne, c_lt, c_le, c_gt, c_ge, v_and, v_or, v_not, r_ite, tt_b, tt_and, tt_or, tt_not, k_i, k_b, k_s, k_d, k_t, k_f, i_int, i_bl, i_str, i_tup, i_lst, i_rolst, i_rotup, bi_int, bi_min, bi_max, l_sl, l_st, l_rl, l_rt, l_ow, l_fr, l_sc, m_sl, m_st, m_rl, m_rt, m_ow, m_fr, u_sl, u_st, u_rl, u_ow, u_fr, s_sl', s_st', s_rl', s_rt', s_ow', x_sl, x_st, x_ow, x_fr, x_rl, x_rt, x_rli, x_rti, x_sc, p_none, p_some, z_sl, z_ow, z_fr, z_rl, z_st, a_ff, a_fl, a_lf, a_ll, lst_0, srcR_ok, w_sl, w_st, w_rl, w_rt, w_ow, w_fr, w_sc, w_r1, w_r1n, e_nil, e_cons, q_nx, q_ret, q_brk, q_cnt, q_exc, e_asg, e_own, e_app, e_setI, e_ret, e_retN, e_if, e_rse, g_nm, a_i, a_b, a_s, a_d, a_f, a_exc, o_f, p_i, p_d, rt_i, rt_b, rt_s, rt_d, rt_f, rt_o, rt_x, if_k, if_x, ro_i, ro_b, ro_s, ro_d, ro_f, ro_x, ou_i, ou_b, ou_s, ou_d, ou_f, ou_x, ar_sh, ar_ro, ar_sc, ar_ow, ar_fr, y_t0, y_t1, List.getElem?_cons_zero, List.getElem?_cons_succ, List.set_cons_zero, List.set_cons_succ, List.length_cons, List.length_nil, List.map_cons, List.map_nil, List.cons_append, List.nil_append, List.append_nil, Nat.zero_add, Nat.reduceAdd, Nat.reduceLT, List.replicate_succ, List.replicate_zero, Int.reduceLT, Int.reduceNeg, and_self, true_and, and_true, atN row j hj, hs]
      by_cases hg : (row.take j).sum + row[j] < (j : Int) + 1
      · have h2 : ¬ ((j : Int) + 1 ≤ (row.take j).sum + row[j]) := by omega
        simp only [hg, h2, decide_true, decide_false, if_true, Bool.false_eq_true, if_false, ca_frozen_frozen, ca_turning_frozen, ca__law_due__law_good, ca__law_fine__law_asked, ca__law_fine__law_whole, ca_law__law_cell, ca_law__law_digits, ca_law__law_due, ca_law__law_filled, ca_law__law_fine, okD_i, okD_b, okD_s, okT_sh, dR_some, tR_some, varR_t, y_var, y_int, y_bl, y_str, y_non, y_bin, y_neg, y_cmp, y_and, y_or, y_not, y_ite, y_tup, y_lst, y_ix, y_sl, y_call, y_bi, y_isi, y_comp, y_nil, y_cons, t_and, t_or, t_not, t_var, t_cst, t_cmp, t_call, t_bi, t_isi, t_ix, b_add, b_sub, b_mul, b_mod, b_div, b_10_18, n_i, c_eq, c_ne, c_lt, c_le, c_gt, c_ge, v_and, v_or, v_not, r_ite, tt_b, tt_and, tt_or, tt_not, k_i, k_b, k_s, k_d, k_t, k_f, i_int, i_bl, i_str, i_tup, i_lst, i_rolst, i_rotup, bi_int, bi_min, bi_max, l_sl, l_st, l_rl, l_rt, l_ow, l_fr, l_sc, m_sl, m_st, m_rl, m_rt, m_ow, m_fr, u_sl, u_st, u_rl, u_ow, u_fr, s_sl', s_st', s_rl', s_rt', s_ow', x_sl, x_st, x_ow, x_fr, x_rl, x_rt, x_rli, x_rti, x_sc, p_none, p_some, z_sl, z_ow, z_fr, z_rl, z_st, a_ff, a_fl, a_lf, a_ll, lst_0, srcR_ok, w_sl, w_st, w_rl, w_rt, w_ow, w_fr, w_sc, w_r1, w_r1n, e_nil, e_cons, q_nx, q_ret, q_brk, q_cnt, q_exc, e_asg, e_own, e_app, e_setI, e_ret, e_retN, e_if, e_rse, g_nm, a_i, a_b, a_s, a_d, a_f, a_exc, o_f, p_i, p_d, rt_i, rt_b, rt_s, rt_d, rt_f, rt_o, rt_x, if_k, if_x, ro_i, ro_b, ro_s, ro_d, ro_f, ro_x, ou_i, ou_b, ou_s, ou_d, ou_f, ou_x, ar_sh, ar_ro, ar_sc, ar_ow, ar_fr, y_t0, y_t1, List.getElem?_cons_zero, List.getElem?_cons_succ, List.set_cons_zero, List.set_cons_succ, List.length_cons, List.length_nil, List.map_cons, List.map_nil, List.cons_append, List.nil_append, List.append_nil, Nat.zero_add, Nat.reduceAdd, Nat.reduceLT, List.replicate_succ, List.replicate_zero, Int.reduceLT, Int.reduceNeg, and_self, true_and, and_true]
      · have h2 : (j : Int) + 1 ≤ (row.take j).sum + row[j] := by omega
        simp only [hg, h2, decide_true, decide_false, if_true, Bool.false_eq_true, if_false, ca_frozen_frozen, ca_turning_frozen, ca__law_due__law_good, ca__law_fine__law_asked, ca__law_fine__law_whole, ca_law__law_cell, ca_law__law_digits, ca_law__law_due, ca_law__law_filled, ca_law__law_fine, okD_i, okD_b, okD_s, okT_sh, dR_some, tR_some, varR_t, y_var, y_int, y_bl, y_str, y_non, y_bin, y_neg, y_cmp, y_and, y_or, y_not, y_ite, y_tup, y_lst, y_ix, y_sl, y_call, y_bi, y_isi, y_comp, y_nil, y_cons, t_and, t_or, t_not, t_var, t_cst, t_cmp, t_call, t_bi, t_isi, t_ix, b_add, b_sub, b_mul, b_mod, b_div, b_10_18, n_i, c_eq, c_ne, c_lt, c_le, c_gt, c_ge, v_and, v_or, v_not, r_ite, tt_b, tt_and, tt_or, tt_not, k_i, k_b, k_s, k_d, k_t, k_f, i_int, i_bl, i_str, i_tup, i_lst, i_rolst, i_rotup, bi_int, bi_min, bi_max, l_sl, l_st, l_rl, l_rt, l_ow, l_fr, l_sc, m_sl, m_st, m_rl, m_rt, m_ow, m_fr, u_sl, u_st, u_rl, u_ow, u_fr, s_sl', s_st', s_rl', s_rt', s_ow', x_sl, x_st, x_ow, x_fr, x_rl, x_rt, x_rli, x_rti, x_sc, p_none, p_some, z_sl, z_ow, z_fr, z_rl, z_st, a_ff, a_fl, a_lf, a_ll, lst_0, srcR_ok, w_sl, w_st, w_rl, w_rt, w_ow, w_fr, w_sc, w_r1, w_r1n, e_nil, e_cons, q_nx, q_ret, q_brk, q_cnt, q_exc, e_asg, e_own, e_app, e_setI, e_ret, e_retN, e_if, e_rse, g_nm, a_i, a_b, a_s, a_d, a_f, a_exc, o_f, p_i, p_d, rt_i, rt_b, rt_s, rt_d, rt_f, rt_o, rt_x, if_k, if_x, ro_i, ro_b, ro_s, ro_d, ro_f, ro_x, ou_i, ou_b, ou_s, ou_d, ou_f, ou_x, ar_sh, ar_ro, ar_sc, ar_ow, ar_fr, y_t0, y_t1, List.getElem?_cons_zero, List.getElem?_cons_succ, List.set_cons_zero, List.set_cons_succ, List.length_cons, List.length_nil, List.map_cons, List.map_nil, List.cons_append, List.nil_append, List.append_nil, Nat.zero_add, Nat.reduceAdd, Nat.reduceLT, List.replicate_succ, List.replicate_zero, Int.reduceLT, Int.reduceNeg, and_self, true_and, and_true]
    rw [List.range'_succ]
    simp only [List.map_cons, List.all_cons, forGo, tgV, List.length_cons, List.length_nil, Nat.zero_add, Nat.reduceAdd, Nat.reduceLT, if_true, List.set_cons_succ, List.set_cons_zero, hb]
    cases hg : goodAt row j with
    | true =>
      simp only [if_true, Bool.true_and]
      exact ih
    | false =>
      simp only [Bool.false_eq_true, if_false, Bool.false_and]
      exact ⟨fun z => (by cases z), fun _ => trivial⟩
theorem good_ok (row : List Int) (hl : row.length ≤ 1000) : r__law_good [.sh (.lst (iD row))] = okB (goodB row) := by
  unfold r__law_good
  rw [rd_eq rfl]
  show resO (Mi.execs _ b__law_good [some (T.sh (.lst (iD row))), none, none]) = _
  unfold b__law_good
  have hsrc : ∃ ts, srcV .rng1 [.sh (.int ((iD row).length - 1))] = .ok ts ∧ ts = (List.range' 0 (row.length - 1)).map fun (i : Nat) => T.sh (.int i) := by
    by_cases h0 : row.length = 0
    · refine ⟨_, w_r1n _ (by rw [iD_length, h0]; omega) (by rw [iD_length, h0]; omega), ?_⟩
      rw [h0]
      rfl
    · have e : (((iD row).length : Int) - 1) = ((row.length - 1 : Nat) : Int) := by
        rw [iD_length]
        omega
      rw [e]
      exact ⟨_, w_r1 _ (by omega), by rw [List.range_eq_range']⟩
  obtain ⟨ts, h1, h2⟩ := hsrc
  have hst : ts.all T.still = true := by
    rw [h2]
    simp [T.still]
  have hf : Mi.exec c__law_good (.forS (.nm 2) .rng1 [.bin .sub (.bi .len [.var 0]) (.cst (.int 1))] l__law_good_0) [some (.sh (.lst (iD row))), some (.sh (.int 0)), none] =
      forGo (.nm 2) (Mi.execs c__law_good l__law_good_0) ts [some (.sh (.lst (iD row))), some (.sh (.int 0)), none] :=
    e_for (xs := [.sh (.int ((iD row).length - 1))]) (by simp only [ca_frozen_frozen, ca_turning_frozen, ca__law_due__law_good, ca__law_fine__law_asked, ca__law_fine__law_whole, ca_law__law_cell, ca_law__law_digits, ca_law__law_due, ca_law__law_filled, ca_law__law_fine, okD_i, okD_b, okD_s, okT_sh, dR_some, tR_some, varR_t, y_var, y_int, y_bl, y_str, y_non, y_bin, y_neg, y_cmp, y_and, y_or, y_not, y_ite, y_tup, y_lst, y_ix, y_sl, y_call, y_bi, y_isi, y_comp, y_nil, y_cons, t_and, t_or, t_not, t_var, t_cst, t_cmp, t_call, t_bi, t_isi, t_ix, b_add, b_sub, b_mul, b_mod, b_div, b_10_18, n_i, c_eq, c_ne, c_lt, c_le, c_gt, c_ge, v_and, v_or, v_not, r_ite, tt_b, tt_and, tt_or, tt_not, k_i, k_b, k_s, k_d, k_t, k_f, i_int, i_bl, i_str, i_tup, i_lst, i_rolst, i_rotup, bi_int, bi_min, bi_max, l_sl, l_st, l_rl, l_rt, l_ow, l_fr, l_sc, m_sl, m_st, m_rl, m_rt, m_ow, m_fr, u_sl, u_st, u_rl, u_ow, u_fr, s_sl', s_st', s_rl', s_rt', s_ow', x_sl, x_st, x_ow, x_fr, x_rl, x_rt, x_rli, x_rti, x_sc, p_none, p_some, z_sl, z_ow, z_fr, z_rl, z_st, a_ff, a_fl, a_lf, a_ll, lst_0, srcR_ok, w_sl, w_st, w_rl, w_rt, w_ow, w_fr, w_sc, w_r1, w_r1n, e_nil, e_cons, q_nx, q_ret, q_brk, q_cnt, q_exc, e_asg, e_own, e_app, e_setI, e_ret, e_retN, e_if, e_rse, g_nm, a_i, a_b, a_s, a_d, a_f, a_exc, o_f, p_i, p_d, rt_i, rt_b, rt_s, rt_d, rt_f, rt_o, rt_x, if_k, if_x, ro_i, ro_b, ro_s, ro_d, ro_f, ro_x, ou_i, ou_b, ou_s, ou_d, ou_f, ou_x, ar_sh, ar_ro, ar_sc, ar_ow, ar_fr, y_t0, y_t1, List.getElem?_cons_zero, List.getElem?_cons_succ, List.set_cons_zero, List.set_cons_succ, List.length_cons, List.length_nil, List.map_cons, List.map_nil, List.cons_append, List.nil_append, List.append_nil, Nat.zero_add, Nat.reduceAdd, Nat.reduceLT, List.replicate_succ, List.replicate_zero, Int.reduceLT, Int.reduceNeg, and_self, true_and, and_true]) h1 hst rfl
  have hl2 := good_loop row hl (row.length - 1) 0 none (by omega)
  rw [← h2] at hl2
  simp only [List.take_zero, List.sum_nil] at hl2
  cases hg : goodB row with
  | true =>
    obtain ⟨ρ', hr⟩ := hl2.1 hg
    rw [hr] at hf
    simp only [ca_frozen_frozen, ca_turning_frozen, ca__law_due__law_good, ca__law_fine__law_asked, ca__law_fine__law_whole, ca_law__law_cell, ca_law__law_digits, ca_law__law_due, ca_law__law_filled, ca_law__law_fine, okD_i, okD_b, okD_s, okT_sh, dR_some, tR_some, varR_t, y_var, y_int, y_bl, y_str, y_non, y_bin, y_neg, y_cmp, y_and, y_or, y_not, y_ite, y_tup, y_lst, y_ix, y_sl, y_call, y_bi, y_isi, y_comp, y_nil, y_cons, t_and, t_or, t_not, t_var, t_cst, t_cmp, t_call, t_bi, t_isi, t_ix, b_add, b_sub, b_mul, b_mod, b_div, b_10_18, n_i, c_eq, c_ne, c_lt, c_le, c_gt, c_ge, v_and, v_or, v_not, r_ite, tt_b, tt_and, tt_or, tt_not, k_i, k_b, k_s, k_d, k_t, k_f, i_int, i_bl, i_str, i_tup, i_lst, i_rolst, i_rotup, bi_int, bi_min, bi_max, l_sl, l_st, l_rl, l_rt, l_ow, l_fr, l_sc, m_sl, m_st, m_rl, m_rt, m_ow, m_fr, u_sl, u_st, u_rl, u_ow, u_fr, s_sl', s_st', s_rl', s_rt', s_ow', x_sl, x_st, x_ow, x_fr, x_rl, x_rt, x_rli, x_rti, x_sc, p_none, p_some, z_sl, z_ow, z_fr, z_rl, z_st, a_ff, a_fl, a_lf, a_ll, lst_0, srcR_ok, w_sl, w_st, w_rl, w_rt, w_ow, w_fr, w_sc, w_r1, w_r1n, e_nil, e_cons, q_nx, q_ret, q_brk, q_cnt, q_exc, e_asg, e_own, e_app, e_setI, e_ret, e_retN, e_if, e_rse, g_nm, a_i, a_b, a_s, a_d, a_f, a_exc, o_f, p_i, p_d, rt_i, rt_b, rt_s, rt_d, rt_f, rt_o, rt_x, if_k, if_x, ro_i, ro_b, ro_s, ro_d, ro_f, ro_x, ou_i, ou_b, ou_s, ou_d, ou_f, ou_x, ar_sh, ar_ro, ar_sc, ar_ow, ar_fr, y_t0, y_t1, List.getElem?_cons_zero, List.getElem?_cons_succ, List.set_cons_zero, List.set_cons_succ, List.length_cons, List.length_nil, List.map_cons, List.map_nil, List.cons_append, List.nil_append, List.append_nil, Nat.zero_add, Nat.reduceAdd, Nat.reduceLT, List.replicate_succ, List.replicate_zero, Int.reduceLT, Int.reduceNeg, and_self, true_and, and_true, hf]
  | false =>
    have hr := hl2.2 hg
    rw [hr] at hf
    simp only [ca_frozen_frozen, ca_turning_frozen, ca__law_due__law_good, ca__law_fine__law_asked, ca__law_fine__law_whole, ca_law__law_cell, ca_law__law_digits, ca_law__law_due, ca_law__law_filled, ca_law__law_fine, okD_i, okD_b, okD_s, okT_sh, dR_some, tR_some, varR_t, y_var, y_int, y_bl, y_str, y_non, y_bin, y_neg, y_cmp, y_and, y_or, y_not, y_ite, y_tup, y_lst, y_ix, y_sl, y_call, y_bi, y_isi, y_comp, y_nil, y_cons, t_and, t_or, t_not, t_var, t_cst, t_cmp, t_call, t_bi, t_isi, t_ix, b_add, b_sub, b_mul, b_mod, b_div, b_10_18, n_i, c_eq, c_ne, c_lt, c_le, c_gt, c_ge, v_and, v_or, v_not, r_ite, tt_b, tt_and, tt_or, tt_not, k_i, k_b, k_s, k_d, k_t, k_f, i_int, i_bl, i_str, i_tup, i_lst, i_rolst, i_rotup, bi_int, bi_min, bi_max, l_sl, l_st, l_rl, l_rt, l_ow, l_fr, l_sc, m_sl, m_st, m_rl, m_rt, m_ow, m_fr, u_sl, u_st, u_rl, u_ow, u_fr, s_sl', s_st', s_rl', s_rt', s_ow', x_sl, x_st, x_ow, x_fr, x_rl, x_rt, x_rli, x_rti, x_sc, p_none, p_some, z_sl, z_ow, z_fr, z_rl, z_st, a_ff, a_fl, a_lf, a_ll, lst_0, srcR_ok, w_sl, w_st, w_rl, w_rt, w_ow, w_fr, w_sc, w_r1, w_r1n, e_nil, e_cons, q_nx, q_ret, q_brk, q_cnt, q_exc, e_asg, e_own, e_app, e_setI, e_ret, e_retN, e_if, e_rse, g_nm, a_i, a_b, a_s, a_d, a_f, a_exc, o_f, p_i, p_d, rt_i, rt_b, rt_s, rt_d, rt_f, rt_o, rt_x, if_k, if_x, ro_i, ro_b, ro_s, ro_d, ro_f, ro_x, ou_i, ou_b, ou_s, ou_d, ou_f, ou_x, ar_sh, ar_ro, ar_sc, ar_ow, ar_fr, y_t0, y_t1, List.getElem?_cons_zero, List.getElem?_cons_succ, List.set_cons_zero, List.set_cons_succ, List.length_cons, List.length_nil, List.map_cons, List.map_nil, List.cons_append, List.nil_append, List.append_nil, Nat.zero_add, Nat.reduceAdd, Nat.reduceLT, List.replicate_succ, List.replicate_zero, Int.reduceLT, Int.reduceNeg, and_self, true_and, and_true, hf]
/-! ### what is due -/
def rot (k : Nat) (row : List Int) : List Int := row.drop k ++ row.take k
theorem rot_length (k : Nat) (row : List Int) : (rot k row).length = row.length := by
  unfold rot
  rw [List.length_append, List.length_drop, List.length_take]
  omega
def wrong (row : List Int) : Bool := decide (row.length = 0) || !decide (row.sum = (row.length : Int) - 1)
def dueL (row : List Int) : List Int := if wrong row then [] else ((List.range row.length).filter fun k => goodB (rot k row)).map fun (k : Nat) => (k : Int)
theorem cut_hi (row : List Int) (k : Nat) (hk : k ≤ row.length) : cutL row none (some (k : Int)) = row.take k := by
  unfold cutL
  rw [HT.sIx_none, HT.sIx_nat, Nat.min_eq_left hk]
  simp
theorem cut_lo (row : List Int) (k : Nat) (hk : k ≤ row.length) : cutL row (some (k : Int)) none = row.drop k := by
  unfold cutL
  rw [HT.sIx_none, HT.sIx_nat, Nat.min_eq_left hk]
  apply List.take_of_length_le
  rw [List.length_drop]
  omega
theorem due_ok (row : List Int) (hl : row.length ≤ 1000) : r__law_due [.sh (.lst (iD row))] = frL (iD (dueL row)) := by
  unfold r__law_due
  rw [rd_eq rfl]
  show resO (Mi.execs _ b__law_due [some (T.sh (.lst (iD row))), none]) = _
  unfold b__law_due dueL
  have e1 : decide (((iD row).length : Int) = 0) = decide (row.length = 0) := by
    rw [iD_length]
    by_cases h : row.length = 0
    · simp [h]
    · have : ¬ ((row.length : Int) = 0) := by omega
      simp [h, this]
  have e2 : (!decide (row.sum = ((iD row).length : Int) - 1)) = !decide (row.sum = (row.length : Int) - 1) := by rw [iD_length]
  by_cases hw : wrong row = true
  · have hw' := hw
    unfold wrong at hw'
    rw [if_pos hw]
    by_cases h0 : row.length = 0
    · simp only [ca_frozen_frozen, ca_turning_frozen, ca__law_due__law_good, ca__law_fine__law_asked, ca__law_fine__law_whole, ca_law__law_cell, ca_law__law_digits, ca_law__law_due, ca_law__law_filled, ca_law__law_fine, okD_i, okD_b, okD_s, okT_sh, dR_some, tR_some, varR_t, y_var, y_int, y_bl, y_str, y_non, y_bin, y_neg, y_cmp, y_and, y_or, y_not, y_ite, y_tup, y_lst, y_ix, y_sl, y_call, y_bi, y_isi, y_comp, y_nil, y_cons, t_and, t_or, t_not, t_var, t_cst, t_cmp, t_call, t_bi, t_isi, t_ix, b_add, b_sub, b_mul, b_mod, b_div, b_10_18, n_i, c_eq, c_ne, c_lt, c_le, c_gt, c_ge, v_and, v_or, v_not, r_ite, tt_b, tt_and, tt_or, tt_not, k_i, k_b, k_s, k_d, k_t, k_f, i_int, i_bl, i_str, i_tup, i_lst, i_rolst, i_rotup, bi_int, bi_min, bi_max, l_sl, l_st, l_rl, l_rt, l_ow, l_fr, l_sc, m_sl, m_st, m_rl, m_rt, m_ow, m_fr, u_sl, u_st, u_rl, u_ow, u_fr, s_sl', s_st', s_rl', s_rt', s_ow', x_sl, x_st, x_ow, x_fr, x_rl, x_rt, x_rli, x_rti, x_sc, p_none, p_some, z_sl, z_ow, z_fr, z_rl, z_st, a_ff, a_fl, a_lf, a_ll, lst_0, srcR_ok, w_sl, w_st, w_rl, w_rt, w_ow, w_fr, w_sc, w_r1, w_r1n, e_nil, e_cons, q_nx, q_ret, q_brk, q_cnt, q_exc, e_asg, e_own, e_app, e_setI, e_ret, e_retN, e_if, e_rse, g_nm, a_i, a_b, a_s, a_d, a_f, a_exc, o_f, p_i, p_d, rt_i, rt_b, rt_s, rt_d, rt_f, rt_o, rt_x, if_k, if_x, ro_i, ro_b, ro_s, ro_d, ro_f, ro_x, ou_i, ou_b, ou_s, ou_d, ou_f, ou_x, ar_sh, ar_ro, ar_sc, ar_ow, ar_fr, y_t0, y_t1, List.getElem?_cons_zero, List.getElem?_cons_succ, List.set_cons_zero, List.set_cons_succ, List.length_cons, List.length_nil, List.map_cons, List.map_nil, List.cons_append, List.nil_append, List.append_nil, Nat.zero_add, Nat.reduceAdd, Nat.reduceLT, List.replicate_succ, List.replicate_zero, Int.reduceLT, Int.reduceNeg, and_self, true_and, and_true, e1, e2, h0, decide_true, if_true]
      rfl
    · simp only [h0, decide_false, Bool.false_or] at hw'
      simp only [ca_frozen_frozen, ca_turning_frozen, ca__law_due__law_good, ca__law_fine__law_asked, ca__law_fine__law_whole, ca_law__law_cell, ca_law__law_digits, ca_law__law_due, ca_law__law_filled, ca_law__law_fine, okD_i, okD_b, okD_s, okT_sh, dR_some, tR_some, varR_t, y_var, y_int, y_bl, y_str, y_non, y_bin, y_neg, y_cmp, y_and, y_or, y_not, y_ite, y_tup, y_lst, y_ix, y_sl, y_call, y_bi, y_isi, y_comp, y_nil, y_cons, t_and, t_or, t_not, t_var, t_cst, t_cmp, t_call, t_bi, t_isi, t_ix, b_add, b_sub, b_mul, b_mod, b_div, b_10_18, n_i, c_eq, c_ne, c_lt, c_le, c_gt, c_ge, v_and, v_or, v_not, r_ite, tt_b, tt_and, tt_or, tt_not, k_i, k_b, k_s, k_d, k_t, k_f, i_int, i_bl, i_str, i_tup, i_lst, i_rolst, i_rotup, bi_int, bi_min, bi_max, l_sl, l_st, l_rl, l_rt, l_ow, l_fr, l_sc, m_sl, m_st, m_rl, m_rt, m_ow, m_fr, u_sl, u_st, u_rl, u_ow, u_fr, s_sl', s_st', s_rl', s_rt', s_ow', x_sl, x_st, x_ow, x_fr, x_rl, x_rt, x_rli, x_rti, x_sc, p_none, p_some, z_sl, z_ow, z_fr, z_rl, z_st, a_ff, a_fl, a_lf, a_ll, lst_0, srcR_ok, w_sl, w_st, w_rl, w_rt, w_ow, w_fr, w_sc, w_r1, w_r1n, e_nil, e_cons, q_nx, q_ret, q_brk, q_cnt, q_exc, e_asg, e_own, e_app, e_setI, e_ret, e_retN, e_if, e_rse, g_nm, a_i, a_b, a_s, a_d, a_f, a_exc, o_f, p_i, p_d, rt_i, rt_b, rt_s, rt_d, rt_f, rt_o, rt_x, if_k, if_x, ro_i, ro_b, ro_s, ro_d, ro_f, ro_x, ou_i, ou_b, ou_s, ou_d, ou_f, ou_x, ar_sh, ar_ro, ar_sc, ar_ow, ar_fr, y_t0, y_t1, List.getElem?_cons_zero, List.getElem?_cons_succ, List.set_cons_zero, List.set_cons_succ, List.length_cons, List.length_nil, List.map_cons, List.map_nil, List.cons_append, List.nil_append, List.append_nil, Nat.zero_add, Nat.reduceAdd, Nat.reduceLT, List.replicate_succ, List.replicate_zero, Int.reduceLT, Int.reduceNeg, and_self, true_and, and_true, e1, e2, h0, decide_false, hw', if_true, Bool.false_eq_true, if_false]
      rfl
  · have hw' := hw
    unfold wrong at hw'
    simp only [Bool.or_eq_true, not_or, Bool.not_eq_true] at hw'
    rw [if_neg hw]
    have hc : ∀ ρ, compGo (cturn c__law_due (.nm 1) [.call "_law_good" [.bin .add (.sl (.var 0) [.var 1] []) (.sl (.var 0) [] [.var 1])]] (.var 1) [some (.sh (.lst (iD row))), ρ]) ((List.range row.length).map fun (i : Nat) => T.sh (.int i)) =
        .ok (iD (((List.range row.length).filter fun k => goodB (rot k row)).map fun (k : Nat) => (k : Int))) := fun ρ => by
      have := compGo_fil (f := cturn c__law_due (.nm 1) [.call "_law_good" [.bin .add (.sl (.var 0) [.var 1] []) (.sl (.var 0) [] [.var 1])]] (.var 1) [some (.sh (.lst (iD row))), ρ]) (h := fun (i : Nat) => T.sh (.int i)) (p := fun k => goodB (rot k row)) (v := fun (k : Nat) => D.int k) (l := List.range row.length) fun k hk => ?_
      · rw [this]
        unfold iD
        rw [List.map_map]
        rfl
      · have hk : k ≤ row.length := Nat.le_of_lt (List.mem_range.mp hk)
        have hlen : (iD (row.drop k)).length + (iD (row.take k)).length ≤ sizeLine := by
          rw [iD_length, iD_length, List.length_drop, List.length_take, sizeLine_eq]
          omega
        refine cturn_b (ρ1 := [some (.sh (.lst (iD row))), some (.sh (.int k))]) rfl ?_ (x := .sh (.int k)) (by simp only [ca_frozen_frozen, ca_turning_frozen, ca__law_due__law_good, ca__law_fine__law_asked, ca__law_fine__law_whole, ca_law__law_cell, ca_law__law_digits, ca_law__law_due, ca_law__law_filled, ca_law__law_fine, okD_i, okD_b, okD_s, okT_sh, dR_some, tR_some, varR_t, y_var, y_int, y_bl, y_str, y_non, y_bin, y_neg, y_cmp, y_and, y_or, y_not, y_ite, y_tup, y_lst, y_ix, y_sl, y_call, y_bi, y_isi, y_comp, y_nil, y_cons, t_and, t_or, t_not, t_var, t_cst, t_cmp, t_call, t_bi, t_isi, t_ix, b_add, b_sub, b_mul, b_mod, b_div, b_10_18, n_i, c_eq, c_ne, c_lt, c_le, c_gt, c_ge, v_and, v_or, v_not, r_ite, tt_b, tt_and, tt_or, tt_not, k_i, k_b, k_s, k_d, k_t, k_f, i_int, i_bl, i_str, i_tup, i_lst, i_rolst, i_rotup, bi_int, bi_min, bi_max, l_sl, l_st, l_rl, l_rt, l_ow, l_fr, l_sc, m_sl, m_st, m_rl, m_rt, m_ow, m_fr, u_sl, u_st, u_rl, u_ow, u_fr, s_sl', s_st', s_rl', s_rt', s_ow', x_sl, x_st, x_ow, x_fr, x_rl, x_rt, x_rli, x_rti, x_sc, p_none, p_some, z_sl, z_ow, z_fr, z_rl, z_st, a_ff, a_fl, a_lf, a_ll, lst_0, srcR_ok, w_sl, w_st, w_rl, w_rt, w_ow, w_fr, w_sc, w_r1, w_r1n, e_nil, e_cons, q_nx, q_ret, q_brk, q_cnt, q_exc, e_asg, e_own, e_app, e_setI, e_ret, e_retN, e_if, e_rse, g_nm, a_i, a_b, a_s, a_d, a_f, a_exc, o_f, p_i, p_d, rt_i, rt_b, rt_s, rt_d, rt_f, rt_o, rt_x, if_k, if_x, ro_i, ro_b, ro_s, ro_d, ro_f, ro_x, ou_i, ou_b, ou_s, ou_d, ou_f, ou_x, ar_sh, ar_ro, ar_sc, ar_ow, ar_fr, y_t0, y_t1, List.getElem?_cons_zero, List.getElem?_cons_succ, List.set_cons_zero, List.set_cons_succ, List.length_cons, List.length_nil, List.map_cons, List.map_nil, List.cons_append, List.nil_append, List.append_nil, Nat.zero_add, Nat.reduceAdd, Nat.reduceLT, List.replicate_succ, List.replicate_zero, Int.reduceLT, Int.reduceNeg, and_self, true_and, and_true]; rfl)
        rw [y_t1]
        simp only [ca_frozen_frozen, ca_turning_frozen, ca__law_due__law_good, ca__law_fine__law_asked, ca__law_fine__law_whole, ca_law__law_cell, ca_law__law_digits, ca_law__law_due, ca_law__law_filled, ca_law__law_fine, okD_i, okD_b, okD_s, okT_sh, dR_some, tR_some, varR_t, y_var, y_int, y_bl, y_str, y_non, y_bin, y_neg, y_cmp, y_and, y_or, y_not, y_ite, y_tup, y_lst, y_ix, y_sl, y_call, y_bi, y_isi, y_comp, y_nil, y_cons, t_and, t_or, t_not, t_var, t_cst, t_cmp, t_call, t_bi, t_isi, t_ix, b_add, b_sub, b_mul, b_mod, b_div, b_10_18, n_i, c_eq, c_ne, c_lt, c_le, c_gt, c_ge, v_and, v_or, v_not, r_ite, tt_b, tt_and, tt_or, tt_not, k_i, k_b, k_s, k_d, k_t, k_f, i_int, i_bl, i_str, i_tup, i_lst, i_rolst, i_rotup, bi_int, bi_min, bi_max, l_sl, l_st, l_rl, l_rt, l_ow, l_fr, l_sc, m_sl, m_st, m_rl, m_rt, m_ow, m_fr, u_sl, u_st, u_rl, u_ow, u_fr, s_sl', s_st', s_rl', s_rt', s_ow', x_sl, x_st, x_ow, x_fr, x_rl, x_rt, x_rli, x_rti, x_sc, p_none, p_some, z_sl, z_ow, z_fr, z_rl, z_st, a_ff, a_fl, a_lf, a_ll, lst_0, srcR_ok, w_sl, w_st, w_rl, w_rt, w_ow, w_fr, w_sc, w_r1, w_r1n, e_nil, e_cons, q_nx, q_ret, q_brk, q_cnt, q_exc, e_asg, e_own, e_app, e_setI, e_ret, e_retN, e_if, e_rse, g_nm, a_i, a_b, a_s, a_d, a_f, a_exc, o_f, p_i, p_d, rt_i, rt_b, rt_s, rt_d, rt_f, rt_o, rt_x, if_k, if_x, ro_i, ro_b, ro_s, ro_d, ro_f, ro_x, ou_i, ou_b, ou_s, ou_d, ou_f, ou_x, ar_sh, ar_ro, ar_sc, ar_ow, ar_fr, y_t0, y_t1, List.getElem?_cons_zero, List.getElem?_cons_succ, List.set_cons_zero, List.set_cons_succ, List.length_cons, List.length_nil, List.map_cons, List.map_nil, List.cons_append, List.nil_append, List.append_nil, Nat.zero_add, Nat.reduceAdd, Nat.reduceLT, List.replicate_succ, List.replicate_zero, Int.reduceLT, Int.reduceNeg, and_self, true_and, and_true, cut_iD, cut_hi row k hk, cut_lo row k hk, hlen]
        rw [← iD_app]
        show truT ((r__law_good [.sh (.lst (iD (rot k row)))]).bnd Vl.out) = _
        rw [good_ok _ (by rw [rot_length]; exact hl)]
        rfl
    have hs : srcV .rng1 [.sh (.int ((iD row).length : Nat))] = .ok ((List.range row.length).map fun (i : Nat) => T.sh (.int i)) := by
      have := w_r1 (iD row).length (by rw [iD_length]; omega)
      rw [iD_length] at this
      rw [iD_length]
      exact this
    have hcc := comp_ok (hc none) (by simp; omega)
    simp only [ca_frozen_frozen, ca_turning_frozen, ca__law_due__law_good, ca__law_fine__law_asked, ca__law_fine__law_whole, ca_law__law_cell, ca_law__law_digits, ca_law__law_due, ca_law__law_filled, ca_law__law_fine, okD_i, okD_b, okD_s, okT_sh, dR_some, tR_some, varR_t, y_var, y_int, y_bl, y_str, y_non, y_bin, y_neg, y_cmp, y_and, y_or, y_not, y_ite, y_tup, y_lst, y_ix, y_sl, y_call, y_bi, y_isi, y_comp, y_nil, y_cons, t_and, t_or, t_not, t_var, t_cst, t_cmp, t_call, t_bi, t_isi, t_ix, b_add, b_sub, b_mul, b_mod, b_div, b_10_18, n_i, c_eq, c_ne, c_lt, c_le, c_gt, c_ge, v_and, v_or, v_not, r_ite, tt_b, tt_and, tt_or, tt_not, k_i, k_b, k_s, k_d, k_t, k_f, i_int, i_bl, i_str, i_tup, i_lst, i_rolst, i_rotup, bi_int, bi_min, bi_max, l_sl, l_st, l_rl, l_rt, l_ow, l_fr, l_sc, m_sl, m_st, m_rl, m_rt, m_ow, m_fr, u_sl, u_st, u_rl, u_ow, u_fr, s_sl', s_st', s_rl', s_rt', s_ow', x_sl, x_st, x_ow, x_fr, x_rl, x_rt, x_rli, x_rti, x_sc, p_none, p_some, z_sl, z_ow, z_fr, z_rl, z_st, a_ff, a_fl, a_lf, a_ll, lst_0, srcR_ok, w_sl, w_st, w_rl, w_rt, w_ow, w_fr, w_sc, w_r1, w_r1n, e_nil, e_cons, q_nx, q_ret, q_brk, q_cnt, q_exc, e_asg, e_own, e_app, e_setI, e_ret, e_retN, e_if, e_rse, g_nm, a_i, a_b, a_s, a_d, a_f, a_exc, o_f, p_i, p_d, rt_i, rt_b, rt_s, rt_d, rt_f, rt_o, rt_x, if_k, if_x, ro_i, ro_b, ro_s, ro_d, ro_f, ro_x, ou_i, ou_b, ou_s, ou_d, ou_f, ou_x, ar_sh, ar_ro, ar_sc, ar_ow, ar_fr, y_t0, y_t1, List.getElem?_cons_zero, List.getElem?_cons_succ, List.set_cons_zero, List.set_cons_succ, List.length_cons, List.length_nil, List.map_cons, List.map_nil, List.cons_append, List.nil_append, List.append_nil, Nat.zero_add, Nat.reduceAdd, Nat.reduceLT, List.replicate_succ, List.replicate_zero, Int.reduceLT, Int.reduceNeg, and_self, true_and, and_true, e1, e2, hw'.1, hw'.2, Bool.false_eq_true, if_false, hs, hcc]
end Mi.K75

set_option Elab.async false
set_option linter.all false
set_option maxRecDepth 100000
set_option maxHeartbeats 4000000
namespace Mi
open PySem PySem.Spec PyProof.Rows L2
theorem iD_sh (row : List Int) : (iD row).map T.sh = row.map fun (i : Int) => T.sh (.int i) := by
  unfold iD
  rw [List.map_map]
  rfl
theorem filter_true {α : Type} (l : List α) : l.filter (fun _ => true) = l := List.filter_eq_self.mpr fun _ _ => rfl
def eT : Nat → List Int → List T
  | _, [] => []
  | n, x :: xs => T.sh (.tup [.int n, .int x]) :: eT (n + 1) xs
theorem enumT_iD : ∀ (n : Nat) (row : List Int), enumT n ((iD row).map T.sh) = some (eT n row)
  | _, [] => rfl
  | n, x :: xs => by
    rw [iD_cons, List.map_cons]
    simp only [enumT, enumT_iD (n + 1) xs, eT]
    rfl
theorem eT_still : ∀ (n : Nat) (row : List Int), (eT n row).all T.still = true
  | _, [] => rfl
  | n, x :: xs => by
    simp only [eT, List.all_cons, eT_still (n + 1) xs]
    rfl
end Mi
namespace Mi.K75
open PySem PySem.Spec PyProof.Rows L2 Mi
theorem frozen_int (k : Nat) (i : Int) : r_frozen (k + 1) [.sh (.int i)] = okI i := by
  show runDef (c_frozen (r_frozen k)) b_frozen _ = _
  rw [rd_eq rfl]
  show resO (Mi.execs _ b_frozen [some (T.sh (.int i)), none]) = _
  unfold b_frozen
  have h : ([Ty.lst, Ty.tup].any fun k => isTy .int k) = false := rfl
  simp only [ca_frozen_frozen, ca_turning_frozen, ca__law_due__law_good, ca__law_fine__law_asked, ca__law_fine__law_whole, ca_law__law_cell, ca_law__law_digits, ca_law__law_due, ca_law__law_filled, ca_law__law_fine, okD_i, okD_b, okD_s, okT_sh, dR_some, tR_some, varR_t, y_var, y_int, y_bl, y_str, y_non, y_bin, y_neg, y_cmp, y_and, y_or, y_not, y_ite, y_tup, y_lst, y_ix, y_sl, y_call, y_bi, y_isi, y_comp, y_nil, y_cons, t_and, t_or, t_not, t_var, t_cst, t_cmp, t_call, t_bi, t_isi, t_ix, b_add, b_sub, b_mul, b_mod, b_div, b_10_18, n_i, c_eq, c_ne, c_lt, c_le, c_gt, c_ge, v_and, v_or, v_not, r_ite, tt_b, tt_and, tt_or, tt_not, k_i, k_b, k_s, k_d, k_t, k_f, i_int, i_bl, i_str, i_tup, i_lst, i_rolst, i_rotup, bi_int, bi_min, bi_max, l_sl, l_st, l_rl, l_rt, l_ow, l_fr, l_sc, m_sl, m_st, m_rl, m_rt, m_ow, m_fr, u_sl, u_st, u_rl, u_ow, u_fr, s_sl', s_st', s_rl', s_rt', s_ow', x_sl, x_st, x_ow, x_fr, x_rl, x_rt, x_rli, x_rti, x_sc, p_none, p_some, z_sl, z_ow, z_fr, z_rl, z_st, a_ff, a_fl, a_lf, a_ll, lst_0, srcR_ok, w_sl, w_st, w_rl, w_rt, w_ow, w_fr, w_sc, w_r1, w_r1n, e_nil, e_cons, q_nx, q_ret, q_brk, q_cnt, q_exc, e_asg, e_own, e_app, e_setI, e_ret, e_retN, e_if, e_rse, g_nm, a_i, a_b, a_s, a_d, a_f, a_exc, o_f, p_i, p_d, rt_i, rt_b, rt_s, rt_d, rt_f, rt_o, rt_x, if_k, if_x, ro_i, ro_b, ro_s, ro_d, ro_f, ro_x, ou_i, ou_b, ou_s, ou_d, ou_f, ou_x, ar_sh, ar_ro, ar_sc, ar_ow, ar_fr, y_t0, y_t1, List.getElem?_cons_zero, List.getElem?_cons_succ, List.set_cons_zero, List.set_cons_succ, List.length_cons, List.length_nil, List.map_cons, List.map_nil, List.cons_append, List.nil_append, List.append_nil, Nat.zero_add, Nat.reduceAdd, Nat.reduceLT, List.replicate_succ, List.replicate_zero, Int.reduceLT, Int.reduceNeg, and_self, true_and, and_true, h, Bool.false_eq_true, if_false]
theorem frozen_comp (k : Nat) (row : List Int) (t : T) (x : Option T) : compGo (cturn (c_frozen (r_frozen (k + 1))) (.nm 1) [] (.call "frozen" [.var 1]) [some t, x]) ((iD row).map T.sh) = .ok (iD row) := by
  have := compGo_fil (f := cturn (c_frozen (r_frozen (k + 1))) (.nm 1) [] (.call "frozen" [.var 1]) [some t, x]) (h := fun (i : Int) => T.sh (.int i)) (p := fun _ => true) (v := fun (i : Int) => D.int i) (l := row) fun i hi => ?_
  · rw [iD_sh, this, filter_true]
    rfl
  · refine cturn_b (ρ1 := [some t, some (.sh (.int i))]) rfl y_t0 (x := .sh (.int i)) ?_
    simp only [ca_frozen_frozen, ca_turning_frozen, ca__law_due__law_good, ca__law_fine__law_asked, ca__law_fine__law_whole, ca_law__law_cell, ca_law__law_digits, ca_law__law_due, ca_law__law_filled, ca_law__law_fine, okD_i, okD_b, okD_s, okT_sh, dR_some, tR_some, varR_t, y_var, y_int, y_bl, y_str, y_non, y_bin, y_neg, y_cmp, y_and, y_or, y_not, y_ite, y_tup, y_lst, y_ix, y_sl, y_call, y_bi, y_isi, y_comp, y_nil, y_cons, t_and, t_or, t_not, t_var, t_cst, t_cmp, t_call, t_bi, t_isi, t_ix, b_add, b_sub, b_mul, b_mod, b_div, b_10_18, n_i, c_eq, c_ne, c_lt, c_le, c_gt, c_ge, v_and, v_or, v_not, r_ite, tt_b, tt_and, tt_or, tt_not, k_i, k_b, k_s, k_d, k_t, k_f, i_int, i_bl, i_str, i_tup, i_lst, i_rolst, i_rotup, bi_int, bi_min, bi_max, l_sl, l_st, l_rl, l_rt, l_ow, l_fr, l_sc, m_sl, m_st, m_rl, m_rt, m_ow, m_fr, u_sl, u_st, u_rl, u_ow, u_fr, s_sl', s_st', s_rl', s_rt', s_ow', x_sl, x_st, x_ow, x_fr, x_rl, x_rt, x_rli, x_rti, x_sc, p_none, p_some, z_sl, z_ow, z_fr, z_rl, z_st, a_ff, a_fl, a_lf, a_ll, lst_0, srcR_ok, w_sl, w_st, w_rl, w_rt, w_ow, w_fr, w_sc, w_r1, w_r1n, e_nil, e_cons, q_nx, q_ret, q_brk, q_cnt, q_exc, e_asg, e_own, e_app, e_setI, e_ret, e_retN, e_if, e_rse, g_nm, a_i, a_b, a_s, a_d, a_f, a_exc, o_f, p_i, p_d, rt_i, rt_b, rt_s, rt_d, rt_f, rt_o, rt_x, if_k, if_x, ro_i, ro_b, ro_s, ro_d, ro_f, ro_x, ou_i, ou_b, ou_s, ou_d, ou_f, ou_x, ar_sh, ar_ro, ar_sc, ar_ow, ar_fr, y_t0, y_t1, List.getElem?_cons_zero, List.getElem?_cons_succ, List.set_cons_zero, List.set_cons_succ, List.length_cons, List.length_nil, List.map_cons, List.map_nil, List.cons_append, List.nil_append, List.append_nil, Nat.zero_add, Nat.reduceAdd, Nat.reduceLT, List.replicate_succ, List.replicate_zero, Int.reduceLT, Int.reduceNeg, and_self, true_and, and_true, frozen_int]
    rfl
theorem frozen_row (k : Nat) (row : List Int) (hl : row.length ≤ 1000) (t : T) (ht : t = .sh (.lst (iD row)) ∨ t = .sh (.tup (iD row)) ∨ t = .ro (.lst (iD row)) ∨ t = .ro (.tup (iD row))) : r_frozen (k + 2) [t] = okD (.tup (iD row)) := by
  have hst : t.still = true := by rcases ht with rfl | rfl | rfl | rfl <;> rfl
  show runDef (c_frozen (r_frozen (k + 1))) b_frozen _ = _
  rw [rd_eq (by simp only [List.all_cons, hst, List.all_nil, Bool.and_self])]
  show resO (Mi.execs _ b_frozen [some t, none]) = _
  unfold b_frozen
  have h1 : ([Ty.lst, Ty.tup].any fun k => isTy .lst k) = true := rfl
  have h2 : ([Ty.lst, Ty.tup].any fun k => isTy .tup k) = true := rfl
  have hc := comp_ok (frozen_comp k row t none) (by rw [List.length_map, iD_length]; omega)
  rcases ht with rfl | rfl | rfl | rfl
  · simp only [ca_frozen_frozen, ca_turning_frozen, ca__law_due__law_good, ca__law_fine__law_asked, ca__law_fine__law_whole, ca_law__law_cell, ca_law__law_digits, ca_law__law_due, ca_law__law_filled, ca_law__law_fine, okD_i, okD_b, okD_s, okT_sh, dR_some, tR_some, varR_t, y_var, y_int, y_bl, y_str, y_non, y_bin, y_neg, y_cmp, y_and, y_or, y_not, y_ite, y_tup, y_lst, y_ix, y_sl, y_call, y_bi, y_isi, y_comp, y_nil, y_cons, t_and, t_or, t_not, t_var, t_cst, t_cmp, t_call, t_bi, t_isi, t_ix, b_add, b_sub, b_mul, b_mod, b_div, b_10_18, n_i, c_eq, c_ne, c_lt, c_le, c_gt, c_ge, v_and, v_or, v_not, r_ite, tt_b, tt_and, tt_or, tt_not, k_i, k_b, k_s, k_d, k_t, k_f, i_int, i_bl, i_str, i_tup, i_lst, i_rolst, i_rotup, bi_int, bi_min, bi_max, l_sl, l_st, l_rl, l_rt, l_ow, l_fr, l_sc, m_sl, m_st, m_rl, m_rt, m_ow, m_fr, u_sl, u_st, u_rl, u_ow, u_fr, s_sl', s_st', s_rl', s_rt', s_ow', x_sl, x_st, x_ow, x_fr, x_rl, x_rt, x_rli, x_rti, x_sc, p_none, p_some, z_sl, z_ow, z_fr, z_rl, z_st, a_ff, a_fl, a_lf, a_ll, lst_0, srcR_ok, w_sl, w_st, w_rl, w_rt, w_ow, w_fr, w_sc, w_r1, w_r1n, e_nil, e_cons, q_nx, q_ret, q_brk, q_cnt, q_exc, e_asg, e_own, e_app, e_setI, e_ret, e_retN, e_if, e_rse, g_nm, a_i, a_b, a_s, a_d, a_f, a_exc, o_f, p_i, p_d, rt_i, rt_b, rt_s, rt_d, rt_f, rt_o, rt_x, if_k, if_x, ro_i, ro_b, ro_s, ro_d, ro_f, ro_x, ou_i, ou_b, ou_s, ou_d, ou_f, ou_x, ar_sh, ar_ro, ar_sc, ar_ow, ar_fr, y_t0, y_t1, List.getElem?_cons_zero, List.getElem?_cons_succ, List.set_cons_zero, List.set_cons_succ, List.length_cons, List.length_nil, List.map_cons, List.map_nil, List.cons_append, List.nil_append, List.append_nil, Nat.zero_add, Nat.reduceAdd, Nat.reduceLT, List.replicate_succ, List.replicate_zero, Int.reduceLT, Int.reduceNeg, and_self, true_and, and_true, h1, if_true, hc]
  · simp only [ca_frozen_frozen, ca_turning_frozen, ca__law_due__law_good, ca__law_fine__law_asked, ca__law_fine__law_whole, ca_law__law_cell, ca_law__law_digits, ca_law__law_due, ca_law__law_filled, ca_law__law_fine, okD_i, okD_b, okD_s, okT_sh, dR_some, tR_some, varR_t, y_var, y_int, y_bl, y_str, y_non, y_bin, y_neg, y_cmp, y_and, y_or, y_not, y_ite, y_tup, y_lst, y_ix, y_sl, y_call, y_bi, y_isi, y_comp, y_nil, y_cons, t_and, t_or, t_not, t_var, t_cst, t_cmp, t_call, t_bi, t_isi, t_ix, b_add, b_sub, b_mul, b_mod, b_div, b_10_18, n_i, c_eq, c_ne, c_lt, c_le, c_gt, c_ge, v_and, v_or, v_not, r_ite, tt_b, tt_and, tt_or, tt_not, k_i, k_b, k_s, k_d, k_t, k_f, i_int, i_bl, i_str, i_tup, i_lst, i_rolst, i_rotup, bi_int, bi_min, bi_max, l_sl, l_st, l_rl, l_rt, l_ow, l_fr, l_sc, m_sl, m_st, m_rl, m_rt, m_ow, m_fr, u_sl, u_st, u_rl, u_ow, u_fr, s_sl', s_st', s_rl', s_rt', s_ow', x_sl, x_st, x_ow, x_fr, x_rl, x_rt, x_rli, x_rti, x_sc, p_none, p_some, z_sl, z_ow, z_fr, z_rl, z_st, a_ff, a_fl, a_lf, a_ll, lst_0, srcR_ok, w_sl, w_st, w_rl, w_rt, w_ow, w_fr, w_sc, w_r1, w_r1n, e_nil, e_cons, q_nx, q_ret, q_brk, q_cnt, q_exc, e_asg, e_own, e_app, e_setI, e_ret, e_retN, e_if, e_rse, g_nm, a_i, a_b, a_s, a_d, a_f, a_exc, o_f, p_i, p_d, rt_i, rt_b, rt_s, rt_d, rt_f, rt_o, rt_x, if_k, if_x, ro_i, ro_b, ro_s, ro_d, ro_f, ro_x, ou_i, ou_b, ou_s, ou_d, ou_f, ou_x, ar_sh, ar_ro, ar_sc, ar_ow, ar_fr, y_t0, y_t1, List.getElem?_cons_zero, List.getElem?_cons_succ, List.set_cons_zero, List.set_cons_succ, List.length_cons, List.length_nil, List.map_cons, List.map_nil, List.cons_append, List.nil_append, List.append_nil, Nat.zero_add, Nat.reduceAdd, Nat.reduceLT, List.replicate_succ, List.replicate_zero, Int.reduceLT, Int.reduceNeg, and_self, true_and, and_true, h2, if_true, hc]
  · simp only [ca_frozen_frozen, ca_turning_frozen, ca__law_due__law_good, ca__law_fine__law_asked, ca__law_fine__law_whole, ca_law__law_cell, ca_law__law_digits, ca_law__law_due, ca_law__law_filled, ca_law__law_fine, okD_i, okD_b, okD_s, okT_sh, dR_some, tR_some, varR_t, y_var, y_int, y_bl, y_str, y_non, y_bin, y_neg, y_cmp, y_and, y_or, y_not, y_ite, y_tup, y_lst, y_ix, y_sl, y_call, y_bi, y_isi, y_comp, y_nil, y_cons, t_and, t_or, t_not, t_var, t_cst, t_cmp, t_call, t_bi, t_isi, t_ix, b_add, b_sub, b_mul, b_mod, b_div, b_10_18, n_i, c_eq, c_ne, c_lt, c_le, c_gt, c_ge, v_and, v_or, v_not, r_ite, tt_b, tt_and, tt_or, tt_not, k_i, k_b, k_s, k_d, k_t, k_f, i_int, i_bl, i_str, i_tup, i_lst, i_rolst, i_rotup, bi_int, bi_min, bi_max, l_sl, l_st, l_rl, l_rt, l_ow, l_fr, l_sc, m_sl, m_st, m_rl, m_rt, m_ow, m_fr, u_sl, u_st, u_rl, u_ow, u_fr, s_sl', s_st', s_rl', s_rt', s_ow', x_sl, x_st, x_ow, x_fr, x_rl, x_rt, x_rli, x_rti, x_sc, p_none, p_some, z_sl, z_ow, z_fr, z_rl, z_st, a_ff, a_fl, a_lf, a_ll, lst_0, srcR_ok, w_sl, w_st, w_rl, w_rt, w_ow, w_fr, w_sc, w_r1, w_r1n, e_nil, e_cons, q_nx, q_ret, q_brk, q_cnt, q_exc, e_asg, e_own, e_app, e_setI, e_ret, e_retN, e_if, e_rse, g_nm, a_i, a_b, a_s, a_d, a_f, a_exc, o_f, p_i, p_d, rt_i, rt_b, rt_s, rt_d, rt_f, rt_o, rt_x, if_k, if_x, ro_i, ro_b, ro_s, ro_d, ro_f, ro_x, ou_i, ou_b, ou_s, ou_d, ou_f, ou_x, ar_sh, ar_ro, ar_sc, ar_ow, ar_fr, y_t0, y_t1, List.getElem?_cons_zero, List.getElem?_cons_succ, List.set_cons_zero, List.set_cons_succ, List.length_cons, List.length_nil, List.map_cons, List.map_nil, List.cons_append, List.nil_append, List.append_nil, Nat.zero_add, Nat.reduceAdd, Nat.reduceLT, List.replicate_succ, List.replicate_zero, Int.reduceLT, Int.reduceNeg, and_self, true_and, and_true, h1, if_true, iD_ro, hc]
  · simp only [ca_frozen_frozen, ca_turning_frozen, ca__law_due__law_good, ca__law_fine__law_asked, ca__law_fine__law_whole, ca_law__law_cell, ca_law__law_digits, ca_law__law_due, ca_law__law_filled, ca_law__law_fine, okD_i, okD_b, okD_s, okT_sh, dR_some, tR_some, varR_t, y_var, y_int, y_bl, y_str, y_non, y_bin, y_neg, y_cmp, y_and, y_or, y_not, y_ite, y_tup, y_lst, y_ix, y_sl, y_call, y_bi, y_isi, y_comp, y_nil, y_cons, t_and, t_or, t_not, t_var, t_cst, t_cmp, t_call, t_bi, t_isi, t_ix, b_add, b_sub, b_mul, b_mod, b_div, b_10_18, n_i, c_eq, c_ne, c_lt, c_le, c_gt, c_ge, v_and, v_or, v_not, r_ite, tt_b, tt_and, tt_or, tt_not, k_i, k_b, k_s, k_d, k_t, k_f, i_int, i_bl, i_str, i_tup, i_lst, i_rolst, i_rotup, bi_int, bi_min, bi_max, l_sl, l_st, l_rl, l_rt, l_ow, l_fr, l_sc, m_sl, m_st, m_rl, m_rt, m_ow, m_fr, u_sl, u_st, u_rl, u_ow, u_fr, s_sl', s_st', s_rl', s_rt', s_ow', x_sl, x_st, x_ow, x_fr, x_rl, x_rt, x_rli, x_rti, x_sc, p_none, p_some, z_sl, z_ow, z_fr, z_rl, z_st, a_ff, a_fl, a_lf, a_ll, lst_0, srcR_ok, w_sl, w_st, w_rl, w_rt, w_ow, w_fr, w_sc, w_r1, w_r1n, e_nil, e_cons, q_nx, q_ret, q_brk, q_cnt, q_exc, e_asg, e_own, e_app, e_setI, e_ret, e_retN, e_if, e_rse, g_nm, a_i, a_b, a_s, a_d, a_f, a_exc, o_f, p_i, p_d, rt_i, rt_b, rt_s, rt_d, rt_f, rt_o, rt_x, if_k, if_x, ro_i, ro_b, ro_s, ro_d, ro_f, ro_x, ou_i, ou_b, ou_s, ou_d, ou_f, ou_x, ar_sh, ar_ro, ar_sc, ar_ow, ar_fr, y_t0, y_t1, List.getElem?_cons_zero, List.getElem?_cons_succ, List.set_cons_zero, List.set_cons_succ, List.length_cons, List.length_nil, List.map_cons, List.map_nil, List.cons_append, List.nil_append, List.append_nil, Nat.zero_add, Nat.reduceAdd, Nat.reduceLT, List.replicate_succ, List.replicate_zero, Int.reduceLT, Int.reduceNeg, and_self, true_and, and_true, h2, if_true, iD_ro, hc]
/-! ### turning -/
def turnGo : List Int → Int → Int → Int → Int → Int
  | [], _, found, _, _ => found
  | x :: xs, index, found, least, level => if level < least then turnGo xs (index + 1) index level (level + x - 1) else turnGo xs (index + 1) found least (level + x - 1)
theorem turn_loop (t0 t1 : T) : ∀ (row : List Int) (n : Nat) (found least level : Int) (x y : Option T), ∃ (least' level' : Int) (x' y' : Option T),
    forGo (.tp [5, 6]) (Mi.execs c_turning l_turning_0) (eT n row) [some t0, some t1, some (.sh (.int found)), some (.sh (.int least)), some (.sh (.int level)), x, y] =
      .nx [some t0, some t1, some (.sh (.int (turnGo row n found least level))), some (.sh (.int least')), some (.sh (.int level')), x', y']
  | [], n, found, least, level, x, y => ⟨least, level, x, y, rfl⟩
  | v :: row, n, found, least, level, x, y => by
    have hb : Mi.execs c_turning l_turning_0 [some t0, some t1, some (.sh (.int found)), some (.sh (.int least)), some (.sh (.int level)), some (.sh (.int n)), some (.sh (.int v))] =
        if level < least then .nx [some t0, some t1, some (.sh (.int n)), some (.sh (.int level)), some (.sh (.int (level + v - 1))), some (.sh (.int n)), some (.sh (.int v))]
        else .nx [some t0, some t1, some (.sh (.int found)), some (.sh (.int least)), some (.sh (.int (level + v - 1))), some (.sh (.int n)), some (.sh (.int v))] := by
      unfold l_turning_0
      by_cases h : level < least
      · simp only [ca_frozen_frozen, ca_turning_frozen, ca__law_due__law_good, ca__law_fine__law_asked, ca__law_fine__law_whole, ca_law__law_cell, ca_law__law_digits, ca_law__law_due, ca_law__law_filled, ca_law__law_fine, okD_i, okD_b, okD_s, okT_sh, dR_some, tR_some, varR_t, y_var, y_int, y_bl, y_str, y_non, y_bin, y_neg, y_cmp, y_and, y_or, y_not, y_ite, y_tup, y_lst, y_ix, y_sl, y_call, y_bi, y_isi, y_comp, y_nil, y_cons, t_and, t_or, t_not, t_var, t_cst, t_cmp, t_call, t_bi, t_isi, t_ix, b_add, b_sub, b_mul, b_mod, b_div, b_10_18, n_i, c_eq, c_ne, c_lt, c_le, c_gt, c_ge, v_and, v_or, v_not, r_ite, tt_b, tt_and, tt_or, tt_not, k_i, k_b, k_s, k_d, k_t, k_f, i_int, i_bl, i_str, i_tup, i_lst, i_rolst, i_rotup, bi_int, bi_min, bi_max, l_sl, l_st, l_rl, l_rt, l_ow, l_fr, l_sc, m_sl, m_st, m_rl, m_rt, m_ow, m_fr, u_sl, u_st, u_rl, u_ow, u_fr, s_sl', s_st', s_rl', s_rt', s_ow', x_sl, x_st, x_ow, x_fr, x_rl, x_rt, x_rli, x_rti, x_sc, p_none, p_some, z_sl, z_ow, z_fr, z_rl, z_st, a_ff, a_fl, a_lf, a_ll, lst_0, srcR_ok, w_sl, w_st, w_rl, w_rt, w_ow, w_fr, w_sc, w_r1, w_r1n, e_nil, e_cons, q_nx, q_ret, q_brk, q_cnt, q_exc, e_asg, e_own, e_app, e_setI, e_ret, e_retN, e_if, e_rse, g_nm, a_i, a_b, a_s, a_d, a_f, a_exc, o_f, p_i, p_d, rt_i, rt_b, rt_s, rt_d, rt_f, rt_o, rt_x, if_k, if_x, ro_i, ro_b, ro_s, ro_d, ro_f, ro_x, ou_i, ou_b, ou_s, ou_d, ou_f, ou_x, ar_sh, ar_ro, ar_sc, ar_ow, ar_fr, y_t0, y_t1, List.getElem?_cons_zero, List.getElem?_cons_succ, List.set_cons_zero, List.set_cons_succ, List.length_cons, List.length_nil, List.map_cons, List.map_nil, List.cons_append, List.nil_append, List.append_nil, Nat.zero_add, Nat.reduceAdd, Nat.reduceLT, List.replicate_succ, List.replicate_zero, Int.reduceLT, Int.reduceNeg, and_self, true_and, and_true, h, decide_true, if_true]
      · simp only [ca_frozen_frozen, ca_turning_frozen, ca__law_due__law_good, ca__law_fine__law_asked, ca__law_fine__law_whole, ca_law__law_cell, ca_law__law_digits, ca_law__law_due, ca_law__law_filled, ca_law__law_fine, okD_i, okD_b, okD_s, okT_sh, dR_some, tR_some, varR_t, y_var, y_int, y_bl, y_str, y_non, y_bin, y_neg, y_cmp, y_and, y_or, y_not, y_ite, y_tup, y_lst, y_ix, y_sl, y_call, y_bi, y_isi, y_comp, y_nil, y_cons, t_and, t_or, t_not, t_var, t_cst, t_cmp, t_call, t_bi, t_isi, t_ix, b_add, b_sub, b_mul, b_mod, b_div, b_10_18, n_i, c_eq, c_ne, c_lt, c_le, c_gt, c_ge, v_and, v_or, v_not, r_ite, tt_b, tt_and, tt_or, tt_not, k_i, k_b, k_s, k_d, k_t, k_f, i_int, i_bl, i_str, i_tup, i_lst, i_rolst, i_rotup, bi_int, bi_min, bi_max, l_sl, l_st, l_rl, l_rt, l_ow, l_fr, l_sc, m_sl, m_st, m_rl, m_rt, m_ow, m_fr, u_sl, u_st, u_rl, u_ow, u_fr, s_sl', s_st', s_rl', s_rt', s_ow', x_sl, x_st, x_ow, x_fr, x_rl, x_rt, x_rli, x_rti, x_sc, p_none, p_some, z_sl, z_ow, z_fr, z_rl, z_st, a_ff, a_fl, a_lf, a_ll, lst_0, srcR_ok, w_sl, w_st, w_rl, w_rt, w_ow, w_fr, w_sc, w_r1, w_r1n, e_nil, e_cons, q_nx, q_ret, q_brk, q_cnt, q_exc, e_asg, e_own, e_app, e_setI, e_ret, e_retN, e_if, e_rse, g_nm, a_i, a_b, a_s, a_d, a_f, a_exc, o_f, p_i, p_d, rt_i, rt_b, rt_s, rt_d, rt_f, rt_o, rt_x, if_k, if_x, ro_i, ro_b, ro_s, ro_d, ro_f, ro_x, ou_i, ou_b, ou_s, ou_d, ou_f, ou_x, ar_sh, ar_ro, ar_sc, ar_ow, ar_fr, y_t0, y_t1, List.getElem?_cons_zero, List.getElem?_cons_succ, List.set_cons_zero, List.set_cons_succ, List.length_cons, List.length_nil, List.map_cons, List.map_nil, List.cons_append, List.nil_append, List.append_nil, Nat.zero_add, Nat.reduceAdd, Nat.reduceLT, List.replicate_succ, List.replicate_zero, Int.reduceLT, Int.reduceNeg, and_self, true_and, and_true, h, decide_false, Bool.false_eq_true, if_false]
    have ht : tgV (.tp [5, 6]) (T.sh (.tup [.int n, .int v])) [some t0, some t1, some (.sh (.int found)), some (.sh (.int least)), some (.sh (.int level)), x, y] =
        some [some t0, some t1, some (.sh (.int found)), some (.sh (.int least)), some (.sh (.int level)), some (.sh (.int n)), some (.sh (.int v))] := rfl
    simp only [eT, forGo, ht, hb, turnGo]
    by_cases h : level < least
    · simp only [h, if_true]
      exact turn_loop t0 t1 row (n + 1) n level (level + v - 1) _ _
    · simp only [h, if_false]
      exact turn_loop t0 t1 row (n + 1) found least (level + v - 1) _ _
def turnF (row : List Int) : Int := turnGo row 0 0 0 0
theorem turning_ok (row : List Int) (hl : row.length ≤ 1000) (t : T) (ht : t = .sh (.lst (iD row)) ∨ t = .sh (.tup (iD row)) ∨ t = .ro (.lst (iD row)) ∨ t = .ro (.tup (iD row))) :
    r_turning [t] = if wrong row then .exc "NoReading" [] else okI (turnF row) := by
  have hst : t.still = true := by rcases ht with rfl | rfl | rfl | rfl <;> rfl
  have ha : Vl.arg (.bw t) = t := by rcases ht with rfl | rfl | rfl | rfl <;> rfl
  unfold r_turning
  rw [rd_eq (by simp only [List.all_cons, hst, List.all_nil, Bool.and_self])]
  show resO (Mi.execs _ b_turning [some t, none, none, none, none, none, none]) = _
  unfold b_turning
  have hfr : r_frozen 20 [t] = okD (.tup (iD row)) := frozen_row 18 row hl t ht
  have e1 : decide (((iD row).length : Int) = 0) = decide (row.length = 0) := by
    rw [iD_length]
    by_cases h : row.length = 0
    · simp [h]
    · have : ¬ ((row.length : Int) = 0) := by omega
      simp [h, this]
  have e2 : (!decide (row.sum = ((iD row).length : Int) - 1)) = !decide (row.sum = (row.length : Int) - 1) := by rw [iD_length]
  have hv : ev c_turning (.call "frozen" [.var 0]) [some t, none, none, none, none, none, none] = okD (.tup (iD row)) := by
    rcases ht with rfl | rfl | rfl | rfl <;> simp only [ca_frozen_frozen, ca_turning_frozen, ca__law_due__law_good, ca__law_fine__law_asked, ca__law_fine__law_whole, ca_law__law_cell, ca_law__law_digits, ca_law__law_due, ca_law__law_filled, ca_law__law_fine, okD_i, okD_b, okD_s, okT_sh, dR_some, tR_some, varR_t, y_var, y_int, y_bl, y_str, y_non, y_bin, y_neg, y_cmp, y_and, y_or, y_not, y_ite, y_tup, y_lst, y_ix, y_sl, y_call, y_bi, y_isi, y_comp, y_nil, y_cons, t_and, t_or, t_not, t_var, t_cst, t_cmp, t_call, t_bi, t_isi, t_ix, b_add, b_sub, b_mul, b_mod, b_div, b_10_18, n_i, c_eq, c_ne, c_lt, c_le, c_gt, c_ge, v_and, v_or, v_not, r_ite, tt_b, tt_and, tt_or, tt_not, k_i, k_b, k_s, k_d, k_t, k_f, i_int, i_bl, i_str, i_tup, i_lst, i_rolst, i_rotup, bi_int, bi_min, bi_max, l_sl, l_st, l_rl, l_rt, l_ow, l_fr, l_sc, m_sl, m_st, m_rl, m_rt, m_ow, m_fr, u_sl, u_st, u_rl, u_ow, u_fr, s_sl', s_st', s_rl', s_rt', s_ow', x_sl, x_st, x_ow, x_fr, x_rl, x_rt, x_rli, x_rti, x_sc, p_none, p_some, z_sl, z_ow, z_fr, z_rl, z_st, a_ff, a_fl, a_lf, a_ll, lst_0, srcR_ok, w_sl, w_st, w_rl, w_rt, w_ow, w_fr, w_sc, w_r1, w_r1n, e_nil, e_cons, q_nx, q_ret, q_brk, q_cnt, q_exc, e_asg, e_own, e_app, e_setI, e_ret, e_retN, e_if, e_rse, g_nm, a_i, a_b, a_s, a_d, a_f, a_exc, o_f, p_i, p_d, rt_i, rt_b, rt_s, rt_d, rt_f, rt_o, rt_x, if_k, if_x, ro_i, ro_b, ro_s, ro_d, ro_f, ro_x, ou_i, ou_b, ou_s, ou_d, ou_f, ou_x, ar_sh, ar_ro, ar_sc, ar_ow, ar_fr, y_t0, y_t1, List.getElem?_cons_zero, List.getElem?_cons_succ, List.set_cons_zero, List.set_cons_succ, List.length_cons, List.length_nil, List.map_cons, List.map_nil, List.cons_append, List.nil_append, List.append_nil, Nat.zero_add, Nat.reduceAdd, Nat.reduceLT, List.replicate_succ, List.replicate_zero, Int.reduceLT, Int.reduceNeg, and_self, true_and, and_true, hfr]
  have hrse : ∀ ρ, Mi.exec c_turning (.rse "NoReading" []) ρ = .exc "NoReading" [] ρ := fun ρ => e_rse _ (by simp [c_turning, exs])
  by_cases hw : wrong row = true
  · have hw' := hw
    unfold wrong at hw'
    rw [if_pos hw]
    by_cases h0 : row.length = 0
    · simp only [e_cons, e_asg, hv]
      simp only [ca_frozen_frozen, ca_turning_frozen, ca__law_due__law_good, ca__law_fine__law_asked, ca__law_fine__law_whole, ca_law__law_cell, ca_law__law_digits, ca_law__law_due, ca_law__law_filled, ca_law__law_fine, okD_i, okD_b, okD_s, okT_sh, dR_some, tR_some, varR_t, y_var, y_int, y_bl, y_str, y_non, y_bin, y_neg, y_cmp, y_and, y_or, y_not, y_ite, y_tup, y_lst, y_ix, y_sl, y_call, y_bi, y_isi, y_comp, y_nil, y_cons, t_and, t_or, t_not, t_var, t_cst, t_cmp, t_call, t_bi, t_isi, t_ix, b_add, b_sub, b_mul, b_mod, b_div, b_10_18, n_i, c_eq, c_ne, c_lt, c_le, c_gt, c_ge, v_and, v_or, v_not, r_ite, tt_b, tt_and, tt_or, tt_not, k_i, k_b, k_s, k_d, k_t, k_f, i_int, i_bl, i_str, i_tup, i_lst, i_rolst, i_rotup, bi_int, bi_min, bi_max, l_sl, l_st, l_rl, l_rt, l_ow, l_fr, l_sc, m_sl, m_st, m_rl, m_rt, m_ow, m_fr, u_sl, u_st, u_rl, u_ow, u_fr, s_sl', s_st', s_rl', s_rt', s_ow', x_sl, x_st, x_ow, x_fr, x_rl, x_rt, x_rli, x_rti, x_sc, p_none, p_some, z_sl, z_ow, z_fr, z_rl, z_st, a_ff, a_fl, a_lf, a_ll, lst_0, srcR_ok, w_sl, w_st, w_rl, w_rt, w_ow, w_fr, w_sc, w_r1, w_r1n, e_nil, e_cons, q_nx, q_ret, q_brk, q_cnt, q_exc, e_asg, e_own, e_app, e_setI, e_ret, e_retN, e_if, e_rse, g_nm, a_i, a_b, a_s, a_d, a_f, a_exc, o_f, p_i, p_d, rt_i, rt_b, rt_s, rt_d, rt_f, rt_o, rt_x, if_k, if_x, ro_i, ro_b, ro_s, ro_d, ro_f, ro_x, ou_i, ou_b, ou_s, ou_d, ou_f, ou_x, ar_sh, ar_ro, ar_sc, ar_ow, ar_fr, y_t0, y_t1, List.getElem?_cons_zero, List.getElem?_cons_succ, List.set_cons_zero, List.set_cons_succ, List.length_cons, List.length_nil, List.map_cons, List.map_nil, List.cons_append, List.nil_append, List.append_nil, Nat.zero_add, Nat.reduceAdd, Nat.reduceLT, List.replicate_succ, List.replicate_zero, Int.reduceLT, Int.reduceNeg, and_self, true_and, and_true, e1, e2, h0, decide_true, if_true, hrse]
    · simp only [h0, decide_false, Bool.false_or] at hw'
      simp only [e_cons, e_asg, hv]
      simp only [ca_frozen_frozen, ca_turning_frozen, ca__law_due__law_good, ca__law_fine__law_asked, ca__law_fine__law_whole, ca_law__law_cell, ca_law__law_digits, ca_law__law_due, ca_law__law_filled, ca_law__law_fine, okD_i, okD_b, okD_s, okT_sh, dR_some, tR_some, varR_t, y_var, y_int, y_bl, y_str, y_non, y_bin, y_neg, y_cmp, y_and, y_or, y_not, y_ite, y_tup, y_lst, y_ix, y_sl, y_call, y_bi, y_isi, y_comp, y_nil, y_cons, t_and, t_or, t_not, t_var, t_cst, t_cmp, t_call, t_bi, t_isi, t_ix, b_add, b_sub, b_mul, b_mod, b_div, b_10_18, n_i, c_eq, c_ne, c_lt, c_le, c_gt, c_ge, v_and, v_or, v_not, r_ite, tt_b, tt_and, tt_or, tt_not, k_i, k_b, k_s, k_d, k_t, k_f, i_int, i_bl, i_str, i_tup, i_lst, i_rolst, i_rotup, bi_int, bi_min, bi_max, l_sl, l_st, l_rl, l_rt, l_ow, l_fr, l_sc, m_sl, m_st, m_rl, m_rt, m_ow, m_fr, u_sl, u_st, u_rl, u_ow, u_fr, s_sl', s_st', s_rl', s_rt', s_ow', x_sl, x_st, x_ow, x_fr, x_rl, x_rt, x_rli, x_rti, x_sc, p_none, p_some, z_sl, z_ow, z_fr, z_rl, z_st, a_ff, a_fl, a_lf, a_ll, lst_0, srcR_ok, w_sl, w_st, w_rl, w_rt, w_ow, w_fr, w_sc, w_r1, w_r1n, e_nil, e_cons, q_nx, q_ret, q_brk, q_cnt, q_exc, e_asg, e_own, e_app, e_setI, e_ret, e_retN, e_if, e_rse, g_nm, a_i, a_b, a_s, a_d, a_f, a_exc, o_f, p_i, p_d, rt_i, rt_b, rt_s, rt_d, rt_f, rt_o, rt_x, if_k, if_x, ro_i, ro_b, ro_s, ro_d, ro_f, ro_x, ou_i, ou_b, ou_s, ou_d, ou_f, ou_x, ar_sh, ar_ro, ar_sc, ar_ow, ar_fr, y_t0, y_t1, List.getElem?_cons_zero, List.getElem?_cons_succ, List.set_cons_zero, List.set_cons_succ, List.length_cons, List.length_nil, List.map_cons, List.map_nil, List.cons_append, List.nil_append, List.append_nil, Nat.zero_add, Nat.reduceAdd, Nat.reduceLT, List.replicate_succ, List.replicate_zero, Int.reduceLT, Int.reduceNeg, and_self, true_and, and_true, e1, e2, h0, decide_false, hw', if_true, Bool.false_eq_true, if_false, hrse]
  · have hw' := hw
    unfold wrong at hw'
    simp only [Bool.or_eq_true, not_or, Bool.not_eq_true] at hw'
    rw [if_neg hw]
    obtain ⟨l', v', x', y', hlp⟩ := turn_loop t (.sh (.tup (iD row))) row 0 0 0 0 none none
    have hf : Mi.exec c_turning (.forS (.tp [5, 6]) .enum [.var 1] l_turning_0) [some t, some (.sh (.tup (iD row))), some (.sh (.int 0)), some (.sh (.int 0)), some (.sh (.int 0)), none, none] =
        .nx [some t, some (.sh (.tup (iD row))), some (.sh (.int (turnF row))), some (.sh (.int l')), some (.sh (.int v')), x', y'] := by
      rw [e_for (xs := [.sh (.tup (iD row))]) (ts := eT 0 row) (by simp only [ca_frozen_frozen, ca_turning_frozen, ca__law_due__law_good, ca__law_fine__law_asked, ca__law_fine__law_whole, ca_law__law_cell, ca_law__law_digits, ca_law__law_due, ca_law__law_filled, ca_law__law_fine, okD_i, okD_b, okD_s, okT_sh, dR_some, tR_some, varR_t, y_var, y_int, y_bl, y_str, y_non, y_bin, y_neg, y_cmp, y_and, y_or, y_not, y_ite, y_tup, y_lst, y_ix, y_sl, y_call, y_bi, y_isi, y_comp, y_nil, y_cons, t_and, t_or, t_not, t_var, t_cst, t_cmp, t_call, t_bi, t_isi, t_ix, b_add, b_sub, b_mul, b_mod, b_div, b_10_18, n_i, c_eq, c_ne, c_lt, c_le, c_gt, c_ge, v_and, v_or, v_not, r_ite, tt_b, tt_and, tt_or, tt_not, k_i, k_b, k_s, k_d, k_t, k_f, i_int, i_bl, i_str, i_tup, i_lst, i_rolst, i_rotup, bi_int, bi_min, bi_max, l_sl, l_st, l_rl, l_rt, l_ow, l_fr, l_sc, m_sl, m_st, m_rl, m_rt, m_ow, m_fr, u_sl, u_st, u_rl, u_ow, u_fr, s_sl', s_st', s_rl', s_rt', s_ow', x_sl, x_st, x_ow, x_fr, x_rl, x_rt, x_rli, x_rti, x_sc, p_none, p_some, z_sl, z_ow, z_fr, z_rl, z_st, a_ff, a_fl, a_lf, a_ll, lst_0, srcR_ok, w_sl, w_st, w_rl, w_rt, w_ow, w_fr, w_sc, w_r1, w_r1n, e_nil, e_cons, q_nx, q_ret, q_brk, q_cnt, q_exc, e_asg, e_own, e_app, e_setI, e_ret, e_retN, e_if, e_rse, g_nm, a_i, a_b, a_s, a_d, a_f, a_exc, o_f, p_i, p_d, rt_i, rt_b, rt_s, rt_d, rt_f, rt_o, rt_x, if_k, if_x, ro_i, ro_b, ro_s, ro_d, ro_f, ro_x, ou_i, ou_b, ou_s, ou_d, ou_f, ou_x, ar_sh, ar_ro, ar_sc, ar_ow, ar_fr, y_t0, y_t1, List.getElem?_cons_zero, List.getElem?_cons_succ, List.set_cons_zero, List.set_cons_succ, List.length_cons, List.length_nil, List.map_cons, List.map_nil, List.cons_append, List.nil_append, List.append_nil, Nat.zero_add, Nat.reduceAdd, Nat.reduceLT, List.replicate_succ, List.replicate_zero, Int.reduceLT, Int.reduceNeg, and_self, true_and, and_true]) ?_ (eT_still 0 row) rfl]
      · exact hlp
      · have : srcV .enum [.sh (.tup (iD row))] = Res.of (enumT 0 ((iD row).map T.sh)) := rfl
        rw [this, enumT_iD]
        rfl
    simp only [e_cons, e_asg, hv]
    simp only [ca_frozen_frozen, ca_turning_frozen, ca__law_due__law_good, ca__law_fine__law_asked, ca__law_fine__law_whole, ca_law__law_cell, ca_law__law_digits, ca_law__law_due, ca_law__law_filled, ca_law__law_fine, okD_i, okD_b, okD_s, okT_sh, dR_some, tR_some, varR_t, y_var, y_int, y_bl, y_str, y_non, y_bin, y_neg, y_cmp, y_and, y_or, y_not, y_ite, y_tup, y_lst, y_ix, y_sl, y_call, y_bi, y_isi, y_comp, y_nil, y_cons, t_and, t_or, t_not, t_var, t_cst, t_cmp, t_call, t_bi, t_isi, t_ix, b_add, b_sub, b_mul, b_mod, b_div, b_10_18, n_i, c_eq, c_ne, c_lt, c_le, c_gt, c_ge, v_and, v_or, v_not, r_ite, tt_b, tt_and, tt_or, tt_not, k_i, k_b, k_s, k_d, k_t, k_f, i_int, i_bl, i_str, i_tup, i_lst, i_rolst, i_rotup, bi_int, bi_min, bi_max, l_sl, l_st, l_rl, l_rt, l_ow, l_fr, l_sc, m_sl, m_st, m_rl, m_rt, m_ow, m_fr, u_sl, u_st, u_rl, u_ow, u_fr, s_sl', s_st', s_rl', s_rt', s_ow', x_sl, x_st, x_ow, x_fr, x_rl, x_rt, x_rli, x_rti, x_sc, p_none, p_some, z_sl, z_ow, z_fr, z_rl, z_st, a_ff, a_fl, a_lf, a_ll, lst_0, srcR_ok, w_sl, w_st, w_rl, w_rt, w_ow, w_fr, w_sc, w_r1, w_r1n, e_nil, e_cons, q_nx, q_ret, q_brk, q_cnt, q_exc, e_asg, e_own, e_app, e_setI, e_ret, e_retN, e_if, e_rse, g_nm, a_i, a_b, a_s, a_d, a_f, a_exc, o_f, p_i, p_d, rt_i, rt_b, rt_s, rt_d, rt_f, rt_o, rt_x, if_k, if_x, ro_i, ro_b, ro_s, ro_d, ro_f, ro_x, ou_i, ou_b, ou_s, ou_d, ou_f, ou_x, ar_sh, ar_ro, ar_sc, ar_ow, ar_fr, y_t0, y_t1, List.getElem?_cons_zero, List.getElem?_cons_succ, List.set_cons_zero, List.set_cons_succ, List.length_cons, List.length_nil, List.map_cons, List.map_nil, List.cons_append, List.nil_append, List.append_nil, Nat.zero_add, Nat.reduceAdd, Nat.reduceLT, List.replicate_succ, List.replicate_zero, Int.reduceLT, Int.reduceNeg, and_self, true_and, and_true, e1, e2, hw'.1, hw'.2, Bool.false_eq_true, if_false, hf]
end Mi.K75

set_option Elab.async false
set_option linter.all false
set_option maxRecDepth 100000
set_option maxHeartbeats 4000000
namespace Mi.K75
open PySem PySem.Spec PyProof.Rows L2 Mi
def askL (row : List Int) : List Int := if wrong row then [] else [turnF row]
theorem asked_ok (row : List Int) (hl : row.length ≤ 1000) (t : T) (ht : t = .sh (.lst (iD row)) ∨ t = .sh (.tup (iD row)) ∨ t = .ro (.lst (iD row)) ∨ t = .ro (.tup (iD row))) : r__law_asked [t] = frL (iD (askL row)) := by
  have hst : t.still = true := by rcases ht with rfl | rfl | rfl | rfl <;> rfl
  have ha : Vl.arg (.bw t) = t := by rcases ht with rfl | rfl | rfl | rfl <;> rfl
  unfold r__law_asked askR askL
  show (if (!t.still) = true then Res.bad else match (r_turning [Vl.arg (.bw t)]).bnd Vl.out with
    | .ok x => (Res.of x.shr).bnd fun d => frL [d]
    | .exc k vs => if k = "NoReading" ∧ vs = [] then frL [] else .bad
    | .bad => .bad) = _
  rw [hst, ha, turning_ok row hl t ht]
  by_cases hw : wrong row = true
  · rw [if_pos hw, if_pos hw]
    simp only [Bool.not_true, Bool.false_eq_true, if_false, Res.bnd_exc]
    rw [if_pos ⟨trivial, trivial⟩]
    rfl
  · rw [if_neg hw, if_neg hw]
    rfl
theorem in_0 : cmR .isIn (okB false) (frL []) = okB false := rfl
theorem in_1 : cmR .isIn (okB false) (frL [.bl true]) = okB false := rfl
theorem fine_comp (told : List Int) (ρ : Env) (x : Option T) (h : ρ.length = 4) : compGo (cturn c__law_fine (.nm 4) [] (.call "_law_whole" [.var 4]) (ρ ++ [x])) ((iD told).map T.sh) = .ok (told.map fun _ => D.bl true) := by
  match ρ, h with
  | [a, b, c, d], _ =>
    have := compGo_fil (f := cturn c__law_fine (.nm 4) [] (.call "_law_whole" [.var 4]) [a, b, c, d, x]) (h := fun (i : Int) => T.sh (.int i)) (p := fun _ => true) (v := fun _ => D.bl true) (l := told) fun i hi => ?_
    · rw [iD_sh]
      show compGo (cturn c__law_fine (.nm 4) [] (.call "_law_whole" [.var 4]) [a, b, c, d, x]) _ = _
      rw [this, filter_true]
    · refine cturn_b (ρ1 := [a, b, c, d, some (.sh (.int i))]) rfl y_t0 (x := .sh (.bl true)) ?_
      simp only [ca_frozen_frozen, ca_turning_frozen, ca__law_due__law_good, ca__law_fine__law_asked, ca__law_fine__law_whole, ca_law__law_cell, ca_law__law_digits, ca_law__law_due, ca_law__law_filled, ca_law__law_fine, okD_i, okD_b, okD_s, okT_sh, dR_some, tR_some, varR_t, y_var, y_int, y_bl, y_str, y_non, y_bin, y_neg, y_cmp, y_and, y_or, y_not, y_ite, y_tup, y_lst, y_ix, y_sl, y_call, y_bi, y_isi, y_comp, y_nil, y_cons, t_and, t_or, t_not, t_var, t_cst, t_cmp, t_call, t_bi, t_isi, t_ix, b_add, b_sub, b_mul, b_mod, b_div, b_10_18, n_i, c_eq, c_ne, c_lt, c_le, c_gt, c_ge, v_and, v_or, v_not, r_ite, tt_b, tt_and, tt_or, tt_not, k_i, k_b, k_s, k_d, k_t, k_f, i_int, i_bl, i_str, i_tup, i_lst, i_rolst, i_rotup, bi_int, bi_min, bi_max, l_sl, l_st, l_rl, l_rt, l_ow, l_fr, l_sc, m_sl, m_st, m_rl, m_rt, m_ow, m_fr, u_sl, u_st, u_rl, u_ow, u_fr, s_sl', s_st', s_rl', s_rt', s_ow', x_sl, x_st, x_ow, x_fr, x_rl, x_rt, x_rli, x_rti, x_sc, p_none, p_some, z_sl, z_ow, z_fr, z_rl, z_st, a_ff, a_fl, a_lf, a_ll, lst_0, srcR_ok, w_sl, w_st, w_rl, w_rt, w_ow, w_fr, w_sc, w_r1, w_r1n, e_nil, e_cons, q_nx, q_ret, q_brk, q_cnt, q_exc, e_asg, e_own, e_app, e_setI, e_ret, e_retN, e_if, e_rse, g_nm, a_i, a_b, a_s, a_d, a_f, a_exc, o_f, p_i, p_d, rt_i, rt_b, rt_s, rt_d, rt_f, rt_o, rt_x, if_k, if_x, ro_i, ro_b, ro_s, ro_d, ro_f, ro_x, ou_i, ou_b, ou_s, ou_d, ou_f, ou_x, ar_sh, ar_ro, ar_sc, ar_ow, ar_fr, y_t0, y_t1, List.getElem?_cons_zero, List.getElem?_cons_succ, List.set_cons_zero, List.set_cons_succ, List.length_cons, List.length_nil, List.map_cons, List.map_nil, List.cons_append, List.nil_append, List.append_nil, Nat.zero_add, Nat.reduceAdd, Nat.reduceLT, List.replicate_succ, List.replicate_zero, Int.reduceLT, Int.reduceNeg, and_self, true_and, and_true, whole_ok]
      rfl
theorem cl_ner (a b : List Int) : cmR .ne (okT (.ro (.lst (iD a)))) (okD (.lst (iD b))) = okB (!decide (a = b)) := by
  show (Res.of ((eqR (.lst (iD a)) (.lst (iD b))).map fun b => !b)).bnd okB = _
  rw [eqR_ll]
  rfl
theorem fine_any (row due : List Int) (hl : row.length ≤ 1000) (t : T) (ht : t = .sh (.lst (iD row)) ∨ t = .ro (.lst (iD row))) : r__law_fine [t, .sh (.lst (iD due))] = okB (decide (askL row = due)) := by
  have hst : t.still = true := by rcases ht with rfl | rfl <;> rfl
  unfold r__law_fine
  rw [rd_eq (by
    have h2 : T.still (.sh (.lst (iD due))) = true := rfl
    simp only [List.all_cons, hst, h2, List.all_nil, Bool.and_self])]
  show resO (Mi.execs _ b__law_fine [some t, some (T.sh (.lst (iD due))), none, none, none]) = _
  unfold b__law_fine
  have h1 := asked_ok row hl _ (.inl rfl)
  have h3 := asked_ok row hl _ (.inr (.inr (.inl rfl)))
  have h2 := asked_ok row hl _ (.inr (.inl rfl))
  have hlen : (askL row).length ≤ 1 := by
    unfold askL
    split <;> simp
  have hc := comp_ok (fine_comp (askL row) [some t, some (T.sh (.lst (iD due))), some (T.sh (.lst (iD row))), some (T.sh (.lst (iD (askL row))))] none rfl) (by rw [List.length_map, iD_length]; omega)
  rw [List.cons_append, List.cons_append, List.cons_append, List.cons_append, List.nil_append] at hc
  have hin : cmR .isIn (okB false) (frL ((askL row).map fun _ => D.bl true)) = okB false := by
    unfold askL
    split
    · exact in_0
    · exact in_1
  have hsc := iD_scal row
  rcases ht with rfl | rfl
  · cases hd : decide (askL row = due) with
    | true => simp only [ca_frozen_frozen, ca_turning_frozen, ca__law_due__law_good, ca__law_fine__law_asked, ca__law_fine__law_whole, ca_law__law_cell, ca_law__law_digits, ca_law__law_due, ca_law__law_filled, ca_law__law_fine, okD_i, okD_b, okD_s, okT_sh, dR_some, tR_some, varR_t, y_var, y_int, y_bl, y_str, y_non, y_bin, y_neg, y_cmp, y_and, y_or, y_not, y_ite, y_tup, y_lst, y_ix, y_sl, y_call, y_bi, y_isi, y_comp, y_nil, y_cons, t_and, t_or, t_not, t_var, t_cst, t_cmp, t_call, t_bi, t_isi, t_ix, b_add, b_sub, b_mul, b_mod, b_div, b_10_18, n_i, c_eq, c_ne, c_lt, c_le, c_gt, c_ge, v_and, v_or, v_not, r_ite, tt_b, tt_and, tt_or, tt_not, k_i, k_b, k_s, k_d, k_t, k_f, i_int, i_bl, i_str, i_tup, i_lst, i_rolst, i_rotup, bi_int, bi_min, bi_max, l_sl, l_st, l_rl, l_rt, l_ow, l_fr, l_sc, m_sl, m_st, m_rl, m_rt, m_ow, m_fr, u_sl, u_st, u_rl, u_ow, u_fr, s_sl', s_st', s_rl', s_rt', s_ow', x_sl, x_st, x_ow, x_fr, x_rl, x_rt, x_rli, x_rti, x_sc, p_none, p_some, z_sl, z_ow, z_fr, z_rl, z_st, a_ff, a_fl, a_lf, a_ll, lst_0, srcR_ok, w_sl, w_st, w_rl, w_rt, w_ow, w_fr, w_sc, w_r1, w_r1n, e_nil, e_cons, q_nx, q_ret, q_brk, q_cnt, q_exc, e_asg, e_own, e_app, e_setI, e_ret, e_retN, e_if, e_rse, g_nm, a_i, a_b, a_s, a_d, a_f, a_exc, o_f, p_i, p_d, rt_i, rt_b, rt_s, rt_d, rt_f, rt_o, rt_x, if_k, if_x, ro_i, ro_b, ro_s, ro_d, ro_f, ro_x, ou_i, ou_b, ou_s, ou_d, ou_f, ou_x, ar_sh, ar_ro, ar_sc, ar_ow, ar_fr, y_t0, y_t1, List.getElem?_cons_zero, List.getElem?_cons_succ, List.set_cons_zero, List.set_cons_succ, List.length_cons, List.length_nil, List.map_cons, List.map_nil, List.cons_append, List.nil_append, List.append_nil, Nat.zero_add, Nat.reduceAdd, Nat.reduceLT, List.replicate_succ, List.replicate_zero, Int.reduceLT, Int.reduceNeg, and_self, true_and, and_true, h1, h2, cl_ne, cl_eqf, hc, hin, hd, decide_true, Bool.not_true, Bool.false_eq_true, if_false]
    | false => simp only [ca_frozen_frozen, ca_turning_frozen, ca__law_due__law_good, ca__law_fine__law_asked, ca__law_fine__law_whole, ca_law__law_cell, ca_law__law_digits, ca_law__law_due, ca_law__law_filled, ca_law__law_fine, okD_i, okD_b, okD_s, okT_sh, dR_some, tR_some, varR_t, y_var, y_int, y_bl, y_str, y_non, y_bin, y_neg, y_cmp, y_and, y_or, y_not, y_ite, y_tup, y_lst, y_ix, y_sl, y_call, y_bi, y_isi, y_comp, y_nil, y_cons, t_and, t_or, t_not, t_var, t_cst, t_cmp, t_call, t_bi, t_isi, t_ix, b_add, b_sub, b_mul, b_mod, b_div, b_10_18, n_i, c_eq, c_ne, c_lt, c_le, c_gt, c_ge, v_and, v_or, v_not, r_ite, tt_b, tt_and, tt_or, tt_not, k_i, k_b, k_s, k_d, k_t, k_f, i_int, i_bl, i_str, i_tup, i_lst, i_rolst, i_rotup, bi_int, bi_min, bi_max, l_sl, l_st, l_rl, l_rt, l_ow, l_fr, l_sc, m_sl, m_st, m_rl, m_rt, m_ow, m_fr, u_sl, u_st, u_rl, u_ow, u_fr, s_sl', s_st', s_rl', s_rt', s_ow', x_sl, x_st, x_ow, x_fr, x_rl, x_rt, x_rli, x_rti, x_sc, p_none, p_some, z_sl, z_ow, z_fr, z_rl, z_st, a_ff, a_fl, a_lf, a_ll, lst_0, srcR_ok, w_sl, w_st, w_rl, w_rt, w_ow, w_fr, w_sc, w_r1, w_r1n, e_nil, e_cons, q_nx, q_ret, q_brk, q_cnt, q_exc, e_asg, e_own, e_app, e_setI, e_ret, e_retN, e_if, e_rse, g_nm, a_i, a_b, a_s, a_d, a_f, a_exc, o_f, p_i, p_d, rt_i, rt_b, rt_s, rt_d, rt_f, rt_o, rt_x, if_k, if_x, ro_i, ro_b, ro_s, ro_d, ro_f, ro_x, ou_i, ou_b, ou_s, ou_d, ou_f, ou_x, ar_sh, ar_ro, ar_sc, ar_ow, ar_fr, y_t0, y_t1, List.getElem?_cons_zero, List.getElem?_cons_succ, List.set_cons_zero, List.set_cons_succ, List.length_cons, List.length_nil, List.map_cons, List.map_nil, List.cons_append, List.nil_append, List.append_nil, Nat.zero_add, Nat.reduceAdd, Nat.reduceLT, List.replicate_succ, List.replicate_zero, Int.reduceLT, Int.reduceNeg, and_self, true_and, and_true, h1, h2, cl_ne, cl_eqf, hc, hin, hd, decide_false, Bool.not_false, if_true]
  · cases hd : decide (askL row = due) with
    | true => simp only [ca_frozen_frozen, ca_turning_frozen, ca__law_due__law_good, ca__law_fine__law_asked, ca__law_fine__law_whole, ca_law__law_cell, ca_law__law_digits, ca_law__law_due, ca_law__law_filled, ca_law__law_fine, okD_i, okD_b, okD_s, okT_sh, dR_some, tR_some, varR_t, y_var, y_int, y_bl, y_str, y_non, y_bin, y_neg, y_cmp, y_and, y_or, y_not, y_ite, y_tup, y_lst, y_ix, y_sl, y_call, y_bi, y_isi, y_comp, y_nil, y_cons, t_and, t_or, t_not, t_var, t_cst, t_cmp, t_call, t_bi, t_isi, t_ix, b_add, b_sub, b_mul, b_mod, b_div, b_10_18, n_i, c_eq, c_ne, c_lt, c_le, c_gt, c_ge, v_and, v_or, v_not, r_ite, tt_b, tt_and, tt_or, tt_not, k_i, k_b, k_s, k_d, k_t, k_f, i_int, i_bl, i_str, i_tup, i_lst, i_rolst, i_rotup, bi_int, bi_min, bi_max, l_sl, l_st, l_rl, l_rt, l_ow, l_fr, l_sc, m_sl, m_st, m_rl, m_rt, m_ow, m_fr, u_sl, u_st, u_rl, u_ow, u_fr, s_sl', s_st', s_rl', s_rt', s_ow', x_sl, x_st, x_ow, x_fr, x_rl, x_rt, x_rli, x_rti, x_sc, p_none, p_some, z_sl, z_ow, z_fr, z_rl, z_st, a_ff, a_fl, a_lf, a_ll, lst_0, srcR_ok, w_sl, w_st, w_rl, w_rt, w_ow, w_fr, w_sc, w_r1, w_r1n, e_nil, e_cons, q_nx, q_ret, q_brk, q_cnt, q_exc, e_asg, e_own, e_app, e_setI, e_ret, e_retN, e_if, e_rse, g_nm, a_i, a_b, a_s, a_d, a_f, a_exc, o_f, p_i, p_d, rt_i, rt_b, rt_s, rt_d, rt_f, rt_o, rt_x, if_k, if_x, ro_i, ro_b, ro_s, ro_d, ro_f, ro_x, ou_i, ou_b, ou_s, ou_d, ou_f, ou_x, ar_sh, ar_ro, ar_sc, ar_ow, ar_fr, y_t0, y_t1, List.getElem?_cons_zero, List.getElem?_cons_succ, List.set_cons_zero, List.set_cons_succ, List.length_cons, List.length_nil, List.map_cons, List.map_nil, List.cons_append, List.nil_append, List.append_nil, Nat.zero_add, Nat.reduceAdd, Nat.reduceLT, List.replicate_succ, List.replicate_zero, Int.reduceLT, Int.reduceNeg, and_self, true_and, and_true, h3, h2, cl_ne, cl_ner, cl_eqf, hc, hin, hd, hsc, decide_true, Bool.not_true, Bool.false_eq_true, if_false]
    | false => simp only [ca_frozen_frozen, ca_turning_frozen, ca__law_due__law_good, ca__law_fine__law_asked, ca__law_fine__law_whole, ca_law__law_cell, ca_law__law_digits, ca_law__law_due, ca_law__law_filled, ca_law__law_fine, okD_i, okD_b, okD_s, okT_sh, dR_some, tR_some, varR_t, y_var, y_int, y_bl, y_str, y_non, y_bin, y_neg, y_cmp, y_and, y_or, y_not, y_ite, y_tup, y_lst, y_ix, y_sl, y_call, y_bi, y_isi, y_comp, y_nil, y_cons, t_and, t_or, t_not, t_var, t_cst, t_cmp, t_call, t_bi, t_isi, t_ix, b_add, b_sub, b_mul, b_mod, b_div, b_10_18, n_i, c_eq, c_ne, c_lt, c_le, c_gt, c_ge, v_and, v_or, v_not, r_ite, tt_b, tt_and, tt_or, tt_not, k_i, k_b, k_s, k_d, k_t, k_f, i_int, i_bl, i_str, i_tup, i_lst, i_rolst, i_rotup, bi_int, bi_min, bi_max, l_sl, l_st, l_rl, l_rt, l_ow, l_fr, l_sc, m_sl, m_st, m_rl, m_rt, m_ow, m_fr, u_sl, u_st, u_rl, u_ow, u_fr, s_sl', s_st', s_rl', s_rt', s_ow', x_sl, x_st, x_ow, x_fr, x_rl, x_rt, x_rli, x_rti, x_sc, p_none, p_some, z_sl, z_ow, z_fr, z_rl, z_st, a_ff, a_fl, a_lf, a_ll, lst_0, srcR_ok, w_sl, w_st, w_rl, w_rt, w_ow, w_fr, w_sc, w_r1, w_r1n, e_nil, e_cons, q_nx, q_ret, q_brk, q_cnt, q_exc, e_asg, e_own, e_app, e_setI, e_ret, e_retN, e_if, e_rse, g_nm, a_i, a_b, a_s, a_d, a_f, a_exc, o_f, p_i, p_d, rt_i, rt_b, rt_s, rt_d, rt_f, rt_o, rt_x, if_k, if_x, ro_i, ro_b, ro_s, ro_d, ro_f, ro_x, ou_i, ou_b, ou_s, ou_d, ou_f, ou_x, ar_sh, ar_ro, ar_sc, ar_ow, ar_fr, y_t0, y_t1, List.getElem?_cons_zero, List.getElem?_cons_succ, List.set_cons_zero, List.set_cons_succ, List.length_cons, List.length_nil, List.map_cons, List.map_nil, List.cons_append, List.nil_append, List.append_nil, Nat.zero_add, Nat.reduceAdd, Nat.reduceLT, List.replicate_succ, List.replicate_zero, Int.reduceLT, Int.reduceNeg, and_self, true_and, and_true, h3, h2, cl_ne, cl_ner, cl_eqf, hc, hin, hd, hsc, decide_false, Bool.not_false, if_true]
theorem fine_ok (row due : List Int) (hl : row.length ≤ 1000) : r__law_fine [.sh (.lst (iD row)), .sh (.lst (iD due))] = okB (decide (askL row = due)) := fine_any row due hl _ (.inl rfl)
theorem fine_ro (row due : List Int) (hl : row.length ≤ 1000) : r__law_fine [.ro (.lst (iD row)), .sh (.lst (iD due))] = okB (decide (askL row = due)) := fine_any row due hl _ (.inr rfl)
end Mi.K75

set_option Elab.async false
set_option linter.all false
set_option maxRecDepth 100000
set_option maxHeartbeats 4000000
namespace Mi
open PySem PySem.Spec PyProof.Rows L2
theorem iD_set (row : List Int) (k : Nat) (v : Int) : (iD row).set k (.int v) = iD (row.set k v) := by
  unfold iD
  rw [List.map_set]
theorem ixN_nat {n k : Nat} (h : k < n) : ixN n (k : Int) = some k := by
  unfold ixN
  rw [if_pos (by omega), if_pos (by omega), Int.toNat_natCast]
theorem sum_set : ∀ (row : List Int) (k : Nat) (v : Int) (h : k < row.length), (row.set k v).sum = row.sum - row[k] + v
  | [], _, _, h => by cases h
  | x :: row, 0, v, _ => by
    simp only [List.set_cons_zero, List.sum_cons, List.getElem_cons_zero]
    omega
  | x :: row, k + 1, v, h => by
    have := sum_set row k v (by simpa using h)
    simp only [List.set_cons_succ, List.sum_cons, List.getElem_cons_succ, this]
    omega
theorem sum_zero : ∀ (row : List Int), (∀ x ∈ row, x = 0) → row.sum = 0
  | [], _ => rfl
  | x :: row, h => by
    rw [List.sum_cons, h x List.mem_cons_self, sum_zero row fun y hy => h y (List.mem_cons_of_mem _ hy)]
    rfl
theorem visit {p i n : Nat} (hi : i < n) : ∃ t, t < n ∧ (p + t) % n = i := by
  refine ⟨(i + (n - p % n)) % n, Nat.mod_lt _ (by omega), ?_⟩
  have hp : p % n < n := Nat.mod_lt _ (by omega)
  have e : p % n + (i + (n - p % n)) = i + n := by omega
  rw [Nat.add_mod_mod, ← Nat.mod_add_mod, e, Nat.add_mod_right, Nat.mod_eq_of_lt hi]
end Mi
namespace Mi.K75
open PySem PySem.Spec PyProof.Rows L2 Mi
def nonneg (row : List Int) : Prop := ∀ x ∈ row, 0 ≤ x
/-- what holds of the row ahead of a turn -/
structure FillInv (p n : Nat) (row : List Int) (miss : Int) (t : Nat) : Prop where
  len : row.length = n
  pos : nonneg row
  sum : miss = (n : Int) - 1 - row.sum
  neg : miss < 0 → ∀ t', t' < t → t' < n → row[(p + t') % n]? = some 0
  top : 0 < miss → t ≤ n
theorem fill_step {p n : Nat} {row : List Int} {miss : Int} {t : Nat} {s : Int} (h : FillInv p n row miss t) (hk : (p + t) % n < row.length) (hn : 0 < n)
    (hs : (miss < 0 ∧ s = 0 - (if 0 - miss < row[(p + t) % n] then 0 - miss else row[(p + t) % n])) ∨ (miss = 0 ∧ s = 0) ∨ (0 < miss ∧ (s = miss ∨ (s = 1 ∧ t < n)))) :
    FillInv p n (row.set ((p + t) % n) (row[(p + t) % n] + s)) (miss - s) (t + 1) := by
  have h0 : 0 ≤ row[(p + t) % n] := h.pos _ (List.getElem_mem hk)
  have hv : 0 ≤ row[(p + t) % n] + s := by
    rcases hs with ⟨h1, h2⟩ | ⟨h1, h2⟩ | ⟨h1, h2 | h2⟩
    · split at h2 <;> omega
    · omega
    · omega
    · omega
  refine ⟨by rw [List.length_set]; exact h.len, fun x hx => ?_, ?_, fun hm t' ht' hn' => ?_, fun hm => ?_⟩
  · rcases List.mem_or_eq_of_mem_set hx with hx | rfl
    · exact h.pos x hx
    · exact hv
  · rw [sum_set _ _ _ hk, h.sum]
    omega
  · have hm0 : miss < 0 := by
      rcases hs with ⟨h1, h2⟩ | ⟨h1, h2⟩ | ⟨h1, h2 | h2⟩ <;> omega
    have hz : row[(p + t) % n] + s = 0 := by
      rcases hs with ⟨h1, h2⟩ | ⟨h1, h2⟩ | ⟨h1, h2 | h2⟩
      · split at h2 <;> omega
      · omega
      · omega
      · omega
    by_cases he : (p + t) % n = (p + t') % n
    · rw [← he, List.getElem?_set_self hk, hz]
    · rw [List.getElem?_set_ne he]
      by_cases htt : t' = t
      · subst htt
        exact absurd rfl he
      · exact h.neg hm0 t' (by omega) hn'
  · rcases hs with ⟨h1, h2⟩ | ⟨h1, h2⟩ | ⟨h1, h2 | h2⟩
    · split at h2 <;> omega
    · omega
    · omega
    · omega
theorem fill_end {p n : Nat} {row : List Int} {miss : Int} (h : FillInv p n row miss (2 * n)) (hn : 0 < n) : row.sum = (n : Int) - 1 := by
  have hm : miss = 0 := by
    rcases Int.lt_trichotomy miss 0 with hm | hm | hm
    · have hz : ∀ x ∈ row, x = 0 := fun x hx => by
        obtain ⟨i, hi, rfl⟩ := List.mem_iff_getElem.mp hx
        obtain ⟨t, ht, e⟩ := visit (p := p) (n := n) (i := i) (by rw [← h.len]; exact hi)
        have := h.neg hm t (by omega) ht
        rw [e, List.getElem?_eq_getElem hi] at this
        exact Option.some.inj this
      have := sum_zero row hz
      have := h.sum
      omega
    · exact hm
    · have := h.top hm
      omega
  have := h.sum
  omega
def FillEnv (raw : List Int) (p : Nat) (sp : Int) (ts : List T) (ρ : Env) : Prop := ∃ t : Nat, (ts = ((List.range' t (2 * raw.length - t)).map fun (i : Nat) => T.sh (.int i)) ∧ t ≤ 2 * raw.length) ∧ ∃ (row : List Int) (miss : Int) (x y z : Option T), FillInv p raw.length row miss t ∧
      ρ = [some (.sh (.lst (iD raw))), some (.sh (.int p)), some (.sh (.int sp)), some (.lst ((iD row).map T.sh)), some (.sh (.int raw.length)), some (.sh (.int miss)), x, y, z]
theorem filled_ok (raw : List Int) (p : Nat) (sp : Int) (hn : 0 < raw.length) (hl : raw.length ≤ 1000) (hp : nonneg raw) : ∃ row : List Int, r__law_filled [.sh (.lst (iD raw)), .sh (.int p), .sh (.int sp)] = frL (iD row) ∧ row.length = raw.length ∧ nonneg row ∧ row.sum = (raw.length : Int) - 1 := by
  unfold r__law_filled
  rw [rd_eq rfl]
  show ∃ row, resO (Mi.execs _ b__law_filled [some (T.sh (.lst (iD raw))), some (T.sh (.int p)), some (T.sh (.int sp)), none, none, none, none, none, none]) = _ ∧ _
  unfold b__law_filled
  obtain ⟨ρ', h1, t, ⟨ht, ht2⟩, row, miss, x, y, z, hinv, rfl⟩ := for_nx (g := .nm 6) (body := Mi.execs c__law_filled l__law_filled_0)
    (FillEnv raw p sp)
    (fun tt ts ρ ⟨t, ⟨e, ht⟩, row, miss, x, y, z, hi, hρ⟩ => by
      by_cases hlt : t < 2 * raw.length
      · have e1 : List.range' t (2 * raw.length - t) = t :: List.range' (t + 1) (2 * raw.length - (t + 1)) := by
          have : 2 * raw.length - t = (2 * raw.length - (t + 1)) + 1 := by omega
          rw [this, List.range'_succ]
        rw [e1, List.map_cons] at e
        cases e
        subst hρ
        have hk : (p + t) % raw.length < row.length := by
          rw [hi.len]
          exact Nat.mod_lt _ hn
        have hkI : ((p : Int) + (t : Int)) % (raw.length : Int) = (((p + t) % raw.length : Nat) : Int) := by
          rw [Int.natCast_emod, Int.natCast_add]
        have hn' : (0 : Int) < (raw.length : Int) := by omega
        have hix : ixN (iD row).length (((p + t) % raw.length : Nat) : Int) = some ((p + t) % raw.length) := ixN_nat (by rw [iD_length]; exact hk)
        have hat := atN row _ hk
        have key : ∀ s : Int, Mi.execs c__law_filled l__law_filled_0 [some (.sh (.lst (iD raw))), some (.sh (.int p)), some (.sh (.int sp)), some (.lst ((iD row).map T.sh)), some (.sh (.int raw.length)), some (.sh (.int miss)), some (.sh (.int t)), y, z] =
              .nx [some (.sh (.lst (iD raw))), some (.sh (.int p)), some (.sh (.int sp)), some (.lst ((iD (row.set ((p + t) % raw.length) (row[(p + t) % raw.length] + s))).map T.sh)), some (.sh (.int raw.length)), some (.sh (.int (miss - s))), some (.sh (.int t)), some (.sh (.int ((p + t) % raw.length : Nat))), some (.sh (.int s))] →
              ((miss < 0 ∧ s = 0 - (if 0 - miss < row[(p + t) % raw.length] then 0 - miss else row[(p + t) % raw.length])) ∨ (miss = 0 ∧ s = 0) ∨ (0 < miss ∧ (s = miss ∨ (s = 1 ∧ t < raw.length)))) → ∃ ρ1 ρ2, tgV (.nm 6) (T.sh (.int t)) [some (.sh (.lst (iD raw))), some (.sh (.int p)), some (.sh (.int sp)), some (.lst ((iD row).map T.sh)), some (.sh (.int raw.length)), some (.sh (.int miss)), x, y, z] = some ρ1 ∧
              Mi.execs c__law_filled l__law_filled_0 ρ1 = .nx ρ2 ∧ FillEnv raw p sp ((List.range' (t + 1) (2 * raw.length - (t + 1))).map fun (i : Nat) => T.sh (.int i)) ρ2 := fun s hs hc => ⟨_, _, rfl, hs, t + 1, ⟨rfl, hlt⟩, _, _, _, _, _, fill_step hi hk hn hc, rfl⟩
        rcases Int.lt_trichotomy miss 0 with hm | hm | hm
        · have d1 : decide (miss < 0) = true := by simpa using hm
          have d2 : decide (0 < miss) = false := by simp; omega
          refine key _ ?_ (.inl ⟨hm, rfl⟩)
          unfold l__law_filled_0
          simp only [ca_frozen_frozen, ca_turning_frozen, ca__law_due__law_good, ca__law_fine__law_asked, ca__law_fine__law_whole, ca_law__law_cell, ca_law__law_digits, ca_law__law_due, ca_law__law_filled, ca_law__law_fine, okD_i, okD_b, okD_s, okT_sh, dR_some, tR_some, varR_t, y_var, y_int, y_bl, y_str, y_non, y_bin, y_neg, y_cmp, y_and, y_or, y_not, y_ite, y_tup, y_lst, y_ix, y_sl, y_call, y_bi, y_isi, y_comp, y_nil, y_cons, t_and, t_or, t_not, t_var, t_cst, t_cmp, t_call, t_bi, t_isi, t_ix, b_add, b_sub, b_mul, b_mod, b_div, b_10_18, n_i, c_eq, c_ne, c_lt, c_le, c_gt, c_ge, v_and, v_or, v_not, r_ite, tt_b, tt_and, tt_or, tt_not, k_i, k_b, k_s, k_d, k_t, k_f, i_int, i_bl, i_str, i_tup, i_lst, i_rolst, i_rotup, bi_int, bi_min, bi_max, l_sl, l_st, l_rl, l_rt, l_ow, l_fr, l_sc, m_sl, m_st, m_rl, m_rt, m_ow, m_fr, u_sl, u_st, u_rl, u_ow, u_fr, s_sl', s_st', s_rl', s_rt', s_ow', x_sl, x_st, x_ow, x_fr, x_rl, x_rt, x_rli, x_rti, x_sc, p_none, p_some, z_sl, z_ow, z_fr, z_rl, z_st, a_ff, a_fl, a_lf, a_ll, lst_0, srcR_ok, w_sl, w_st, w_rl, w_rt, w_ow, w_fr, w_sc, w_r1, w_r1n, e_nil, e_cons, q_nx, q_ret, q_brk, q_cnt, q_exc, e_asg, e_own, e_app, e_setI, e_ret, e_retN, e_if, e_rse, g_nm, a_i, a_b, a_s, a_d, a_f, a_exc, o_f, p_i, p_d, rt_i, rt_b, rt_s, rt_d, rt_f, rt_o, rt_x, if_k, if_x, ro_i, ro_b, ro_s, ro_d, ro_f, ro_x, ou_i, ou_b, ou_s, ou_d, ou_f, ou_x, ar_sh, ar_ro, ar_sc, ar_ow, ar_fr, y_t0, y_t1, List.getElem?_cons_zero, List.getElem?_cons_succ, List.set_cons_zero, List.set_cons_succ, List.length_cons, List.length_nil, List.map_cons, List.map_nil, List.cons_append, List.nil_append, List.append_nil, Nat.zero_add, Nat.reduceAdd, Nat.reduceLT, List.replicate_succ, List.replicate_zero, Int.reduceLT, Int.reduceNeg, and_self, true_and, and_true, hkI, hn', hat, d1, d2, if_true, Bool.false_eq_true, if_false, st_i _ _ _ _ hix, iD_set]
        · have d1 : decide (miss < 0) = false := by simp; omega
          have d2 : decide (0 < miss) = false := by simp; omega
          refine key 0 ?_ (.inr (.inl ⟨hm, rfl⟩))
          unfold l__law_filled_0
          simp only [ca_frozen_frozen, ca_turning_frozen, ca__law_due__law_good, ca__law_fine__law_asked, ca__law_fine__law_whole, ca_law__law_cell, ca_law__law_digits, ca_law__law_due, ca_law__law_filled, ca_law__law_fine, okD_i, okD_b, okD_s, okT_sh, dR_some, tR_some, varR_t, y_var, y_int, y_bl, y_str, y_non, y_bin, y_neg, y_cmp, y_and, y_or, y_not, y_ite, y_tup, y_lst, y_ix, y_sl, y_call, y_bi, y_isi, y_comp, y_nil, y_cons, t_and, t_or, t_not, t_var, t_cst, t_cmp, t_call, t_bi, t_isi, t_ix, b_add, b_sub, b_mul, b_mod, b_div, b_10_18, n_i, c_eq, c_ne, c_lt, c_le, c_gt, c_ge, v_and, v_or, v_not, r_ite, tt_b, tt_and, tt_or, tt_not, k_i, k_b, k_s, k_d, k_t, k_f, i_int, i_bl, i_str, i_tup, i_lst, i_rolst, i_rotup, bi_int, bi_min, bi_max, l_sl, l_st, l_rl, l_rt, l_ow, l_fr, l_sc, m_sl, m_st, m_rl, m_rt, m_ow, m_fr, u_sl, u_st, u_rl, u_ow, u_fr, s_sl', s_st', s_rl', s_rt', s_ow', x_sl, x_st, x_ow, x_fr, x_rl, x_rt, x_rli, x_rti, x_sc, p_none, p_some, z_sl, z_ow, z_fr, z_rl, z_st, a_ff, a_fl, a_lf, a_ll, lst_0, srcR_ok, w_sl, w_st, w_rl, w_rt, w_ow, w_fr, w_sc, w_r1, w_r1n, e_nil, e_cons, q_nx, q_ret, q_brk, q_cnt, q_exc, e_asg, e_own, e_app, e_setI, e_ret, e_retN, e_if, e_rse, g_nm, a_i, a_b, a_s, a_d, a_f, a_exc, o_f, p_i, p_d, rt_i, rt_b, rt_s, rt_d, rt_f, rt_o, rt_x, if_k, if_x, ro_i, ro_b, ro_s, ro_d, ro_f, ro_x, ou_i, ou_b, ou_s, ou_d, ou_f, ou_x, ar_sh, ar_ro, ar_sc, ar_ow, ar_fr, y_t0, y_t1, List.getElem?_cons_zero, List.getElem?_cons_succ, List.set_cons_zero, List.set_cons_succ, List.length_cons, List.length_nil, List.map_cons, List.map_nil, List.cons_append, List.nil_append, List.append_nil, Nat.zero_add, Nat.reduceAdd, Nat.reduceLT, List.replicate_succ, List.replicate_zero, Int.reduceLT, Int.reduceNeg, and_self, true_and, and_true, hkI, hn', hat, d1, d2, if_true, Bool.false_eq_true, if_false, st_i _ _ _ _ hix, iD_set]
        · have d1 : decide (miss < 0) = false := by simp; omega
          have d2 : decide (0 < miss) = true := by simpa using hm
          by_cases hq : sp = 1 ∧ t < raw.length
          · have d3 : decide (sp = 1) = true := by simpa using hq.1
            have d4 : decide ((t : Int) < (raw.length : Int)) = true := by simpa using hq.2
            refine key 1 ?_ (.inr (.inr ⟨hm, .inr ⟨rfl, hq.2⟩⟩))
            unfold l__law_filled_0
            simp only [ca_frozen_frozen, ca_turning_frozen, ca__law_due__law_good, ca__law_fine__law_asked, ca__law_fine__law_whole, ca_law__law_cell, ca_law__law_digits, ca_law__law_due, ca_law__law_filled, ca_law__law_fine, okD_i, okD_b, okD_s, okT_sh, dR_some, tR_some, varR_t, y_var, y_int, y_bl, y_str, y_non, y_bin, y_neg, y_cmp, y_and, y_or, y_not, y_ite, y_tup, y_lst, y_ix, y_sl, y_call, y_bi, y_isi, y_comp, y_nil, y_cons, t_and, t_or, t_not, t_var, t_cst, t_cmp, t_call, t_bi, t_isi, t_ix, b_add, b_sub, b_mul, b_mod, b_div, b_10_18, n_i, c_eq, c_ne, c_lt, c_le, c_gt, c_ge, v_and, v_or, v_not, r_ite, tt_b, tt_and, tt_or, tt_not, k_i, k_b, k_s, k_d, k_t, k_f, i_int, i_bl, i_str, i_tup, i_lst, i_rolst, i_rotup, bi_int, bi_min, bi_max, l_sl, l_st, l_rl, l_rt, l_ow, l_fr, l_sc, m_sl, m_st, m_rl, m_rt, m_ow, m_fr, u_sl, u_st, u_rl, u_ow, u_fr, s_sl', s_st', s_rl', s_rt', s_ow', x_sl, x_st, x_ow, x_fr, x_rl, x_rt, x_rli, x_rti, x_sc, p_none, p_some, z_sl, z_ow, z_fr, z_rl, z_st, a_ff, a_fl, a_lf, a_ll, lst_0, srcR_ok, w_sl, w_st, w_rl, w_rt, w_ow, w_fr, w_sc, w_r1, w_r1n, e_nil, e_cons, q_nx, q_ret, q_brk, q_cnt, q_exc, e_asg, e_own, e_app, e_setI, e_ret, e_retN, e_if, e_rse, g_nm, a_i, a_b, a_s, a_d, a_f, a_exc, o_f, p_i, p_d, rt_i, rt_b, rt_s, rt_d, rt_f, rt_o, rt_x, if_k, if_x, ro_i, ro_b, ro_s, ro_d, ro_f, ro_x, ou_i, ou_b, ou_s, ou_d, ou_f, ou_x, ar_sh, ar_ro, ar_sc, ar_ow, ar_fr, y_t0, y_t1, List.getElem?_cons_zero, List.getElem?_cons_succ, List.set_cons_zero, List.set_cons_succ, List.length_cons, List.length_nil, List.map_cons, List.map_nil, List.cons_append, List.nil_append, List.append_nil, Nat.zero_add, Nat.reduceAdd, Nat.reduceLT, List.replicate_succ, List.replicate_zero, Int.reduceLT, Int.reduceNeg, and_self, true_and, and_true, hkI, hn', hat, d1, d2, d3, d4, if_true, Bool.false_eq_true, if_false, st_i _ _ _ _ hix, iD_set]
          · refine key miss ?_ (.inr (.inr ⟨hm, .inl rfl⟩))
            unfold l__law_filled_0
            by_cases d3 : sp = 1
            · have d4 : decide ((t : Int) < (raw.length : Int)) = false := by
                have : ¬ t < raw.length := fun z => hq ⟨d3, z⟩
                simpa using this
              have d3 : decide (sp = 1) = true := by simpa using d3
              simp only [ca_frozen_frozen, ca_turning_frozen, ca__law_due__law_good, ca__law_fine__law_asked, ca__law_fine__law_whole, ca_law__law_cell, ca_law__law_digits, ca_law__law_due, ca_law__law_filled, ca_law__law_fine, okD_i, okD_b, okD_s, okT_sh, dR_some, tR_some, varR_t, y_var, y_int, y_bl, y_str, y_non, y_bin, y_neg, y_cmp, y_and, y_or, y_not, y_ite, y_tup, y_lst, y_ix, y_sl, y_call, y_bi, y_isi, y_comp, y_nil, y_cons, t_and, t_or, t_not, t_var, t_cst, t_cmp, t_call, t_bi, t_isi, t_ix, b_add, b_sub, b_mul, b_mod, b_div, b_10_18, n_i, c_eq, c_ne, c_lt, c_le, c_gt, c_ge, v_and, v_or, v_not, r_ite, tt_b, tt_and, tt_or, tt_not, k_i, k_b, k_s, k_d, k_t, k_f, i_int, i_bl, i_str, i_tup, i_lst, i_rolst, i_rotup, bi_int, bi_min, bi_max, l_sl, l_st, l_rl, l_rt, l_ow, l_fr, l_sc, m_sl, m_st, m_rl, m_rt, m_ow, m_fr, u_sl, u_st, u_rl, u_ow, u_fr, s_sl', s_st', s_rl', s_rt', s_ow', x_sl, x_st, x_ow, x_fr, x_rl, x_rt, x_rli, x_rti, x_sc, p_none, p_some, z_sl, z_ow, z_fr, z_rl, z_st, a_ff, a_fl, a_lf, a_ll, lst_0, srcR_ok, w_sl, w_st, w_rl, w_rt, w_ow, w_fr, w_sc, w_r1, w_r1n, e_nil, e_cons, q_nx, q_ret, q_brk, q_cnt, q_exc, e_asg, e_own, e_app, e_setI, e_ret, e_retN, e_if, e_rse, g_nm, a_i, a_b, a_s, a_d, a_f, a_exc, o_f, p_i, p_d, rt_i, rt_b, rt_s, rt_d, rt_f, rt_o, rt_x, if_k, if_x, ro_i, ro_b, ro_s, ro_d, ro_f, ro_x, ou_i, ou_b, ou_s, ou_d, ou_f, ou_x, ar_sh, ar_ro, ar_sc, ar_ow, ar_fr, y_t0, y_t1, List.getElem?_cons_zero, List.getElem?_cons_succ, List.set_cons_zero, List.set_cons_succ, List.length_cons, List.length_nil, List.map_cons, List.map_nil, List.cons_append, List.nil_append, List.append_nil, Nat.zero_add, Nat.reduceAdd, Nat.reduceLT, List.replicate_succ, List.replicate_zero, Int.reduceLT, Int.reduceNeg, and_self, true_and, and_true, hkI, hn', hat, d1, d2, d3, d4, if_true, Bool.false_eq_true, if_false, st_i _ _ _ _ hix, iD_set]
            · have d3 : decide (sp = 1) = false := by simpa using d3
              simp only [ca_frozen_frozen, ca_turning_frozen, ca__law_due__law_good, ca__law_fine__law_asked, ca__law_fine__law_whole, ca_law__law_cell, ca_law__law_digits, ca_law__law_due, ca_law__law_filled, ca_law__law_fine, okD_i, okD_b, okD_s, okT_sh, dR_some, tR_some, varR_t, y_var, y_int, y_bl, y_str, y_non, y_bin, y_neg, y_cmp, y_and, y_or, y_not, y_ite, y_tup, y_lst, y_ix, y_sl, y_call, y_bi, y_isi, y_comp, y_nil, y_cons, t_and, t_or, t_not, t_var, t_cst, t_cmp, t_call, t_bi, t_isi, t_ix, b_add, b_sub, b_mul, b_mod, b_div, b_10_18, n_i, c_eq, c_ne, c_lt, c_le, c_gt, c_ge, v_and, v_or, v_not, r_ite, tt_b, tt_and, tt_or, tt_not, k_i, k_b, k_s, k_d, k_t, k_f, i_int, i_bl, i_str, i_tup, i_lst, i_rolst, i_rotup, bi_int, bi_min, bi_max, l_sl, l_st, l_rl, l_rt, l_ow, l_fr, l_sc, m_sl, m_st, m_rl, m_rt, m_ow, m_fr, u_sl, u_st, u_rl, u_ow, u_fr, s_sl', s_st', s_rl', s_rt', s_ow', x_sl, x_st, x_ow, x_fr, x_rl, x_rt, x_rli, x_rti, x_sc, p_none, p_some, z_sl, z_ow, z_fr, z_rl, z_st, a_ff, a_fl, a_lf, a_ll, lst_0, srcR_ok, w_sl, w_st, w_rl, w_rt, w_ow, w_fr, w_sc, w_r1, w_r1n, e_nil, e_cons, q_nx, q_ret, q_brk, q_cnt, q_exc, e_asg, e_own, e_app, e_setI, e_ret, e_retN, e_if, e_rse, g_nm, a_i, a_b, a_s, a_d, a_f, a_exc, o_f, p_i, p_d, rt_i, rt_b, rt_s, rt_d, rt_f, rt_o, rt_x, if_k, if_x, ro_i, ro_b, ro_s, ro_d, ro_f, ro_x, ou_i, ou_b, ou_s, ou_d, ou_f, ou_x, ar_sh, ar_ro, ar_sc, ar_ow, ar_fr, y_t0, y_t1, List.getElem?_cons_zero, List.getElem?_cons_succ, List.set_cons_zero, List.set_cons_succ, List.length_cons, List.length_nil, List.map_cons, List.map_nil, List.cons_append, List.nil_append, List.append_nil, Nat.zero_add, Nat.reduceAdd, Nat.reduceLT, List.replicate_succ, List.replicate_zero, Int.reduceLT, Int.reduceNeg, and_self, true_and, and_true, hkI, hn', hat, d1, d2, d3, if_true, Bool.false_eq_true, if_false, st_i _ _ _ _ hix, iD_set]
      · have : 2 * raw.length - t = 0 := by omega
        rw [this] at e
        cases e)
    ((List.range (2 * raw.length)).map fun (i : Nat) => T.sh (.int i)) [some (.sh (.lst (iD raw))), some (.sh (.int p)), some (.sh (.int sp)), some (.lst ((iD raw).map T.sh)), some (.sh (.int raw.length)), some (.sh (.int ((raw.length : Int) - 1 - raw.sum))), none, none, none]
    ⟨0, ⟨by rw [List.range_eq_range']; simp, Nat.zero_le _⟩, raw, _, none, none, none, ⟨rfl, hp, rfl, fun _ t' z => absurd z (Nat.not_lt_zero _), fun _ => Nat.zero_le _⟩, rfl⟩
  have ht3 : t = 2 * raw.length := by
    have := congrArg List.length ht
    simp at this
    omega
  subst ht3
  refine ⟨row, ?_, hinv.len, hinv.pos, fill_end hinv hn⟩
  have h2n : (2 : Int) * (raw.length : Int) = ((2 * raw.length : Nat) : Int) := by omega
  have hf : Mi.exec c__law_filled (.forS (.nm 6) .rng1 [.bin .mul (.cst (.int 2)) (.var 4)] l__law_filled_0) [some (.sh (.lst (iD raw))), some (.sh (.int p)), some (.sh (.int sp)), some (.lst ((iD raw).map T.sh)), some (.sh (.int raw.length)), some (.sh (.int ((raw.length : Int) - 1 - raw.sum))), none, none, none] =
      .nx [some (.sh (.lst (iD raw))), some (.sh (.int p)), some (.sh (.int sp)), some (.lst ((iD row).map T.sh)), some (.sh (.int raw.length)), some (.sh (.int miss)), x, y, z] := by
    have hm : binR .mul (okI 2) (okI (raw.length : Int)) = okI ((2 * raw.length : Nat) : Int) := by
      rw [← h2n]
      exact b_mull _ _ (by omega)
    rw [e_for (xs := [.sh (.int ((2 * raw.length : Nat) : Int))]) (ts := (List.range (2 * raw.length)).map fun (i : Nat) => T.sh (.int i)) (by simp only [ca_frozen_frozen, ca_turning_frozen, ca__law_due__law_good, ca__law_fine__law_asked, ca__law_fine__law_whole, ca_law__law_cell, ca_law__law_digits, ca_law__law_due, ca_law__law_filled, ca_law__law_fine, okD_i, okD_b, okD_s, okT_sh, dR_some, tR_some, varR_t, y_var, y_int, y_bl, y_str, y_non, y_bin, y_neg, y_cmp, y_and, y_or, y_not, y_ite, y_tup, y_lst, y_ix, y_sl, y_call, y_bi, y_isi, y_comp, y_nil, y_cons, t_and, t_or, t_not, t_var, t_cst, t_cmp, t_call, t_bi, t_isi, t_ix, b_add, b_sub, b_mul, b_mod, b_div, b_10_18, n_i, c_eq, c_ne, c_lt, c_le, c_gt, c_ge, v_and, v_or, v_not, r_ite, tt_b, tt_and, tt_or, tt_not, k_i, k_b, k_s, k_d, k_t, k_f, i_int, i_bl, i_str, i_tup, i_lst, i_rolst, i_rotup, bi_int, bi_min, bi_max, l_sl, l_st, l_rl, l_rt, l_ow, l_fr, l_sc, m_sl, m_st, m_rl, m_rt, m_ow, m_fr, u_sl, u_st, u_rl, u_ow, u_fr, s_sl', s_st', s_rl', s_rt', s_ow', x_sl, x_st, x_ow, x_fr, x_rl, x_rt, x_rli, x_rti, x_sc, p_none, p_some, z_sl, z_ow, z_fr, z_rl, z_st, a_ff, a_fl, a_lf, a_ll, lst_0, srcR_ok, w_sl, w_st, w_rl, w_rt, w_ow, w_fr, w_sc, w_r1, w_r1n, e_nil, e_cons, q_nx, q_ret, q_brk, q_cnt, q_exc, e_asg, e_own, e_app, e_setI, e_ret, e_retN, e_if, e_rse, g_nm, a_i, a_b, a_s, a_d, a_f, a_exc, o_f, p_i, p_d, rt_i, rt_b, rt_s, rt_d, rt_f, rt_o, rt_x, if_k, if_x, ro_i, ro_b, ro_s, ro_d, ro_f, ro_x, ou_i, ou_b, ou_s, ou_d, ou_f, ou_x, ar_sh, ar_ro, ar_sc, ar_ow, ar_fr, y_t0, y_t1, List.getElem?_cons_zero, List.getElem?_cons_succ, List.set_cons_zero, List.set_cons_succ, List.length_cons, List.length_nil, List.map_cons, List.map_nil, List.cons_append, List.nil_append, List.append_nil, Nat.zero_add, Nat.reduceAdd, Nat.reduceLT, List.replicate_succ, List.replicate_zero, Int.reduceLT, Int.reduceNeg, and_self, true_and, and_true, hm]) (w_r1 _ (by omega)) (by simp [T.still]) rfl]
    exact h1
  simp only [ca_frozen_frozen, ca_turning_frozen, ca__law_due__law_good, ca__law_fine__law_asked, ca__law_fine__law_whole, ca_law__law_cell, ca_law__law_digits, ca_law__law_due, ca_law__law_filled, ca_law__law_fine, okD_i, okD_b, okD_s, okT_sh, dR_some, tR_some, varR_t, y_var, y_int, y_bl, y_str, y_non, y_bin, y_neg, y_cmp, y_and, y_or, y_not, y_ite, y_tup, y_lst, y_ix, y_sl, y_call, y_bi, y_isi, y_comp, y_nil, y_cons, t_and, t_or, t_not, t_var, t_cst, t_cmp, t_call, t_bi, t_isi, t_ix, b_add, b_sub, b_mul, b_mod, b_div, b_10_18, n_i, c_eq, c_ne, c_lt, c_le, c_gt, c_ge, v_and, v_or, v_not, r_ite, tt_b, tt_and, tt_or, tt_not, k_i, k_b, k_s, k_d, k_t, k_f, i_int, i_bl, i_str, i_tup, i_lst, i_rolst, i_rotup, bi_int, bi_min, bi_max, l_sl, l_st, l_rl, l_rt, l_ow, l_fr, l_sc, m_sl, m_st, m_rl, m_rt, m_ow, m_fr, u_sl, u_st, u_rl, u_ow, u_fr, s_sl', s_st', s_rl', s_rt', s_ow', x_sl, x_st, x_ow, x_fr, x_rl, x_rt, x_rli, x_rti, x_sc, p_none, p_some, z_sl, z_ow, z_fr, z_rl, z_st, a_ff, a_fl, a_lf, a_ll, lst_0, srcR_ok, w_sl, w_st, w_rl, w_rt, w_ow, w_fr, w_sc, w_r1, w_r1n, e_nil, e_cons, q_nx, q_ret, q_brk, q_cnt, q_exc, e_asg, e_own, e_app, e_setI, e_ret, e_retN, e_if, e_rse, g_nm, a_i, a_b, a_s, a_d, a_f, a_exc, o_f, p_i, p_d, rt_i, rt_b, rt_s, rt_d, rt_f, rt_o, rt_x, if_k, if_x, ro_i, ro_b, ro_s, ro_d, ro_f, ro_x, ou_i, ou_b, ou_s, ou_d, ou_f, ou_x, ar_sh, ar_ro, ar_sc, ar_ow, ar_fr, y_t0, y_t1, List.getElem?_cons_zero, List.getElem?_cons_succ, List.set_cons_zero, List.set_cons_succ, List.length_cons, List.length_nil, List.map_cons, List.map_nil, List.cons_append, List.nil_append, List.append_nil, Nat.zero_add, Nat.reduceAdd, Nat.reduceLT, List.replicate_succ, List.replicate_zero, Int.reduceLT, Int.reduceNeg, and_self, true_and, and_true, iD_length, hf]
end Mi.K75

set_option Elab.async false
set_option linter.all false
set_option maxRecDepth 100000
set_option maxHeartbeats 4000000
namespace Mi.K75
open PySem PySem.Spec PyProof.Rows L2 Mi
/-! ### the turning that is good: the first least level -/
def lev (row : List Int) (j : Nat) : Int := (row.take j).sum - j
theorem lev_0 (row : List Int) : lev row 0 = 0 := rfl
structure Least (row : List Int) (n k : Nat) : Prop where
  lt : k < n
  before : ∀ j, j < k → lev row k < lev row j
  behind : ∀ j, k ≤ j → j < n → lev row k ≤ lev row j
theorem Least.uniq {row : List Int} {n k k' : Nat} (a : Least row n k) (b : Least row n k') : k = k' := by
  rcases Nat.lt_trichotomy k k' with h | h | h
  · have h1 := b.before k h
    have h2 := a.behind k' (by omega) b.lt
    omega
  · exact h
  · have h1 := a.before k' h
    have h2 := b.behind k (by omega) a.lt
    omega
theorem take_sum (row : List Int) (k m : Nat) : (row.take (k + m)).sum = (row.take k).sum + ((row.drop k).take m).sum := by
  rw [List.take_add, List.sum_append]
theorem goodB_iff (row : List Int) : goodB row = true ↔ ∀ m, m + 1 < row.length → (m : Int) + 1 ≤ (row.take (m + 1)).sum := by
  unfold goodB
  rw [List.all_eq_true]
  constructor
  · intro h m hm
    have := h m (by rw [List.mem_range']; exact ⟨m, by omega, by omega⟩)
    simpa [goodAt] using this
  · intro h m hm
    rw [List.mem_range'] at hm
    obtain ⟨i, hi, rfl⟩ := hm
    have := h (0 + 1 * i) (by omega)
    simpa [goodAt] using this
theorem rot_take {row : List Int} {k m : Nat} (hk : k ≤ row.length) (hm : m ≤ row.length) : ((rot k row).take m).sum = if m ≤ row.length - k then (row.take (k + m)).sum - (row.take k).sum else row.sum - (row.take k).sum + (row.take (m - (row.length - k))).sum := by
  unfold rot
  rw [List.take_append, List.sum_append, List.length_drop]
  split
  · have : m - (row.length - k) = 0 := by omega
    rw [this, List.take_zero, List.sum_nil, take_sum]
    omega
  · rename_i h
    have e1 : (row.drop k).take m = row.drop k := List.take_of_length_le (by rw [List.length_drop]; omega)
    have e2 : row.sum = (row.take k).sum + (row.drop k).sum := by
      have := congrArg List.sum (List.take_append_drop k row)
      rw [List.sum_append] at this
      exact this.symm
    rw [e1, List.take_take, e2]
    rw [Nat.min_eq_left (by omega)]
    omega
theorem good_iff {row : List Int} {k : Nat} (hk : k < row.length) (hs : row.sum = (row.length : Int) - 1) : goodB (rot k row) = true ↔ Least row row.length k := by
  rw [goodB_iff, rot_length]
  have full : lev row row.length = -1 := by
    unfold lev
    rw [List.take_length, hs]
    omega
  constructor
  · intro h
    refine ⟨hk, fun j hj => ?_, fun j hj hj2 => ?_⟩
    · by_cases h0 : j = 0
      · subst h0
        have := h (row.length - k - 1) (by omega)
        have e : row.length - k - 1 + 1 = row.length - k := by omega
        rw [e, rot_take (by omega) (by omega), if_pos (Nat.le_refl _)] at this
        have e2 : k + (row.length - k) = row.length := by omega
        rw [e2, List.take_length, hs] at this
        unfold lev
        simp only [List.take_zero, List.sum_nil]
        omega
      · have := h (row.length - k + j - 1) (by omega)
        have e : row.length - k + j - 1 + 1 = row.length - k + j := by omega
        rw [e, rot_take (by omega) (by omega), if_neg (by omega)] at this
        have e2 : row.length - k + j - (row.length - k) = j := by omega
        rw [e2, hs] at this
        unfold lev
        omega
    · by_cases he : j = k
      · subst he
        exact Int.le_refl _
      · have := h (j - k - 1) (by omega)
        have e : j - k - 1 + 1 = j - k := by omega
        rw [e, rot_take (by omega) (by omega), if_pos (by omega)] at this
        have e2 : k + (j - k) = j := by omega
        rw [e2] at this
        unfold lev
        omega
  · intro h m hm
    rw [rot_take (by omega) (by omega)]
    split
    · by_cases he : k + (m + 1) = row.length
      · rw [he, List.take_length, hs]
        have h0 := h.before 0 (by omega)
        unfold lev at h0
        simp only [List.take_zero, List.sum_nil] at h0
        omega
      · have := h.behind (k + (m + 1)) (by omega) (by omega)
        unfold lev at this
        omega
    · rename_i hh
      have := h.before (m + 1 - (row.length - k)) (by omega)
      unfold lev at this
      rw [hs]
      omega
/-- turning walks to the first least level -/
theorem turn_least (row : List Int) : ∀ (rest pre : List Int) (found : Nat) (least : Int), row = pre ++ rest → (∀ j, j < found → least < lev row j) → (∀ j, found ≤ j → j < pre.length → least ≤ lev row j) → least = lev row found → (found < pre.length ∨ (pre.length = 0 ∧ found = 0)) →
    ∃ k : Nat, turnGo rest pre.length found least (lev row pre.length) = (k : Int) ∧ (0 < row.length → Least row row.length k)
  | [], pre, found, least, e, h1, h2, h3, h4 => by
    rw [List.append_nil] at e
    subst e
    refine ⟨found, rfl, fun hp => ⟨by omega, fun j hj => ?_, fun j hj hj2 => ?_⟩⟩
    · rw [← h3]; exact h1 j hj
    · rw [← h3]; exact h2 j hj hj2
  | v :: rest, pre, found, least, e, h1, h2, h3, h4 => by
    have e' : row = (pre ++ [v]) ++ rest := by rw [e]; simp
    have hl : lev row (pre ++ [v]).length = lev row pre.length + v - 1 := by
      have t1 : row.take pre.length = pre := by rw [e, List.take_left]
      have t2 : row.take (pre ++ [v]).length = pre ++ [v] := by rw [e', List.take_left]
      unfold lev
      rw [t1, t2, List.sum_append, List.length_append]
      simp
      omega
    have hn : ((pre ++ [v]).length : Int) = (pre.length : Int) + 1 := by simp
    have hn2 : (pre ++ [v]).length = pre.length + 1 := by simp
    simp only [turnGo]
    by_cases h : lev row pre.length < least
    · rw [if_pos h]
      have := turn_least row rest (pre ++ [v]) pre.length (lev row pre.length) e' (fun j hj => ?_) (fun j hj hj2 => ?_) rfl (.inl (by omega))
      · rw [hn, hl] at this
        exact this
      · by_cases hf : j < found
        · have := h1 j hf
          omega
        · have := h2 j (by omega) hj
          omega
      · have : j = pre.length := by omega
        rw [this]
        exact Int.le_refl _
    · rw [if_neg h]
      have := turn_least row rest (pre ++ [v]) found least e' h1 (fun j hj hj2 => ?_) h3 (.inl (by omega))
      · rw [hn, hl] at this
        exact this
      · by_cases hf : j < pre.length
        · exact h2 j hj hf
        · have : j = pre.length := by omega
          rw [this]
          omega
theorem turnF_least (row : List Int) (h : 0 < row.length) : ∃ k : Nat, turnF row = (k : Int) ∧ Least row row.length k := by
  obtain ⟨k, h1, h2⟩ := turn_least row row [] 0 0 rfl (fun j hj => absurd hj (Nat.not_lt_zero _)) (fun j _ hj => absurd hj (Nat.not_lt_zero _)) rfl (.inr ⟨rfl, rfl⟩)
  exact ⟨k, h1, h2 h⟩
theorem filter_one {p : Nat → Bool} {d : Nat} : ∀ {n : Nat}, d < n → p d = true → (∀ k, k < n → p k = true → k = d) → (List.range n).filter p = [d]
  | 0, h, _, _ => by cases h
  | n + 1, h, hp, hu => by
    rw [List.range_succ, List.filter_append]
    by_cases hd : d = n
    · subst hd
      have : (List.range d).filter p = [] := by
        rw [List.filter_eq_nil_iff]
        intro k hk hpk
        have hk := List.mem_range.mp hk
        have := hu k (by omega) hpk
        omega
      rw [this]
      simp [hp]
    · have hn : p n = false := by
        cases q : p n with
        | false => rfl
        | true =>
          have := hu n (by omega) q
          omega
      rw [filter_one (n := n) (by omega) hp fun k hk => hu k (by omega)]
      simp [hn]
theorem not_wrong {row : List Int} (h : ¬ wrong row = true) : 0 < row.length ∧ row.sum = (row.length : Int) - 1 := by
  unfold wrong at h
  simp only [Bool.or_eq_true, not_or, Bool.not_eq_true, decide_eq_false_iff_not, Bool.not_eq_false', decide_eq_true_eq] at h
  exact ⟨by omega, h.2⟩
theorem ask_due (row : List Int) : askL row = dueL row := by
  unfold askL dueL
  by_cases hw : wrong row = true
  · rw [if_pos hw, if_pos hw]
  · rw [if_neg hw, if_neg hw]
    obtain ⟨h0, hs⟩ := not_wrong hw
    obtain ⟨k, e, hk⟩ := turnF_least row h0
    rw [filter_one hk.lt ((good_iff hk.lt hs).mpr hk) fun j hj hg => ((good_iff hj hs).mp hg).uniq hk, e]
    rfl
end Mi.K75

set_option Elab.async false
set_option linter.all false
set_option maxRecDepth 100000
set_option maxHeartbeats 4000000
namespace Mi.K75
open PySem PySem.Spec PyProof.Rows L2 Mi
theorem rot_get {row : List Int} {k i : Nat} (hk : k < row.length) (hi : i < row.length) : (rot k row)[i]? = row[(i + k) % row.length]? := by
  unfold rot
  by_cases h : i < row.length - k
  · rw [List.getElem?_append_left (by rw [List.length_drop]; exact h), List.getElem?_drop, Nat.mod_eq_of_lt (by omega), Nat.add_comm]
  · rw [List.getElem?_append_right (by rw [List.length_drop]; omega), List.length_drop, List.getElem?_take_of_lt (by omega)]
    congr 1
    have : i + k = (i - (row.length - k)) + row.length := by omega
    rw [this, Nat.add_mod_right, Nat.mod_eq_of_lt (by omega)]
theorem rot_rot {row : List Int} {k t : Nat} (hk : k < row.length) (ht : t < row.length) : rot k (rot t row) = rot ((k + t) % row.length) row := by
  apply List.ext_getElem?
  intro i
  by_cases hi : i < row.length
  · have h0 : 0 < row.length := by omega
    rw [rot_get (by rw [rot_length]; exact hk) (by rw [rot_length]; exact hi), rot_length, rot_get ht (Nat.mod_lt _ h0), rot_get (Nat.mod_lt _ h0) hi, Nat.mod_add_mod, Nat.add_mod_mod, Nat.add_assoc]
  · rw [List.getElem?_eq_none (by rw [rot_length, rot_length]; omega), List.getElem?_eq_none (by rw [rot_length]; omega)]
theorem rot_sum {row : List Int} {t : Nat} : (rot t row).sum = row.sum := by
  unfold rot
  have := congrArg List.sum (List.take_append_drop t row)
  rw [List.sum_append] at this ⊢
  omega
/-- one place is due -/
theorem one_due {row : List Int} (h0 : 0 < row.length) (hs : row.sum = (row.length : Int) - 1) : ∃ d : Nat, d < row.length ∧ turnF row = (d : Int) ∧ dueL row = [(d : Int)] ∧ askL row = [(d : Int)] ∧ ∀ t, t < row.length → askL (rot t row) = [((d : Int) - (t : Int)) % (row.length : Int)] := by
  have hw : ¬ wrong row = true := by
    unfold wrong
    simp only [hs, decide_true, Bool.not_true, Bool.or_false, decide_eq_true_eq]
    omega
  obtain ⟨d, e, hd⟩ := turnF_least row h0
  have ha : askL row = [(d : Int)] := by
    unfold askL
    rw [if_neg hw, e]
  refine ⟨d, hd.lt, e, by rw [← ask_due, ha], ha, fun t ht => ?_⟩
  have hw2 : ¬ wrong (rot t row) = true := by
    unfold wrong
    rw [rot_length, rot_sum]
    simp only [hs, decide_true, Bool.not_true, Bool.or_false, decide_eq_true_eq]
    omega
  obtain ⟨d', e', hd'⟩ := turnF_least (rot t row) (by rw [rot_length]; exact h0)
  unfold askL
  rw [if_neg hw2, e']
  have hlt : d' < row.length := by have := hd'.lt; rwa [rot_length] at this
  have hg := (good_iff (row := rot t row) (k := d') (by rw [rot_length]; exact hlt) (by rw [rot_length, rot_sum]; exact hs)).mpr (by rw [rot_length] at hd' ⊢; exact hd')
  rw [rot_rot hlt ht] at hg
  have hm : (d' + t) % row.length < row.length := Nat.mod_lt _ h0
  have hq := ((good_iff hm hs).mp hg).uniq hd
  have : ((d' : Int) + (t : Int)) % (row.length : Int) = (d : Int) := by
    rw [← Int.natCast_add, ← Int.natCast_emod, hq]
  congr 1
  have e2 : ((d : Int) - (t : Int)) % (row.length : Int) = (d' : Int) := by
    rw [← this, Int.emod_sub_emod]
    have : (d' : Int) + (t : Int) - (t : Int) = d' := by omega
    rw [this]
    exact Int.emod_eq_of_lt (by omega) (by omega)
  exact e2.symm
theorem ask_wrong {row : List Int} (h : row.sum ≠ (row.length : Int) - 1) : askL row = [] := by
  unfold askL
  rw [if_pos]
  unfold wrong
  simp [h]
end Mi.K75

set_option Elab.async false
set_option linter.all false
set_option maxRecDepth 100000
set_option maxHeartbeats 8000000
namespace Mi.K75
open PySem PySem.Spec PyProof.Rows L2 Mi
theorem sized_get {row sizes : List Int} (h : sized row sizes) {k : Nat} {s : Int} (e : sizes[k]? = some s) : ∃ r : Nat, row[k]? = some (r : Int) ∧ (r : Int) < s := by
  obtain ⟨r, h1, h2, h3⟩ := h.2 k s e
  obtain ⟨n, rfl⟩ := Int.eq_ofNat_of_zero_le h2
  exact ⟨n, h1, h3⟩
def menus : List (List Int) := [[0, 0, 1, 2, 0, 1, 3, 0], [0, 1, 1, 2, 1, 0, 1, 1], [0, 0, 0, 0, 0, 0, 0, 9], [0, 0, 0, 5, 0, 40, 0, 2], [0, 0, 0, 0, 0, 0, 0, 0]]
theorem menus_ok : ∀ m ∈ menus, m.length = 8 ∧ nonneg m := by
  intro m hm
  simp only [menus, List.mem_cons, List.not_mem_nil, or_false] at hm
  rcases hm with rfl | rfl | rfl | rfl | rfl <;> refine ⟨rfl, fun x hx => ?_⟩ <;> (simp only [List.mem_cons, List.not_mem_nil, or_false] at hx; omega)
theorem atI_map_lst (ms : List (List Int)) (k : Nat) (h : k < ms.length) : dR (atI (ms.map fun m => D.lst (iD m)) (k : Int)) = okD (.lst (iD ms[k])) := by
  rw [atI_nat (by rw [List.length_map]; exact h)]
  simp [h, dR]
theorem compGo_ex {α : Type} {f : T → Res (Option Vl)} {h : α → T} {P : Int → Prop} : ∀ {l : List α}, (∀ a ∈ l, ∃ v : Int, P v ∧ f (h a) = .ok (some (.sh (.int v)))) → ∃ vs : List Int, vs.length = l.length ∧ (∀ v ∈ vs, P v) ∧ compGo f (l.map h) = .ok (iD vs)
  | [], _ => ⟨[], rfl, fun _ hv => (by cases hv), rfl⟩
  | a :: l, hf => by
    obtain ⟨v, hv, e⟩ := hf a List.mem_cons_self
    obtain ⟨vs, h1, h2, h3⟩ := compGo_ex (l := l) fun b hb => hf b (List.mem_cons_of_mem _ hb)
    refine ⟨v :: vs, by simp [h1], fun w hw => ?_, ?_⟩
    · rcases List.mem_cons.mp hw with rfl | hw
      · exact hv
      · exact h2 w hw
    · simp only [List.map_cons, compGo, e, h3, Res.bnd_ok]
      rfl
/-- the last loop -/
theorem law_loop (row : List Int) (pl : Nat) (hp : pl ≤ row.length) (hl : row.length ≤ 500) (a b c d e f g h i j : Option T) : ∀ (ms : List Int) (x y : Option T), ∃ x' y',
    forGo (.nm 11) (Mi.execs c_law l_law_0) ((iD ms).map T.sh) [a, b, c, d, e, f, some (.sh (.lst (iD row))), g, h, some (.sh (.int pl)), i, x, y, j] = .nx [a, b, c, d, e, f, some (.sh (.lst (iD row))), g, h, some (.sh (.int pl)), i, x', y', j]
  | [], x, y => ⟨x, y, rfl⟩
  | m :: ms, x, y => by
    have h1 : (iD (row.take pl)).length + [D.int m].length ≤ sizeLine := by
      rw [iD_length, List.length_take, sizeLine_eq]
      simp
      omega
    have h2 : (iD (row.take pl) ++ [D.int m]).length + (iD (row.drop pl)).length ≤ sizeLine := by
      rw [List.length_append, iD_length, iD_length, List.length_take, List.length_drop, sizeLine_eq]
      simp
      omega
    have e1 : iD (row.take pl) ++ [D.int m] ++ iD (row.drop pl) = iD (row.take pl ++ [m] ++ row.drop pl) := by
      rw [iD_app, iD_app]
      rfl
    have k1 := a_ff (iD (row.take pl)) [D.int m] h1
    have k2 := a_ff (iD (row.take pl) ++ [D.int m]) (iD (row.drop pl)) h2
    have hd : lstR (.ok [.sh (.int m)]) = frL [D.int m] := lst_k _ _ rfl (by rw [sizeLine_eq]; simp)
    have hlen : (cutL (row.take pl ++ [m] ++ row.drop pl) none (some 200)).length ≤ 1000 := by
      unfold cutL
      rw [List.length_take, List.length_drop, List.length_append, List.length_append, List.length_take, List.length_drop]
      simp
      omega
    generalize hlo : cutL (row.take pl ++ [m] ++ row.drop pl) none (some 200) = longer at hlen
    have hdue := due_ok longer hlen
    have hfine : r__law_fine [.sh (.lst (iD longer)), .sh (.lst (iD (dueL longer)))] = okB true := by
      rw [fine_ok _ _ hlen, ask_due]
      simp
    obtain ⟨x', y', ih⟩ := law_loop row pl hp hl a b c d e f g h i j ms (some (.sh (.int m))) (some (.sh (.lst (iD longer))))
    refine ⟨x', y', ?_⟩
    rw [iD_cons, List.map_cons]
    have ht : tgV (.nm 11) (T.sh (.int m)) [a, b, c, d, e, f, some (.sh (.lst (iD row))), g, h, some (.sh (.int pl)), i, x, y, j] = some [a, b, c, d, e, f, some (.sh (.lst (iD row))), g, h, some (.sh (.int pl)), i, some (.sh (.int m)), y, j] := rfl
    have hb : Mi.execs c_law l_law_0 [a, b, c, d, e, f, some (.sh (.lst (iD row))), g, h, some (.sh (.int pl)), i, some (.sh (.int m)), y, j] = .nx [a, b, c, d, e, f, some (.sh (.lst (iD row))), g, h, some (.sh (.int pl)), i, some (.sh (.int m)), some (.sh (.lst (iD longer))), j] := by
      unfold l_law_0
      simp only [ca_frozen_frozen, ca_turning_frozen, ca__law_due__law_good, ca__law_fine__law_asked, ca__law_fine__law_whole, ca_law__law_cell, ca_law__law_digits, ca_law__law_due, ca_law__law_filled, ca_law__law_fine, okD_i, okD_b, okD_s, okT_sh, dR_some, tR_some, varR_t, y_var, y_int, y_bl, y_str, y_non, y_bin, y_neg, y_cmp, y_and, y_or, y_not, y_ite, y_tup, y_lst, y_ix, y_sl, y_call, y_bi, y_isi, y_comp, y_nil, y_cons, t_and, t_or, t_not, t_var, t_cst, t_cmp, t_call, t_bi, t_isi, t_ix, b_add, b_sub, b_mul, b_mod, b_div, b_10_18, n_i, c_eq, c_ne, c_lt, c_le, c_gt, c_ge, v_and, v_or, v_not, r_ite, tt_b, tt_and, tt_or, tt_not, k_i, k_b, k_s, k_d, k_t, k_f, i_int, i_bl, i_str, i_tup, i_lst, i_rolst, i_rotup, bi_int, bi_min, bi_max, l_sl, l_st, l_rl, l_rt, l_ow, l_fr, l_sc, m_sl, m_st, m_rl, m_rt, m_ow, m_fr, u_sl, u_st, u_rl, u_ow, u_fr, s_sl', s_st', s_rl', s_rt', s_ow', x_sl, x_st, x_ow, x_fr, x_rl, x_rt, x_rli, x_rti, x_sc, p_none, p_some, z_sl, z_ow, z_fr, z_rl, z_st, a_ff, a_fl, a_lf, a_ll, lst_0, srcR_ok, w_sl, w_st, w_rl, w_rt, w_ow, w_fr, w_sc, w_r1, w_r1n, e_nil, e_cons, q_nx, q_ret, q_brk, q_cnt, q_exc, e_asg, e_own, e_app, e_setI, e_ret, e_retN, e_if, e_rse, g_nm, a_i, a_b, a_s, a_d, a_f, a_exc, o_f, p_i, p_d, rt_i, rt_b, rt_s, rt_d, rt_f, rt_o, rt_x, if_k, if_x, ro_i, ro_b, ro_s, ro_d, ro_f, ro_x, ou_i, ou_b, ou_s, ou_d, ou_f, ou_x, ar_sh, ar_ro, ar_sc, ar_ow, ar_fr, y_t0, y_t1, List.getElem?_cons_zero, List.getElem?_cons_succ, List.set_cons_zero, List.set_cons_succ, List.length_cons, List.length_nil, List.map_cons, List.map_nil, List.cons_append, List.nil_append, List.append_nil, Nat.zero_add, Nat.reduceAdd, Nat.reduceLT, List.replicate_succ, List.replicate_zero, Int.reduceLT, Int.reduceNeg, and_self, true_and, and_true, cut_iD, cut_hi row pl hp, cut_lo row pl hp, hd, k1, k2, e1, hlo, hdue, hfine, Bool.not_true, Bool.false_eq_true, if_false]
    simp only [forGo, ht, hb]
    exact ih
theorem law_math (ns : List Int) (_ : ns.length ≤ 63) : r_law [.scr ns] = .ok (.sh (.bl true)) := by
  show r_law [.scr ns] = okB true
  unfold r_law
  rw [rd_eq rfl]
  show resO (Mi.execs _ b_law [some (T.scr ns), none, none, none, none, none, none, none, none, none, none, none, none, none]) = _
  unfold b_law
  obtain ⟨c0, hc0⟩ := cell_ok ns 0
  have hc0 : r__law_cell [.scr ns, .sh (.int 0)] = okI c0 := hc0
  obtain ⟨c1, hc1⟩ := cell_ok ns 1
  have hc1 : r__law_cell [.scr ns, .sh (.int 1)] = okI c1 := hc1
  obtain ⟨fl, hfl, sfl⟩ := digits_ok c0 [12, 60, 200, 2, 5, 200, 200] (by simp) (by simp)
  obtain ⟨dg, hdg, sdg⟩ := digits_ok c1 (List.replicate 60 8) (fun s hs => by rw [List.eq_of_mem_replicate hs]; omega) (by simp)
  obtain ⟨f0, g0, l0⟩ := sized_get sfl (k := 0) (s := 12) rfl
  obtain ⟨f1, g1, l1⟩ := sized_get sfl (k := 1) (s := 60) rfl
  obtain ⟨f2, g2, l2⟩ := sized_get sfl (k := 2) (s := 200) rfl
  obtain ⟨f3, g3, l3⟩ := sized_get sfl (k := 3) (s := 2) rfl
  obtain ⟨f4, g4, l4⟩ := sized_get sfl (k := 4) (s := 5) rfl
  obtain ⟨f5, g5, l5⟩ := sized_get sfl (k := 5) (s := 200) rfl
  obtain ⟨f6, g6, l6⟩ := sized_get sfl (k := 6) (s := 200) rfl
  have at_ : ∀ (k : Nat) (v : Int), fl[k]? = some v → dR (atI (iD fl) (k : Int)) = okI v := fun k v e => by
    obtain ⟨hk, rfl⟩ := List.getElem?_eq_some_iff.mp e
    exact atN fl k hk
  have x0 : dR (atI (iD fl) 0) = okI f0 := at_ 0 _ g0
  have x1 : dR (atI (iD fl) 1) = okI f1 := at_ 1 _ g1
  have x2 : dR (atI (iD fl) 2) = okI f2 := at_ 2 _ g2
  have x3 : dR (atI (iD fl) 3) = okI f3 := at_ 3 _ g3
  have x4 : dR (atI (iD fl) 4) = okI f4 := at_ 4 _ g4
  have x5 : dR (atI (iD fl) 5) = okI f5 := at_ 5 _ g5
  have x6 : dR (atI (iD fl) 6) = okI f6 := at_ 6 _ g6
  have L7 : lstR (.ok [.sh (.int 12), .sh (.int 60), .sh (.int 200), .sh (.int 2), .sh (.int 5), .sh (.int 200), .sh (.int 200)]) = frL (iD [12, 60, 200, 2, 5, 200, 200]) := lst_k _ _ rfl (by rw [sizeLine_eq]; simp [iD])
  -- how many
  have L12 : lstR (.ok [.sh (.int 1), .sh (.int 2), .sh (.int 3), .sh (.int 4), .sh (.int 6), .sh (.int 9), .sh (.int 14), .sh (.int 25), .sh (.int (1 + f1)), .sh (.int (1 + f1)), .sh (.int 60), .sh (.int 200)]) = frL (iD [1, 2, 3, 4, 6, 9, 14, 25, 1 + f1, 1 + f1, 60, 200]) := lst_k _ _ rfl (by rw [sizeLine_eq]; simp [iD])
  have hlt0 : f0 < [1, 2, 3, 4, 6, 9, 14, 25, 1 + (f1 : Int), 1 + (f1 : Int), 60, 200].length := by simp; omega
  have y0 := atN [1, 2, 3, 4, 6, 9, 14, 25, 1 + (f1 : Int), 1 + (f1 : Int), 60, 200] f0 hlt0
  have hm : ∀ x ∈ [1, 2, 3, 4, 6, 9, 14, 25, 1 + (f1 : Int), 1 + (f1 : Int), 60, 200], 1 ≤ x ∧ x ≤ 200 := fun x hx => by
    simp only [List.mem_cons, List.not_mem_nil, or_false] at hx
    omega
  have hmn := hm _ (List.getElem_mem hlt0)
  generalize hq : [1, 2, 3, 4, 6, 9, 14, 25, 1 + (f1 : Int), 1 + (f1 : Int), 60, 200][f0] = q at y0 hmn
  obtain ⟨n, rfl⟩ := Int.eq_ofNat_of_zero_le (show 0 ≤ q by omega)
  have hn1 : 1 ≤ n := by omega
  have hn2 : n ≤ 200 := by omega
  have hnI : (0 : Int) < (n : Int) := by omega
  -- the digits
  have L8 : lstR (.ok [.sh (.int 8)]) = frL [D.int 8] := lst_k _ _ rfl (by rw [sizeLine_eq]; simp)
  have k60 : binR .mul (frL [D.int 8]) (okI 60) = frL (iD (List.replicate 60 8)) := r_f [D.int 8] 60 (by omega) (by rw [sizeLine_eq]; simp)
  have hdl : dg.length = 60 := by rw [sdg.1, List.length_replicate]
  have hdr : ∀ k : Nat, k < 60 → ∃ r : Nat, dR (atI (iD dg) (k : Int)) = okI r := fun k hk => by
    obtain ⟨r, e, _⟩ := sized_get sdg (k := k) (s := 8) (by rw [List.getElem?_replicate, if_pos hk])
    obtain ⟨h1, h2⟩ := List.getElem?_eq_some_iff.mp e
    exact ⟨r, by rw [atN dg k h1, h2]⟩
  generalize hR : List.replicate 60 (8 : Int) = R8 at hdg k60
  -- the menu
  have M0 : lstR (.ok [.sh (.int 0), .sh (.int 0), .sh (.int 1), .sh (.int 2), .sh (.int 0), .sh (.int 1), .sh (.int 3), .sh (.int 0)]) = frL (iD [0, 0, 1, 2, 0, 1, 3, 0]) := lst_k _ _ rfl (by rw [sizeLine_eq]; simp [iD])
  have M1 : lstR (.ok [.sh (.int 0), .sh (.int 1), .sh (.int 1), .sh (.int 2), .sh (.int 1), .sh (.int 0), .sh (.int 1), .sh (.int 1)]) = frL (iD [0, 1, 1, 2, 1, 0, 1, 1]) := lst_k _ _ rfl (by rw [sizeLine_eq]; simp [iD])
  have M2 : lstR (.ok [.sh (.int 0), .sh (.int 0), .sh (.int 0), .sh (.int 0), .sh (.int 0), .sh (.int 0), .sh (.int 0), .sh (.int 9)]) = frL (iD [0, 0, 0, 0, 0, 0, 0, 9]) := lst_k _ _ rfl (by rw [sizeLine_eq]; simp [iD])
  have M3 : lstR (.ok [.sh (.int 0), .sh (.int 0), .sh (.int 0), .sh (.int 5), .sh (.int 0), .sh (.int 40), .sh (.int 0), .sh (.int 2)]) = frL (iD [0, 0, 0, 5, 0, 40, 0, 2]) := lst_k _ _ rfl (by rw [sizeLine_eq]; simp [iD])
  have L0 : lstR (.ok [.sh (.int 0)]) = frL [D.int 0] := lst_k _ _ rfl (by rw [sizeLine_eq]; simp)
  have M4 : binR .mul (frL [D.int 0]) (okI 8) = frL (iD [0, 0, 0, 0, 0, 0, 0, 0]) := r_f [D.int 0] 8 (by omega) (by rw [sizeLine_eq]; simp)
  have ME : lstR (.ok [.fr (.lst ((iD [0, 0, 1, 2, 0, 1, 3, 0]).map T.sh)), .fr (.lst ((iD [0, 1, 1, 2, 1, 0, 1, 1]).map T.sh)), .fr (.lst ((iD [0, 0, 0, 0, 0, 0, 0, 9]).map T.sh)), .fr (.lst ((iD [0, 0, 0, 5, 0, 40, 0, 2]).map T.sh)), .fr (.lst ((iD [0, 0, 0, 0, 0, 0, 0, 0]).map T.sh))]) =
      frL (menus.map fun m => D.lst (iD m)) := lst_k _ _ rfl (by rw [sizeLine_eq]; simp [menus])
  have hl4 : f4 < menus.length := by simp [menus]; omega
  have ym := atI_map_lst menus f4 hl4
  have hmenu := menus_ok _ (List.getElem_mem hl4)
  generalize hmq : menus[f4] = menu at ym hmenu
  -- the raw row
  obtain ⟨raw, hraw1, hraw2, hraw3⟩ := compGo_ex (f := cturn c_law (.nm 13) [] (.ix (.var 4) (.bin .mod (.bi .int [.bin .add (.ix (.var 3) (.bin .mod (.var 13) (.cst (.int 60)))) (.bin .fdiv (.var 13) (.cst (.int 60)))]) (.cst (.int 8))))
    [some (.scr ns), some (.sh (.lst (iD fl))), some (.sh (.int n)), some (.sh (.lst (iD dg))), some (.sh (.lst (iD menu))), none, none, none, none, none, none, none, none, none]) (h := fun (k : Nat) => T.sh (.int k)) (P := fun v => 0 ≤ v) (l := List.range n) fun k hk => by
      obtain ⟨r, hr⟩ := hdr (k % 60) (Nat.mod_lt _ (by omega))
      have e1 : (k : Int) % 60 = ((k % 60 : Nat) : Int) := by omega
      have e2 : ((r : Int) + (k : Int) / 60) % 8 = (((r + k / 60) % 8 : Nat) : Int) := by omega
      have h8 : (r + k / 60) % 8 < menu.length := by rw [hmenu.1]; exact Nat.mod_lt _ (by omega)
      refine ⟨menu[(r + k / 60) % 8], hmenu.2 _ (List.getElem_mem h8), ?_⟩
      have := cturn_b (c := c_law) (g := .nm 13) (cs := []) (e := .ix (.var 4) (.bin .mod (.bi .int [.bin .add (.ix (.var 3) (.bin .mod (.var 13) (.cst (.int 60)))) (.bin .fdiv (.var 13) (.cst (.int 60)))]) (.cst (.int 8))))
        (ρ := [some (.scr ns), some (.sh (.lst (iD fl))), some (.sh (.int n)), some (.sh (.lst (iD dg))), some (.sh (.lst (iD menu))), none, none, none, none, none, none, none, none, none]) (t := T.sh (.int k))
        (ρ1 := [some (.scr ns), some (.sh (.lst (iD fl))), some (.sh (.int n)), some (.sh (.lst (iD dg))), some (.sh (.lst (iD menu))), none, none, none, none, none, none, none, none, some (.sh (.int k))]) rfl y_t0 (x := .sh (.int menu[(r + k / 60) % 8]))
        (by simp only [ca_frozen_frozen, ca_turning_frozen, ca__law_due__law_good, ca__law_fine__law_asked, ca__law_fine__law_whole, ca_law__law_cell, ca_law__law_digits, ca_law__law_due, ca_law__law_filled, ca_law__law_fine, okD_i, okD_b, okD_s, okT_sh, dR_some, tR_some, varR_t, y_var, y_int, y_bl, y_str, y_non, y_bin, y_neg, y_cmp, y_and, y_or, y_not, y_ite, y_tup, y_lst, y_ix, y_sl, y_call, y_bi, y_isi, y_comp, y_nil, y_cons, t_and, t_or, t_not, t_var, t_cst, t_cmp, t_call, t_bi, t_isi, t_ix, b_add, b_sub, b_mul, b_mod, b_div, b_10_18, n_i, c_eq, c_ne, c_lt, c_le, c_gt, c_ge, v_and, v_or, v_not, r_ite, tt_b, tt_and, tt_or, tt_not, k_i, k_b, k_s, k_d, k_t, k_f, i_int, i_bl, i_str, i_tup, i_lst, i_rolst, i_rotup, bi_int, bi_min, bi_max, l_sl, l_st, l_rl, l_rt, l_ow, l_fr, l_sc, m_sl, m_st, m_rl, m_rt, m_ow, m_fr, u_sl, u_st, u_rl, u_ow, u_fr, s_sl', s_st', s_rl', s_rt', s_ow', x_sl, x_st, x_ow, x_fr, x_rl, x_rt, x_rli, x_rti, x_sc, p_none, p_some, z_sl, z_ow, z_fr, z_rl, z_st, a_ff, a_fl, a_lf, a_ll, lst_0, srcR_ok, w_sl, w_st, w_rl, w_rt, w_ow, w_fr, w_sc, w_r1, w_r1n, e_nil, e_cons, q_nx, q_ret, q_brk, q_cnt, q_exc, e_asg, e_own, e_app, e_setI, e_ret, e_retN, e_if, e_rse, g_nm, a_i, a_b, a_s, a_d, a_f, a_exc, o_f, p_i, p_d, rt_i, rt_b, rt_s, rt_d, rt_f, rt_o, rt_x, if_k, if_x, ro_i, ro_b, ro_s, ro_d, ro_f, ro_x, ou_i, ou_b, ou_s, ou_d, ou_f, ou_x, ar_sh, ar_ro, ar_sc, ar_ow, ar_fr, y_t0, y_t1, List.getElem?_cons_zero, List.getElem?_cons_succ, List.set_cons_zero, List.set_cons_succ, List.length_cons, List.length_nil, List.map_cons, List.map_nil, List.cons_append, List.nil_append, List.append_nil, Nat.zero_add, Nat.reduceAdd, Nat.reduceLT, List.replicate_succ, List.replicate_zero, Int.reduceLT, Int.reduceNeg, and_self, true_and, and_true, e1, hr, e2, atN menu _ h8]; rfl)
      exact this
  have hcomp := comp_ok hraw3 (by rw [List.length_map, List.length_range]; omega)
  rw [List.length_range] at hraw1
  have hsrc := w_r1 n (by omega)
  -- the filled row
  have hnI2 : (0 : Int) < (n : Int) := hnI
  obtain ⟨row, hrow, r1, r2, r3⟩ := filled_ok raw (f2 % n) f3 (by omega) (by omega) hraw2
  rw [hraw1] at r1 r3
  have q2 : (f2 : Int) % (n : Int) = ((f2 % n : Nat) : Int) := (Int.natCast_emod ..).symm
  have q5 : (f5 : Int) % (n : Int) = ((f5 % n : Nat) : Int) := (Int.natCast_emod ..).symm
  have q6 : (f6 : Int) % (n : Int) = ((f6 % n : Nat) : Int) := (Int.natCast_emod ..).symm
  have ht : f5 % n < row.length := by rw [r1]; exact Nat.mod_lt _ (by omega)
  have hp : f6 % n < row.length := by rw [r1]; exact Nat.mod_lt _ (by omega)
  generalize f5 % n = tn at q5 ht
  generalize f6 % n = pn at q6 hp
  obtain ⟨d, hd, _, hdue, hask, hrot⟩ := one_due (row := row) (by omega) (by rw [r1]; exact r3)
  have D1 := due_ok row (by omega)
  rw [hdue] at D1
  have F1 : r__law_fine [.sh (.lst (iD row)), .sh (.lst (iD [(d : Int)]))] = okB true := by
    rw [fine_ok _ _ (by omega), hask]
    simp
  have n1 : (!decide (((iD [(d : Int)]).length : Int) = 1)) = false := rfl
  have xd : dR (atI (iD [(d : Int)]) 0) = okI d := rfl
  have rotk : ∀ t, t < row.length → binR .add (frL (iD (row.drop t))) (frL (iD (row.take t))) = frL (iD (rot t row)) := fun t ht => by
    rw [a_ff _ _ (by rw [iD_length, iD_length, List.length_drop, List.length_take, sizeLine_eq]; omega), ← iD_app]
    rfl
  have F2 : r__law_fine [.sh (.lst (iD (rot tn row))), .sh (.lst (iD [((d : Int) - (tn : Int)) % (n : Int)]))] = okB true := by
    rw [fine_ok _ _ (by rw [rot_length]; omega), hrot tn ht, r1]
    simp
  have L1 : lstR (.ok [.sh (.int (((d : Int) - (tn : Int)) % (n : Int)))]) = frL (iD [((d : Int) - (tn : Int)) % (n : Int)]) := lst_k _ _ rfl (by rw [sizeLine_eq]; simp [iD])
  have F3 : r__law_fine [.sh (.lst (iD (rot d row))), .sh (.lst [D.int 0])] = okB true := by
    have := fine_ok (rot d row) [0] (by rw [rot_length]; omega)
    rw [hrot d hd, Int.sub_self, Int.zero_emod] at this
    exact this.trans (by simp)
  have hix : ixN (iD row).length (pn : Int) = some pn := ixN_nat (by rw [iD_length]; exact hp)
  have hat := atN row pn hp
  have af0 : Vl.arg (.fr (.lst [])) = .sh (.lst []) := rfl
  have af1 : Vl.arg (.fr (.lst [T.sh (.int 0)])) = .sh (.lst [D.int 0]) := rfl
  have F4 : r__law_fine [.ro (.lst (iD (row.set pn (row[pn] + 1)))), .sh (.lst [])] = okB true := by
    have := fine_ro (row.set pn (row[pn] + 1)) [] (by rw [List.length_set]; omega)
    rw [ask_wrong (by rw [sum_set _ _ _ hp, List.length_set, r1, r3]; omega)] at this
    exact this.trans (by simp)
  have F5 : r__law_fine [.ro (.lst (iD (row.set pn (row[pn] - 1)))), .sh (.lst [])] = okB true := by
    have := fine_ro (row.set pn (row[pn] - 1)) [] (by rw [List.length_set]; omega)
    rw [ask_wrong (by rw [sum_set _ _ _ hp, List.length_set, r1, r3]; omega)] at this
    exact this.trans (by simp)
  have hix2 : ixN (iD (row.set pn (row[pn] + 1))).length (pn : Int) = some pn := ixN_nat (by rw [iD_length, List.length_set]; exact hp)
  have L012 : lstR (.ok [.sh (.int 0), .sh (.int 1), .sh (.int 2)]) = frL (iD [0, 1, 2]) := lst_k _ _ rfl (by rw [sizeLine_eq]; simp [iD])
  have hloop : ∀ a b c d' e f g h i j : Option T, ∃ x' y', Mi.exec c_law (.forS (.nm 11) .seq [.lst [.cst (.int 0), .cst (.int 1), .cst (.int 2)]] l_law_0) [a, b, c, d', e, f, some (.sh (.lst (iD row))), g, h, some (.sh (.int pn)), i, none, none, j] = .nx [a, b, c, d', e, f, some (.sh (.lst (iD row))), g, h, some (.sh (.int pn)), i, x', y', j] := fun a b c d' e f g h i j => by
    obtain ⟨x', y', hx⟩ := law_loop row pn (by omega) (by omega) a b c d' e f g h i j [0, 1, 2] none none
    refine ⟨x', y', ?_⟩
    rw [e_for (xs := [.fr (.lst ((iD [0, 1, 2]).map T.sh))]) (ts := (iD [0, 1, 2]).map T.sh) (by simp only [ca_frozen_frozen, ca_turning_frozen, ca__law_due__law_good, ca__law_fine__law_asked, ca__law_fine__law_whole, ca_law__law_cell, ca_law__law_digits, ca_law__law_due, ca_law__law_filled, ca_law__law_fine, okD_i, okD_b, okD_s, okT_sh, dR_some, tR_some, varR_t, y_var, y_int, y_bl, y_str, y_non, y_bin, y_neg, y_cmp, y_and, y_or, y_not, y_ite, y_tup, y_lst, y_ix, y_sl, y_call, y_bi, y_isi, y_comp, y_nil, y_cons, t_and, t_or, t_not, t_var, t_cst, t_cmp, t_call, t_bi, t_isi, t_ix, b_add, b_sub, b_mul, b_mod, b_div, b_10_18, n_i, c_eq, c_ne, c_lt, c_le, c_gt, c_ge, v_and, v_or, v_not, r_ite, tt_b, tt_and, tt_or, tt_not, k_i, k_b, k_s, k_d, k_t, k_f, i_int, i_bl, i_str, i_tup, i_lst, i_rolst, i_rotup, bi_int, bi_min, bi_max, l_sl, l_st, l_rl, l_rt, l_ow, l_fr, l_sc, m_sl, m_st, m_rl, m_rt, m_ow, m_fr, u_sl, u_st, u_rl, u_ow, u_fr, s_sl', s_st', s_rl', s_rt', s_ow', x_sl, x_st, x_ow, x_fr, x_rl, x_rt, x_rli, x_rti, x_sc, p_none, p_some, z_sl, z_ow, z_fr, z_rl, z_st, a_ff, a_fl, a_lf, a_ll, lst_0, srcR_ok, w_sl, w_st, w_rl, w_rt, w_ow, w_fr, w_sc, w_r1, w_r1n, e_nil, e_cons, q_nx, q_ret, q_brk, q_cnt, q_exc, e_asg, e_own, e_app, e_setI, e_ret, e_retN, e_if, e_rse, g_nm, a_i, a_b, a_s, a_d, a_f, a_exc, o_f, p_i, p_d, rt_i, rt_b, rt_s, rt_d, rt_f, rt_o, rt_x, if_k, if_x, ro_i, ro_b, ro_s, ro_d, ro_f, ro_x, ou_i, ou_b, ou_s, ou_d, ou_f, ou_x, ar_sh, ar_ro, ar_sc, ar_ow, ar_fr, y_t0, y_t1, List.getElem?_cons_zero, List.getElem?_cons_succ, List.set_cons_zero, List.set_cons_succ, List.length_cons, List.length_nil, List.map_cons, List.map_nil, List.cons_append, List.nil_append, List.append_nil, Nat.zero_add, Nat.reduceAdd, Nat.reduceLT, List.replicate_succ, List.replicate_zero, Int.reduceLT, Int.reduceNeg, and_self, true_and, and_true, L012]) (w_fr _) (still_sh _) rfl]
    exact hx
  have D6 := due_ok (raw.take pn) (by rw [List.length_take]; omega)
  have F6 : r__law_fine [.sh (.lst (iD (raw.take pn))), .sh (.lst (iD (dueL (raw.take pn))))] = okB true := by
    rw [fine_ok _ _ (by rw [List.length_take]; omega), ask_due]
    simp
  have F7 : r__law_fine [.sh (.lst []), .sh (.lst [])] = okB true := by
    have := fine_ok [] [] (by simp)
    exact this.trans (by rfl)
  have hcut := cut_hi raw pn (by omega)
  have c1r := cut_lo row tn (by omega)
  have c2r := cut_hi row tn (by omega)
  have c3r := cut_lo row d (by omega)
  have c4r := cut_hi row d (by omega)
  have k1 := rotk tn ht
  have k2 := rotk d hd
  by_cases hpos : 0 < row[pn]
  · have hposD : decide (0 < row[pn]) = true := by simpa using hpos
    obtain ⟨x', y', hl⟩ := hloop (some (.scr ns)) (some (.sh (.lst (iD fl)))) (some (.sh (.int n))) (some (.sh (.lst (iD dg)))) (some (.sh (.lst (iD menu)))) (some (.sh (.lst (iD raw)))) (some (.sh (.lst (iD [(d : Int)])))) (some (.sh (.int tn))) (some (.lst ((iD (row.set pn (row[pn] - 1))).map T.sh))) none
    have hss : (row.set pn (row[pn] + 1)).set pn (row[pn] - 1) = row.set pn (row[pn] - 1) := List.set_set ..
    simp only [ca_frozen_frozen, ca_turning_frozen, ca__law_due__law_good, ca__law_fine__law_asked, ca__law_fine__law_whole, ca_law__law_cell, ca_law__law_digits, ca_law__law_due, ca_law__law_filled, ca_law__law_fine, okD_i, okD_b, okD_s, okT_sh, dR_some, tR_some, varR_t, y_var, y_int, y_bl, y_str, y_non, y_bin, y_neg, y_cmp, y_and, y_or, y_not, y_ite, y_tup, y_lst, y_ix, y_sl, y_call, y_bi, y_isi, y_comp, y_nil, y_cons, t_and, t_or, t_not, t_var, t_cst, t_cmp, t_call, t_bi, t_isi, t_ix, b_add, b_sub, b_mul, b_mod, b_div, b_10_18, n_i, c_eq, c_ne, c_lt, c_le, c_gt, c_ge, v_and, v_or, v_not, r_ite, tt_b, tt_and, tt_or, tt_not, k_i, k_b, k_s, k_d, k_t, k_f, i_int, i_bl, i_str, i_tup, i_lst, i_rolst, i_rotup, bi_int, bi_min, bi_max, l_sl, l_st, l_rl, l_rt, l_ow, l_fr, l_sc, m_sl, m_st, m_rl, m_rt, m_ow, m_fr, u_sl, u_st, u_rl, u_ow, u_fr, s_sl', s_st', s_rl', s_rt', s_ow', x_sl, x_st, x_ow, x_fr, x_rl, x_rt, x_rli, x_rti, x_sc, p_none, p_some, z_sl, z_ow, z_fr, z_rl, z_st, a_ff, a_fl, a_lf, a_ll, lst_0, srcR_ok, w_sl, w_st, w_rl, w_rt, w_ow, w_fr, w_sc, w_r1, w_r1n, e_nil, e_cons, q_nx, q_ret, q_brk, q_cnt, q_exc, e_asg, e_own, e_app, e_setI, e_ret, e_retN, e_if, e_rse, g_nm, a_i, a_b, a_s, a_d, a_f, a_exc, o_f, p_i, p_d, rt_i, rt_b, rt_s, rt_d, rt_f, rt_o, rt_x, if_k, if_x, ro_i, ro_b, ro_s, ro_d, ro_f, ro_x, ou_i, ou_b, ou_s, ou_d, ou_f, ou_x, ar_sh, ar_ro, ar_sc, ar_ow, ar_fr, y_t0, y_t1, List.getElem?_cons_zero, List.getElem?_cons_succ, List.set_cons_zero, List.set_cons_succ, List.length_cons, List.length_nil, List.map_cons, List.map_nil, List.cons_append, List.nil_append, List.append_nil, Nat.zero_add, Nat.reduceAdd, Nat.reduceLT, List.replicate_succ, List.replicate_zero, Int.reduceLT, Int.reduceNeg, and_self, true_and, and_true, hc0, hc1, hfl, x0, x1, x2, x3, x4, x5, x6, L7, L12, y0, L8, k60, hdg, M0, M1, M2, M3, L0, M4, ME, ym, hsrc, hcomp, q2, q5, q6, hnI2, hrow, D1, F1, n1, xd, cut_iD, c1r, c2r, c3r, c4r, k1, k2, L1, F2, F3, st_i _ _ _ _ hix, st_i _ _ _ _ hix2, hat, iD_set, hss, F4, F5, af0, af1, hposD, hl, D6, F6, F7, hcut, Bool.not_true, Bool.not_false, Bool.false_eq_true, if_false, if_true, Bool.and_self]
  · have hposD : decide (0 < row[pn]) = false := by simpa using hpos
    obtain ⟨x', y', hl⟩ := hloop (some (.scr ns)) (some (.sh (.lst (iD fl)))) (some (.sh (.int n))) (some (.sh (.lst (iD dg)))) (some (.sh (.lst (iD menu)))) (some (.sh (.lst (iD raw)))) (some (.sh (.lst (iD [(d : Int)])))) (some (.sh (.int tn))) (some (.lst ((iD (row.set pn (row[pn] + 1))).map T.sh))) none
    simp only [ca_frozen_frozen, ca_turning_frozen, ca__law_due__law_good, ca__law_fine__law_asked, ca__law_fine__law_whole, ca_law__law_cell, ca_law__law_digits, ca_law__law_due, ca_law__law_filled, ca_law__law_fine, okD_i, okD_b, okD_s, okT_sh, dR_some, tR_some, varR_t, y_var, y_int, y_bl, y_str, y_non, y_bin, y_neg, y_cmp, y_and, y_or, y_not, y_ite, y_tup, y_lst, y_ix, y_sl, y_call, y_bi, y_isi, y_comp, y_nil, y_cons, t_and, t_or, t_not, t_var, t_cst, t_cmp, t_call, t_bi, t_isi, t_ix, b_add, b_sub, b_mul, b_mod, b_div, b_10_18, n_i, c_eq, c_ne, c_lt, c_le, c_gt, c_ge, v_and, v_or, v_not, r_ite, tt_b, tt_and, tt_or, tt_not, k_i, k_b, k_s, k_d, k_t, k_f, i_int, i_bl, i_str, i_tup, i_lst, i_rolst, i_rotup, bi_int, bi_min, bi_max, l_sl, l_st, l_rl, l_rt, l_ow, l_fr, l_sc, m_sl, m_st, m_rl, m_rt, m_ow, m_fr, u_sl, u_st, u_rl, u_ow, u_fr, s_sl', s_st', s_rl', s_rt', s_ow', x_sl, x_st, x_ow, x_fr, x_rl, x_rt, x_rli, x_rti, x_sc, p_none, p_some, z_sl, z_ow, z_fr, z_rl, z_st, a_ff, a_fl, a_lf, a_ll, lst_0, srcR_ok, w_sl, w_st, w_rl, w_rt, w_ow, w_fr, w_sc, w_r1, w_r1n, e_nil, e_cons, q_nx, q_ret, q_brk, q_cnt, q_exc, e_asg, e_own, e_app, e_setI, e_ret, e_retN, e_if, e_rse, g_nm, a_i, a_b, a_s, a_d, a_f, a_exc, o_f, p_i, p_d, rt_i, rt_b, rt_s, rt_d, rt_f, rt_o, rt_x, if_k, if_x, ro_i, ro_b, ro_s, ro_d, ro_f, ro_x, ou_i, ou_b, ou_s, ou_d, ou_f, ou_x, ar_sh, ar_ro, ar_sc, ar_ow, ar_fr, y_t0, y_t1, List.getElem?_cons_zero, List.getElem?_cons_succ, List.set_cons_zero, List.set_cons_succ, List.length_cons, List.length_nil, List.map_cons, List.map_nil, List.cons_append, List.nil_append, List.append_nil, Nat.zero_add, Nat.reduceAdd, Nat.reduceLT, List.replicate_succ, List.replicate_zero, Int.reduceLT, Int.reduceNeg, and_self, true_and, and_true, hc0, hc1, hfl, x0, x1, x2, x3, x4, x5, x6, L7, L12, y0, L8, k60, hdg, M0, M1, M2, M3, L0, M4, ME, ym, hsrc, hcomp, q2, q5, q6, hnI2, hrow, D1, F1, n1, xd, cut_iD, c1r, c2r, c3r, c4r, k1, k2, L1, F2, F3, st_i _ _ _ _ hix, hat, iD_set, F4, af0, af1, hposD, hl, D6, F6, F7, hcut, Bool.not_true, Bool.not_false, Bool.false_eq_true, if_false, if_true, Bool.and_self]
end Mi.K75

set_option Elab.async false
set_option linter.all false
set_option maxRecDepth 100000
set_option maxHeartbeats 0
namespace Mi
open PySem PySem.Spec PyProof.Rows L2
theorem fn_cx0 {P : Program} {wo : World} {K : PySem.W.Frag} {mg : Str → Option Value} {base : Heap} {k : Nat} {f : Addr} {fd : FuncData} {ps : List Str} {sp0 : List V → Hp → VK → Prop}
    (F : FnOk P wo K mg base (L2.CX P wo) k f fd ps (fun vs H Q _ => sp0 vs H Q)) : FnOk P wo K mg base L2.CX0 k f fd ps (fun vs H Q _ => sp0 vs H Q) :=
  ⟨fun vs H Q E h => F.len vs H Q E h, fun A outer s H args us vs Q E hr he hb hv hs => codeAny_mono (F.run A outer s H args us vs Q (fun _ _ _ => False) hr he hb hv hs) fun r s' h => by
    cases r with
    | ok fl => cases fl <;> exact h
    | error e =>
      obtain ⟨_, _, _, _, _, _, _, _, _, _, _, _, z⟩ := h
      exact z.elim⟩
end Mi
namespace Mi.K75
open PySem PySem.Spec PyProof.Rows L2 Mi
abbrev R : PySem.W.OpenRow := PySem.W.OpenLaw.row PySem.Challenge.rw_onereader_k75_turnings
abbrev hk : PySem.W.Hook := He.hookX 4 fa fn [] [] exB
def ob (s : PySem.W.SharedT) : He.AlX := He.obsX 4 fa fn [] [] exB (HandSHeadRun.getT s)
theorem ob_eq (s : PySem.W.SharedT) : ob s = hk.obs s.abs := He.obsX_eq (HandSHeadRun.getT_eq s)
def loose : List PySem.Str := ["ReaderError", "BadNumber", "NoReading", "frozen", "turning", "_law_whole", "_law_cell", "_law_digits", "_law_filled", "_law_good", "_law_due", "_law_asked", "_law_fine"]
theorem run (w : World) : HandSHeadRun.RunEq R (PySem.W.view R.prog [17]) hk ob 4000 loose w := by
  intro os
  kernel_rfl
end Mi.K75
open PySem PySem.W PySem.Calls PyProof.Rows
theorem PySem.Challenge.cw_onereader_k75_turnings_holds : PySem.Challenge.rw_onereader_k75_turnings.Holds := by
  w_on; o_law
  refine HandSHeadRun.head_any (r := OpenLaw.row PySem.Challenge.rw_onereader_k75_turnings) (q := view (OpenLaw.row PySem.Challenge.rw_onereader_k75_turnings).prog [17]) (H := Mi.K75.hk) (ob := Mi.K75.ob) (M := 4000) (loose := Mi.K75.loose) (d := HandSHeadRun.topDef (OpenLaw.row PySem.Challenge.rw_onereader_k75_turnings).prog 17) (kwd := []) Mi.K75.ob_eq
    (by kernel_rfl) (fun s => by kernel_rfl) Mi.K75.run (by kernel_rfl) (by kernel_rfl) (by kernel_rfl) (by rfl) (by first | assumption | decide +kernel) (by decide +kernel) ⟨rfl, rfl, rfl, rfl, rfl, by decide +kernel⟩ ?hw ?hc
  case hw => w_witness2
  case hc =>
    refine L2.walk_ofE (l := PySem.Challenge.rw_onereader_k75_turnings) (n := 63) (k := 24) (x := "script") (CX := L2.CX0) rfl (by decide) (by kernel_rfl) ⟨rfl, by decide, by decide⟩ ?F (fun _ _ _ _ z => z)
    intro w mg fa h Y G hmg0
    obtain ⟨K, KX, c⟩ := Y
    have hmg : mg ("law" : PySem.Str) = some (.ref fa) := by
      have e : (HandSHeadRun.topDef (OpenLaw.row PySem.Challenge.rw_onereader_k75_turnings).prog 17).name = ("law" : PySem.Str) := by kernel_rfl
      rw [← e]
      exact hmg0
    obtain ⟨fd, F⟩ := c.t.d.defs (d := Mi.K75.d_law) (by simp [Mi.K75.fn])
    have e : fa = He.ga K "law" := by
      have := hmg.symm.trans (He.glo_ok KX G (c.t.d.facts (f := .glo "law") (by simp [Mi.K75.fa])))
      cases this
      rfl
    subst e
    have F : L2.FunD (Mi.K75.wd K).K "law" "law" (L2.defArgs Mi.K75.st_law) (L2.defBody Mi.K75.st_law) (L2.defScope Mi.K75.st_law) [] [] (He.ga K "law") fd := F
    have b := L2.FunD.bindsA (ps := ["script"]) F fun _ _ _ _ _ _ us hl => match us, hl with | [_], _ => rfl
    refine ⟨K, fd, _, KX, fun s v => b s [v] rfl, ?_, fun base _ _ => Mi.fn_cx0 (Mi.law_run (Mi.def_ok (c := Mi.K75.c_law) F (Mi.env1 (Mi.K75.mod1 KX G c.t.d) (Mi.K75.su_law KX G c.t.d c.more)) Mi.K75.sc_law Mi.K75.ch_law) Mi.K75.law_math)⟩
    exact fun H a ns hl _ hS => ⟨a, ns, rfl, hl, hS, fun _ => rfl⟩

