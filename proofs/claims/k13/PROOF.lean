import PyProof.Rows.All
import Wide.All
import OpenK.AllK
import Wide.FinOn
import HandS.ForMost
import HandS.Wide
import HandS.WideBits
import HandS.Evl
import HandS.IsInst
import HandS.Zip
import PySem.Challenge.RW_keepsakes_k13_one_number_changed
set_option Elab.async false
set_option linter.all false
set_option maxRecDepth 100000
set_option maxHeartbeats 4000000
namespace KS
open PySem L2
abbrev Ex := Evl.Ex

/-! ### data -/
inductive D where
  | non | bl (b : Bool) | int (i : Int) | str (s : Str) | ty (n : String) | cls (C : Addr)
  | tup (l : List D) | lst (l : List D) | scr (l : List D) | dic (ks : List Key) (l : List D) | obj (C : Addr) (ns : List Str) (l : List D)
  deriving Inhabited
mutual
def rep (K : PySem.W.Frag) (H : Hp) : D → V → Prop
  | .non, v => v = .non
  | .bl b, v => v = .bl b
  | .int i, v => v = .int i
  | .str s, v => v = .str s
  | .ty n, v => v = .ty n
  | .cls C, v => v = .ref C
  | .tup l, v => ∃ a xs, v = .ref a ∧ SqT K H a xs ∧ reps K H l xs
  | .lst l, v => ∃ a xs, v = .ref a ∧ H a = some (.lst xs) ∧ reps K H l xs
  | .scr l, v => ∃ a xs, v = .ref a ∧ SqL K H a xs ∧ reps K H l xs
  | .dic ks l, v => ∃ a xs, v = .ref a ∧ Rd H a (.dK (ks.zip xs)) ∧ xs.length = ks.length ∧ reps K H l xs
  | .obj C ns l, v => ∃ a dx xs, v = .ref a ∧ H a = some (.ins C dx (ns.zip xs)) ∧ xs.length = ns.length ∧ reps K H l xs
def reps (K : PySem.W.Frag) (H : Hp) : List D → List V → Prop
  | [], xs => xs = []
  | d :: ds, xs => ∃ x r, xs = x :: r ∧ rep K H d x ∧ reps K H ds r
end
mutual
theorem rep_mono {K : PySem.W.Frag} {H H' : Hp} (e : Ex H H') : ∀ {d : D} {v : V}, rep K H d v → rep K H' d v
  | .non, _, h => h
  | .bl _, _, h => h
  | .int _, _, h => h
  | .str _, _, h => h
  | .ty _, _, h => h
  | .cls _, _, h => h
  | .tup l, v, h => by
    obtain ⟨a, xs, h1, h2, h3⟩ := h
    exact ⟨a, xs, h1, Evl.ex_t e h2, reps_mono e h3⟩
  | .lst l, v, h => by
    obtain ⟨a, xs, h1, h2, h3⟩ := h
    exact ⟨a, xs, h1, e _ _ h2, reps_mono e h3⟩
  | .scr l, v, h => by
    obtain ⟨a, xs, h1, h2, h3⟩ := h
    exact ⟨a, xs, h1, Evl.ex_l e h2, reps_mono e h3⟩
  | .dic ks l, v, h => by
    obtain ⟨a, xs, h1, h2, h3, h4⟩ := h
    exact ⟨a, xs, h1, Evl.ex_rd e h2, h3, reps_mono e h4⟩
  | .obj C ns l, v, h => by
    obtain ⟨a, dx, xs, h1, h2, h3, h4⟩ := h
    exact ⟨a, dx, xs, h1, e _ _ h2, h3, reps_mono e h4⟩
theorem reps_mono {K : PySem.W.Frag} {H H' : Hp} (e : Ex H H') : ∀ {ds : List D} {xs : List V}, reps K H ds xs → reps K H' ds xs
  | [], _, h => h
  | d :: ds, _, h => by
    obtain ⟨x, r, h1, h2, h3⟩ := h
    exact ⟨x, r, h1, rep_mono e h2, reps_mono e h3⟩
end
theorem reps_len {K : PySem.W.Frag} {H : Hp} : ∀ {ds : List D} {xs : List V}, reps K H ds xs → xs.length = ds.length
  | [], xs, h => by
    have h' : xs = [] := h
    rw [h']; rfl
  | d :: ds, xs, h => by
    obtain ⟨x, r, rfl, h2, h3⟩ := h
    simp [reps_len h3]
theorem reps_get {K : PySem.W.Frag} {H : Hp} : ∀ {ds : List D} {xs : List V} {i : Nat} {x : V}, reps K H ds xs → xs[i]? = some x → ∃ d, ds[i]? = some d ∧ rep K H d x
  | [], xs, i, x, h, e => by
    have h' : xs = [] := h
    rw [h'] at e; simp at e
  | d :: ds, xs, i, x, h, e => by
    obtain ⟨y, r, rfl, h2, h3⟩ := h
    cases i with
    | zero => simp at e; subst e; exact ⟨d, by simp, h2⟩
    | succ i => simp at e; obtain ⟨d', e1, e2⟩ := reps_get h3 e; exact ⟨d', by simpa using e1, e2⟩
theorem reps_get' {K : PySem.W.Frag} {H : Hp} {ds : List D} {xs : List V} {i : Nat} {d : D} (h : reps K H ds xs) (e : ds[i]? = some d) : ∃ x, xs[i]? = some x ∧ rep K H d x := by
  have hl := reps_len h
  have hi : i < ds.length := (List.getElem?_eq_some_iff.mp e).1
  have hx : xs[i]? = some (xs[i]'(by omega)) := List.getElem?_eq_getElem _
  obtain ⟨d', e1, e2⟩ := reps_get h hx
  rw [e] at e1; cases e1
  exact ⟨_, hx, e2⟩
theorem reps_append {K : PySem.W.Frag} {H : Hp} : ∀ {ds es : List D} {xs ys : List V}, reps K H ds xs → reps K H es ys → reps K H (ds ++ es) (xs ++ ys)
  | [], es, xs, ys, h, g => by
    have h' : xs = [] := h
    subst h'; exact g
  | d :: ds, es, xs, ys, h, g => by
    obtain ⟨x, r, rfl, h2, h3⟩ := h
    exact ⟨x, r ++ ys, rfl, h2, reps_append h3 g⟩
theorem reps_drop {K : PySem.W.Frag} {H : Hp} : ∀ (n : Nat) {ds : List D} {xs : List V}, reps K H ds xs → reps K H (ds.drop n) (xs.drop n)
  | 0, _, _, h => by simpa using h
  | n + 1, [], xs, h => by
    have h' : xs = [] := h
    subst h'; simp [reps]
  | n + 1, d :: ds, xs, h => by
    obtain ⟨x, r, rfl, h2, h3⟩ := h
    simpa using reps_drop n h3
theorem reps_take {K : PySem.W.Frag} {H : Hp} : ∀ (n : Nat) {ds : List D} {xs : List V}, reps K H ds xs → reps K H (ds.take n) (xs.take n)
  | 0, _, _, h => by simp [reps]
  | n + 1, [], xs, h => by
    have h' : xs = [] := h
    subst h'; simp [reps]
  | n + 1, d :: ds, xs, h => by
    obtain ⟨x, r, rfl, h2, h3⟩ := h
    exact ⟨x, r.take n, by simp, h2, reps_take n h3⟩
theorem reps_ints {K : PySem.W.Frag} {H : Hp} : ∀ {ns : List Int} {xs : List V}, reps K H (ns.map D.int) xs → xs = ns.map V.int
  | [], xs, h => h
  | n :: ns, xs, h => by
    obtain ⟨x, r, rfl, h2, h3⟩ := h
    have h2' : x = V.int n := h2
    rw [h2', reps_ints h3]; rfl
theorem reps_of_ints {K : PySem.W.Frag} {H : Hp} : ∀ (ns : List Int), reps K H (ns.map D.int) (ns.map V.int)
  | [] => rfl
  | n :: ns => ⟨_, _, rfl, rfl, reps_of_ints ns⟩
/-- a list, however it is held -/
def D.asL : D → Option (List D)
  | .lst l => some l
  | .scr l => some l
  | _ => none
theorem rep_asL {K : PySem.W.Frag} {H : Hp} : ∀ {d : D} {l : List D} {v : V}, d.asL = some l → rep K H d v → ∃ a xs, v = .ref a ∧ SqL K H a xs ∧ reps K H l xs
  | .lst l, _, v, e, h => by
    cases e
    obtain ⟨a, xs, h1, h2, h3⟩ := h
    exact ⟨a, xs, h1, SqL.of h2, h3⟩
  | .scr l, _, v, e, h => by
    cases e
    exact h
/-- a list or a tuple -/
def D.asS : D → Option (List D)
  | .lst l => some l
  | .scr l => some l
  | .tup l => some l
  | _ => none
theorem rep_asS {K : PySem.W.Frag} {H : Hp} : ∀ {d : D} {l : List D} {v : V}, d.asS = some l → rep K H d v → ∃ a xs, v = .ref a ∧ (SqL K H a xs ∨ SqT K H a xs) ∧ reps K H l xs
  | .lst l, _, v, e, h => by
    cases e
    obtain ⟨a, xs, h1, h2, h3⟩ := h
    exact ⟨a, xs, h1, .inl (SqL.of h2), h3⟩
  | .scr l, _, v, e, h => by
    cases e
    obtain ⟨a, xs, h1, h2, h3⟩ := h
    exact ⟨a, xs, h1, .inl h2, h3⟩
  | .tup l, _, v, e, h => by
    cases e
    obtain ⟨a, xs, h1, h2, h3⟩ := h
    exact ⟨a, xs, h1, .inr h2, h3⟩
/-- a datum without parts, as a value -/
def D.sc : D → Option V
  | .non => some .non
  | .bl b => some (.bl b)
  | .int i => some (.int i)
  | .str s => some (.str s)
  | .ty n => some (.ty n)
  | .cls C => some (.ref C)
  | _ => none
theorem rep_sc {K : PySem.W.Frag} {H : Hp} : ∀ {d : D} {v : V}, d.sc = some v → rep K H d v
  | .non, _, h => by cases h; rfl
  | .bl _, _, h => by cases h; rfl
  | .int _, _, h => by cases h; rfl
  | .str _, _, h => by cases h; rfl
  | .ty _, _, h => by cases h; rfl
  | .cls _, _, h => by cases h; rfl
theorem sc_rep {K : PySem.W.Frag} {H : Hp} : ∀ {d : D} {v w : V}, d.sc = some v → rep K H d w → w = v
  | .non, _, _, h, r => by cases h; exact r
  | .bl _, _, _, h, r => by cases h; exact r
  | .int _, _, _, h, r => by cases h; exact r
  | .str _, _, _, h, r => by cases h; exact r
  | .ty _, _, _, h, r => by cases h; exact r
  | .cls _, _, _, h, r => by cases h; exact r

/-! ### what a name holds: a datum that never changes, or an own thing that may -/
inductive Sh where
  | lst | dic (ks : List Key) | ins (C : Addr) (ns : List Str) | tup
def Sh.ho : Sh → Addr → List V → HO
  | .lst, _, vs => .lst vs
  | .dic ks, _, vs => .dK (ks.zip vs)
  | .ins C ns, dx, vs => .ins C dx (ns.zip vs)
  | .tup, _, vs => .tup vs
def Sh.fit : Sh → Nat → Prop
  | .lst, _ => True
  | .dic ks, n => ks.length = n
  | .ins _ ns, n => ns.length = n
  | .tup, _ => True
inductive M where
  | emp | im (d : D) | nd (sh : Sh) (cs : List M)
  deriving Inhabited
mutual
def M.fz : M → Option D
  | .emp => none
  | .im d => some d
  | .nd .lst cs => (M.fzs cs).map D.lst
  | .nd (.dic ks) cs => (M.fzs cs).map (D.dic ks)
  | .nd (.ins C ns) cs => (M.fzs cs).map (D.obj C ns)
  | .nd .tup cs => (M.fzs cs).map D.tup
def M.fzs : List M → Option (List D)
  | [] => some []
  | m :: ms => match M.fz m, M.fzs ms with
    | some d, some ds => some (d :: ds)
    | _, _ => none
end
mutual
def Own (K : PySem.W.Frag) (Hb H : Hp) : M → V → List Addr → Prop
  | .emp, _, F => F = []
  | .im d, v, F => rep K Hb d v ∧ F = []
  | .nd sh cs, v, F => ∃ a dx vs F1, v = .ref a ∧ H a = some (sh.ho dx vs) ∧ sh.fit vs.length ∧ OwnL K Hb H cs vs F1 ∧ F = a :: F1
def OwnL (K : PySem.W.Frag) (Hb H : Hp) : List M → List V → List Addr → Prop
  | [], vs, F => vs = [] ∧ F = []
  | m :: ms, vs, F => ∃ v r F1 F2, vs = v :: r ∧ Own K Hb H m v F1 ∧ OwnL K Hb H ms r F2 ∧ F = F1 ++ F2
end
mutual
theorem Own.keep {K : PySem.W.Frag} {Hb H Hb2 H2 : Hp} (eb : Ex Hb Hb2) : ∀ {m : M} {v : V} {F : List Addr}, Own K Hb H m v F → (∀ a ∈ F, ∀ o, H a = some o → H2 a = some o) → Own K Hb2 H2 m v F
  | .emp, _, _, h, _ => h
  | .im d, _, _, h, _ => ⟨rep_mono eb h.1, h.2⟩
  | .nd sh cs, _, _, h, k => by
    obtain ⟨a, dx, vs, F1, e1, e2, e3, e4, rfl⟩ := h
    exact ⟨a, dx, vs, F1, e1, k a List.mem_cons_self _ e2, e3, OwnL.keep eb e4 fun b hb => k b (List.mem_cons_of_mem _ hb), rfl⟩
theorem OwnL.keep {K : PySem.W.Frag} {Hb H Hb2 H2 : Hp} (eb : Ex Hb Hb2) : ∀ {ms : List M} {vs : List V} {F : List Addr}, OwnL K Hb H ms vs F → (∀ a ∈ F, ∀ o, H a = some o → H2 a = some o) → OwnL K Hb2 H2 ms vs F
  | [], _, _, h, _ => h
  | m :: ms, _, _, h, k => by
    obtain ⟨v, r, F1, F2, rfl, e1, e2, rfl⟩ := h
    exact ⟨v, r, F1, F2, rfl, Own.keep eb e1 fun a ha => k a (List.mem_append_left _ ha), OwnL.keep eb e2 fun a ha => k a (List.mem_append_right _ ha), rfl⟩
end
mutual
theorem Own.there {K : PySem.W.Frag} {Hb H : Hp} : ∀ {m : M} {v : V} {F : List Addr}, Own K Hb H m v F → ∀ a ∈ F, H a ≠ none
  | .emp, _, _, h, a, ha => by rw [show _ = [] from h] at ha; cases ha
  | .im d, _, _, h, a, ha => by rw [h.2] at ha; cases ha
  | .nd sh cs, _, _, h, a, ha => by
    obtain ⟨b, dx, vs, F1, e1, e2, e3, e4, rfl⟩ := h
    rcases List.mem_cons.mp ha with rfl | ha
    · rw [e2]; simp
    · exact OwnL.there e4 a ha
theorem OwnL.there {K : PySem.W.Frag} {Hb H : Hp} : ∀ {ms : List M} {vs : List V} {F : List Addr}, OwnL K Hb H ms vs F → ∀ a ∈ F, H a ≠ none
  | [], _, _, h, a, ha => by rw [h.2] at ha; cases ha
  | m :: ms, _, _, h, a, ha => by
    obtain ⟨v, r, F1, F2, rfl, e1, e2, rfl⟩ := h
    rcases List.mem_append.mp ha with ha | ha
    · exact Own.there e1 a ha
    · exact OwnL.there e2 a ha
end
/-! frozen: the own things are part of what never changes from now on -/
mutual
theorem Own.fz {K : PySem.W.Frag} {Hb H Hb2 : Hp} (eb : Ex Hb Hb2) : ∀ {m : M} {v : V} {F : List Addr} {d : D}, Own K Hb H m v F → m.fz = some d → (∀ a ∈ F, ∀ o, H a = some o → Hb2 a = some o) → rep K Hb2 d v
  | .emp, _, _, _, _, e, _ => by simp [M.fz] at e
  | .im d, _, _, _, h, e, _ => by
    simp [M.fz] at e; subst e
    exact rep_mono eb h.1
  | .nd .lst cs, v, F, d, h, e, k => by
    obtain ⟨a, dx, vs, F1, e1, e2, e3, e4, rfl⟩ := h
    simp only [M.fz, Option.map_eq_some_iff] at e
    obtain ⟨ds, e5, rfl⟩ := e
    exact ⟨a, vs, e1, k a List.mem_cons_self _ e2, OwnL.fz eb e4 e5 fun b hb => k b (List.mem_cons_of_mem _ hb)⟩
  | .nd .tup cs, v, F, d, h, e, k => by
    obtain ⟨a, dx, vs, F1, e1, e2, e3, e4, rfl⟩ := h
    simp only [M.fz, Option.map_eq_some_iff] at e
    obtain ⟨ds, e5, rfl⟩ := e
    exact ⟨a, vs, e1, SqT.of (k a List.mem_cons_self _ e2), OwnL.fz eb e4 e5 fun b hb => k b (List.mem_cons_of_mem _ hb)⟩
  | .nd (.dic ks) cs, v, F, d, h, e, k => by
    obtain ⟨a, dx, vs, F1, e1, e2, e3, e4, rfl⟩ := h
    simp only [M.fz, Option.map_eq_some_iff] at e
    obtain ⟨ds, e5, rfl⟩ := e
    exact ⟨a, vs, e1, Rd.of (k a List.mem_cons_self _ e2), Eq.symm e3, OwnL.fz eb e4 e5 fun b hb => k b (List.mem_cons_of_mem _ hb)⟩
  | .nd (.ins C ns) cs, v, F, d, h, e, k => by
    obtain ⟨a, dx, vs, F1, e1, e2, e3, e4, rfl⟩ := h
    simp only [M.fz, Option.map_eq_some_iff] at e
    obtain ⟨ds, e5, rfl⟩ := e
    exact ⟨a, dx, vs, e1, k a List.mem_cons_self _ e2, Eq.symm e3, OwnL.fz eb e4 e5 fun b hb => k b (List.mem_cons_of_mem _ hb)⟩
theorem OwnL.fz {K : PySem.W.Frag} {Hb H Hb2 : Hp} (eb : Ex Hb Hb2) : ∀ {ms : List M} {vs : List V} {F : List Addr} {ds : List D}, OwnL K Hb H ms vs F → M.fzs ms = some ds → (∀ a ∈ F, ∀ o, H a = some o → Hb2 a = some o) → reps K Hb2 ds vs
  | [], _, _, _, h, e, _ => by
    simp [M.fzs] at e; subst e
    exact h.1
  | m :: ms, _, _, _, h, e, k => by
    obtain ⟨v, r, F1, F2, rfl, e1, e2, rfl⟩ := h
    simp only [M.fzs] at e
    split at e
    · rename_i d ds h1 h2
      cases e
      exact ⟨v, r, rfl, Own.fz eb e1 h1 fun a ha => k a (List.mem_append_left _ ha), OwnL.fz eb e2 h2 fun a ha => k a (List.mem_append_right _ ha)⟩
    · cases e
end

/-! ### the slots -/
def SlO (K : PySem.W.Frag) (Hb H : Hp) (m : M) (s : Option V) (F : List Addr) : Prop := match m with
  | .emp => F = []
  | m => ∃ v, s = some v ∧ Own K Hb H m v F
def OwnS (K : PySem.W.Frag) (Hb H : Hp) : List M → St → List Addr → Prop
  | [], σ, F => σ = [] ∧ F = []
  | m :: Γ, σ, F => ∃ s r F1 F2, σ = s :: r ∧ SlO K Hb H m s F1 ∧ OwnS K Hb H Γ r F2 ∧ F = F1 ++ F2
theorem SlO.keep {K : PySem.W.Frag} {Hb H Hb2 H2 : Hp} {m : M} {s : Option V} {F : List Addr} (eb : Ex Hb Hb2) (h : SlO K Hb H m s F) (k : ∀ a ∈ F, ∀ o, H a = some o → H2 a = some o) : SlO K Hb2 H2 m s F := by
  cases m with
  | emp => exact h
  | im d => obtain ⟨v, e, o⟩ := h; exact ⟨v, e, o.keep eb k⟩
  | nd sh cs => obtain ⟨v, e, o⟩ := h; exact ⟨v, e, o.keep eb k⟩
theorem OwnS.keep {K : PySem.W.Frag} {Hb H Hb2 H2 : Hp} (eb : Ex Hb Hb2) : ∀ {Γ : List M} {σ : St} {F : List Addr}, OwnS K Hb H Γ σ F → (∀ a ∈ F, ∀ o, H a = some o → H2 a = some o) → OwnS K Hb2 H2 Γ σ F
  | [], _, _, h, _ => h
  | m :: Γ, _, _, h, k => by
    obtain ⟨v, r, F1, F2, rfl, e1, e2, rfl⟩ := h
    exact ⟨v, r, F1, F2, rfl, e1.keep eb fun a ha => k a (List.mem_append_left _ ha), OwnS.keep eb e2 fun a ha => k a (List.mem_append_right _ ha), rfl⟩
theorem SlO.there {K : PySem.W.Frag} {Hb H : Hp} {m : M} {s : Option V} {F : List Addr} (h : SlO K Hb H m s F) : ∀ a ∈ F, H a ≠ none := by
  cases m with
  | emp => intro a ha; rw [show F = [] from h] at ha; cases ha
  | im d => obtain ⟨v, e, o⟩ := h; exact o.there
  | nd sh cs => obtain ⟨v, e, o⟩ := h; exact o.there
theorem OwnS.there {K : PySem.W.Frag} {Hb H : Hp} : ∀ {Γ : List M} {σ : St} {F : List Addr}, OwnS K Hb H Γ σ F → ∀ a ∈ F, H a ≠ none
  | [], _, _, h, a, ha => by rw [h.2] at ha; cases ha
  | m :: ms, _, _, h, a, ha => by
    obtain ⟨v, r, F1, F2, rfl, e1, e2, rfl⟩ := h
    rcases List.mem_append.mp ha with ha | ha
    · exact e1.there a ha
    · exact OwnS.there e2 a ha
theorem OwnS.len {K : PySem.W.Frag} {Hb H : Hp} : ∀ {Γ : List M} {σ : St} {F : List Addr}, OwnS K Hb H Γ σ F → σ.length = Γ.length
  | [], _, _, h => by rw [h.1]; rfl
  | m :: ms, _, _, h => by
    obtain ⟨v, r, F1, F2, rfl, e1, e2, rfl⟩ := h
    simp [OwnS.len e2]
/-- a slot, and what may stand in its place -/
theorem OwnS.at {K : PySem.W.Frag} {Hb H : Hp} : ∀ {Γ : List M} {σ : St} {F : List Addr} {i : Nat} {m : M}, OwnS K Hb H Γ σ F → Γ[i]? = some m →
    ∃ s A B Fi, σ[i]? = some s ∧ SlO K Hb H m s Fi ∧ F = A ++ (Fi ++ B) ∧
      ∀ (Hb2 H2 : Hp) (m2 : M) (s2 : Option V) (F2 : List Addr), Ex Hb Hb2 → (∀ a ∈ A ++ B, ∀ o, H a = some o → H2 a = some o) → SlO K Hb2 H2 m2 s2 F2 → OwnS K Hb2 H2 (Γ.set i m2) (σ.set i s2) (A ++ (F2 ++ B))
  | [], _, _, i, m, h, e => by simp at e
  | m0 :: Γ, _, _, 0, m, h, e => by
    obtain ⟨s, r, F1, F2, rfl, e1, e2, rfl⟩ := h
    simp at e; subst e
    refine ⟨s, [], F2, F1, by simp, e1, by simp, fun Hb2 H2 m2 s2 G eb k h2 => ?_⟩
    exact ⟨s2, r, G, F2, by simp, h2, OwnS.keep eb e2 fun a ha => k a (by simpa using ha), by simp⟩
  | m0 :: Γ, _, _, i + 1, m, h, e => by
    obtain ⟨s, r, F1, F2, rfl, e1, e2, rfl⟩ := h
    simp at e
    obtain ⟨s', A, B, Fi, h1, h2, h3, h4⟩ := OwnS.at e2 e
    refine ⟨s', F1 ++ A, B, Fi, by simpa using h1, h2, by rw [h3]; simp, fun Hb2 H2 m2 s2 G eb k g => ?_⟩
    refine ⟨s, r.set i s2, F1, A ++ (G ++ B), by simp, e1.keep eb fun a ha => k a ?_, h4 Hb2 H2 m2 s2 G eb (fun a ha => k a ?_) g, by simp⟩
    · simp [ha]
    · rcases List.mem_append.mp ha with ha | ha <;> simp [ha]

structure WF (K : PySem.W.Frag) (Γ : List M) (σ : St) (Hb H : Hp) (F : List Addr) : Prop where
  ex : Ex Hb H
  own : OwnS K Hb H Γ σ F
  nd : F.Nodup
  fh : ∀ a ∈ F, Hb a = none
/-- from one state to a later one -/
structure Step (Hb H : Hp) (F : List Addr) (Hb2 H2 : Hp) (F2 : List Addr) : Prop where
  eb : Ex Hb Hb2
  fr : ∀ a o, H a = some o → a ∉ F → H2 a = some o
  fp : ∀ a ∈ F2, a ∈ F ∨ H a = none
  nb : ∀ a, Hb2 a ≠ none → Hb a ≠ none ∨ a ∈ F ∨ H a = none
theorem Step.refl {Hb H : Hp} {F : List Addr} : Step Hb H F Hb H F := ⟨Evl.Ex.refl _, fun _ _ h _ => h, fun _ h => .inl h, fun _ h => .inl h⟩
theorem Step.trans {Hb H Hb1 H1 Hb2 H2 : Hp} {F F1 F2 : List Addr} (a : Step Hb H F Hb1 H1 F1) (b : Step Hb1 H1 F1 Hb2 H2 F2) : Step Hb H F Hb2 H2 F2 := by
  have out : ∀ x, H x ≠ none → x ∉ F → x ∉ F1 ∧ H1 x ≠ none := fun x hx hf => by
    obtain ⟨o, ho⟩ : ∃ o, H x = some o := by
      cases e : H x with
      | none => exact absurd e hx
      | some o => exact ⟨o, rfl⟩
    refine ⟨fun z => ?_, by rw [a.fr x o ho hf]; simp⟩
    rcases a.fp x z with z | z
    · exact hf z
    · exact hx z
  have back : ∀ x, H1 x = none → x ∈ F ∨ H x = none := fun x hx => by
    by_cases hf : x ∈ F
    · exact .inl hf
    · refine .inr ?_
      cases e : H x with
      | none => rfl
      | some o => exact absurd hx (out x (by rw [e]; simp) hf).2
  refine ⟨Evl.Ex.trans a.eb b.eb, fun x o h hf => b.fr x o (a.fr x o h hf) (out x (by rw [h]; simp) hf).1, fun x hx => ?_, fun x hx => ?_⟩
  · rcases b.fp x hx with z | z
    · exact a.fp x z
    · exact back x z
  · rcases b.nb x hx with z | z | z
    · exact a.nb x z
    · exact .inr (a.fp x z)
    · exact .inr (back x z)
/-- new things of the fixed part are new in the heap -/
def NB (Hb Hb2 H : Hp) : Prop := ∀ a, Hb2 a ≠ none → Hb a ≠ none ∨ H a = none
theorem NB.refl {Hb H : Hp} : NB Hb Hb H := fun _ h => .inl h
theorem none_of_ex {H H2 : Hp} (e : Ex H H2) {a : Addr} (h : H2 a = none) : H a = none := Evl.fresh_back e h
theorem NB.trans {Hb Hb1 Hb2 H H1 : Hp} (a : NB Hb Hb1 H) (b : NB Hb1 Hb2 H1) (e : Ex H H1) : NB Hb Hb2 H := fun x hx => by
  rcases b x hx with z | z
  · exact a x z
  · exact .inr (none_of_ex e z)
/-- a pure step keeps the slots -/
theorem WF.pure {K : PySem.W.Frag} {Γ : List M} {σ : St} {Hb H Hb2 H2 : Hp} {F : List Addr} (w : WF K Γ σ Hb H F) (eb : Ex Hb Hb2) (e : Ex H H2) (e2 : Ex Hb2 H2) (n : NB Hb Hb2 H) : WF K Γ σ Hb2 H2 F :=
  ⟨e2, w.own.keep eb fun a _ o h => e a o h, w.nd, fun a ha => by
    cases h : Hb2 a with
    | none => rfl
    | some o =>
      rcases n a (by rw [h]; simp) with z | z
      · exact absurd (w.fh a ha) z
      · exact absurd z (w.own.there a ha)⟩
theorem Step.pure {Hb H Hb2 H2 : Hp} {F : List Addr} (eb : Ex Hb Hb2) (e : Ex H H2) (n : NB Hb Hb2 H) : Step Hb H F Hb2 H2 F :=
  ⟨eb, fun a o h _ => e a o h, fun a h => .inl h, fun a h => (n a h).elim .inl fun z => .inr (.inr z)⟩
theorem WF.slot {K : PySem.W.Frag} {Γ : List M} {σ : St} {Hb H : Hp} {F : List Addr} {i : Nat} {d : D} (w : WF K Γ σ Hb H F) (e : Γ[i]? = some (.im d)) : ∃ v, σ[i]? = some (some v) ∧ rep K Hb d v := by
  obtain ⟨s, A, B, Fi, h1, ⟨v, rfl, h2⟩, _⟩ := w.own.at e
  exact ⟨v, h1, h2.1⟩
/-- any name's value, as the heap stands -/
theorem WF.slotH {K : PySem.W.Frag} {Γ : List M} {σ : St} {Hb H : Hp} {F : List Addr} {i : Nat} {m : M} {d : D} (w : WF K Γ σ Hb H F) (e : Γ[i]? = some m) (ez : m.fz = some d) : ∃ v, σ[i]? = some (some v) ∧ rep K H d v := by
  obtain ⟨s, A, B, Fi, h1, h2, _⟩ := w.own.at e
  cases m with
  | emp => simp [M.fz] at ez
  | im d' =>
    obtain ⟨v, rfl, h3⟩ := h2
    exact ⟨v, h1, Own.fz w.ex h3 ez fun a _ o h => h⟩
  | nd sh cs =>
    obtain ⟨v, rfl, h3⟩ := h2
    exact ⟨v, h1, Own.fz w.ex h3 ez fun a _ o h => h⟩
end KS

namespace KS
open PySem L2

/-! ### the classes of pure expressions -/
/-- its value is a datum of the fixed part -/
structure Pb (K : PySem.W.Frag) (t : TE) where
  ev : List M → Option D
  ok : ∀ {Γ : List M} {d : D} {σ : St} {Hb H : Hp} {F : List Addr} {Q : VK}, ev Γ = some d → WF K Γ σ Hb H F →
    (∀ v Hb2 H2, Ex Hb Hb2 → Ex H H2 → Ex Hb2 H2 → NB Hb Hb2 H → rep K Hb2 d v → Q v H2) → t σ H Q
/-- its value is told by the heap as it stands -/
structure Ph (K : PySem.W.Frag) (t : TE) where
  ev : List M → Option D
  ok : ∀ {Γ : List M} {d : D} {σ : St} {Hb H : Hp} {F : List Addr} {Q : VK}, ev Γ = some d → WF K Γ σ Hb H F →
    (∀ v Hb2 H2, Ex Hb Hb2 → Ex H H2 → Ex Hb2 H2 → NB Hb Hb2 H → rep K H2 d v → Q v H2) → t σ H Q
/-- its value is a new thing of one's own -/
structure Po (K : PySem.W.Frag) (t : TE) where
  ev : List M → Option M
  ok : ∀ {Γ : List M} {m : M} {σ : St} {Hb H : Hp} {F : List Addr} {Q : VK}, ev Γ = some m → WF K Γ σ Hb H F →
    (∀ v Hb2 H2 Fr, Ex Hb Hb2 → Ex H H2 → Ex Hb2 H2 → NB Hb Hb2 H → Own K Hb2 H2 m v Fr → Fr.Nodup → (∀ a ∈ Fr, Hb2 a = none ∧ H a = none) → Q v H2) → t σ H Q
/-- argument lists -/
structure Ab (K : PySem.W.Frag) (t : TA) where
  ev : List M → Option (List D)
  ok : ∀ {Γ : List M} {ds : List D} {σ : St} {Hb H : Hp} {F : List Addr} {Q : List V → Hp → Prop}, ev Γ = some ds → WF K Γ σ Hb H F →
    (∀ vs Hb2 H2, Ex Hb Hb2 → Ex H H2 → Ex Hb2 H2 → NB Hb Hb2 H → reps K Hb2 ds vs → Q vs H2) → t σ H Q
structure Ah (K : PySem.W.Frag) (t : TA) where
  ev : List M → Option (List D)
  ok : ∀ {Γ : List M} {ds : List D} {σ : St} {Hb H : Hp} {F : List Addr} {Q : List V → Hp → Prop}, ev Γ = some ds → WF K Γ σ Hb H F →
    (∀ vs Hb2 H2, Ex Hb Hb2 → Ex H H2 → Ex Hb2 H2 → NB Hb Hb2 H → reps K H2 ds vs → Q vs H2) → t σ H Q
/-- tests -/
structure Tt (K : PySem.W.Frag) (t : TT) where
  ev : List M → Option Bool
  ok : ∀ {Γ : List M} {b : Bool} {σ : St} {Hb H : Hp} {F : List Addr} {Q : Bool → Hp → Prop}, ev Γ = some b → WF K Γ σ Hb H F →
    (∀ Hb2 H2, Ex Hb Hb2 → Ex H H2 → Ex Hb2 H2 → NB Hb Hb2 H → Q b H2) → t σ H Q

section
variable {K : PySem.W.Frag} {ta tb tc : TE} {tr : TA} {t u : TT} {r r' : R2}
def Pb.h (p : Pb K ta) : Ph K ta := ⟨p.ev, fun e w k => p.ok e w fun v Hb2 H2 e1 e2 e3 e4 q => k v Hb2 H2 e1 e2 e3 e4 (rep_mono e3 q)⟩
def Ab.h (p : Ab K tr) : Ah K tr := ⟨p.ev, fun e w k => p.ok e w fun v Hb2 H2 e1 e2 e3 e4 q => k v Hb2 H2 e1 e2 e3 e4 (reps_mono e3 q)⟩
/-- a new thing, frozen at once -/
def Po.b (p : Po K ta) : Pb K ta where
  ev := fun Γ => (p.ev Γ).bind M.fz
  ok := fun {Γ d σ Hb H F Q} e w k => by
    obtain ⟨m, e1, e2⟩ := Option.bind_eq_some_iff.mp e
    refine p.ok e1 w fun v Hb2 H2 Fr x1 x2 x3 x4 o nd fr => ?_
    have y1 : Ex Hb2 (fun a => if a ∈ Fr then H2 a else Hb2 a) := fun a ob ha => by
      by_cases hf : a ∈ Fr
      · rw [(fr a hf).1] at ha; cases ha
      · show (if a ∈ Fr then H2 a else Hb2 a) = some ob
        rw [if_neg hf]; exact ha
    refine k v (fun a => if a ∈ Fr then H2 a else Hb2 a) H2 (Evl.Ex.trans x1 y1) x2 (fun a ob ha => ?_) (fun a ha => ?_) (Own.fz y1 o e2 fun a hf ob ha => ?_)
    · by_cases hf : a ∈ Fr
      · simpa [hf] using ha
      · exact x3 a ob (by simpa [hf] using ha)
    · by_cases hf : a ∈ Fr
      · exact .inr (fr a hf).2
      · exact x4 a (by simpa [hf] using ha)
    · show (if a ∈ Fr then H2 a else Hb2 a) = some ob
      rw [if_pos hf]; exact ha
def Po.h (p : Po K ta) : Ph K ta := p.b.h
/-- scalars need no heap -/
def Ph.s (p : Ph K ta) : Pb K ta where
  ev := fun Γ => (p.ev Γ).bind fun d => if d.sc.isSome then some d else none
  ok := fun {Γ d σ Hb H F Q} e w k => by
    obtain ⟨d', e1, e2⟩ := Option.bind_eq_some_iff.mp e
    refine p.ok e1 w fun v Hb2 H2 x1 x2 x3 x4 o => ?_
    by_cases hs : d'.sc.isSome = true
    · simp [hs] at e2; subst e2
      obtain ⟨z, hz⟩ := Option.isSome_iff_exists.mp hs
      rw [sc_rep hz o]
      exact k _ Hb2 H2 x1 x2 x3 x4 (rep_sc hz)
    · simp [hs] at e2

def bVar (i : Nat) : Pb K (tVar i) where
  ev := fun Γ => match Γ[i]? with | some (.im d) => some d | _ => none
  ok := fun {Γ d σ Hb H F Q} e w k => by
    split at e
    · rename_i d' h
      cases e
      obtain ⟨v, e1, e2⟩ := w.slot h
      exact ⟨v, e1, k v Hb H (Evl.Ex.refl _) (Evl.Ex.refl _) w.ex NB.refl e2⟩
    · cases e
def hVar (i : Nat) : Ph K (tVar i) where
  ev := fun Γ => (Γ[i]?).bind M.fz
  ok := fun {Γ d σ Hb H F Q} e w k => by
    obtain ⟨m, e1, e2⟩ := Option.bind_eq_some_iff.mp e
    obtain ⟨v, e3, e4⟩ := w.slotH e1 e2
    exact ⟨v, e3, k v Hb H (Evl.Ex.refl _) (Evl.Ex.refl _) w.ex NB.refl e4⟩
def bC (d : D) {v : V} (h : d.sc = some v) : Pb K (tC v) where
  ev := fun _ => some d
  ok := fun {Γ d σ Hb H F Q} e w k => by
    cases e
    exact k v Hb H (Evl.Ex.refl _) (Evl.Ex.refl _) w.ex NB.refl (rep_sc h)
def bInt (i : Int) : Pb K (tC (.int i)) := bC (.int i) rfl
def bStr (s : Str) : Pb K (tC (.str s)) := bC (.str s) rfl
def bBl (b : Bool) : Pb K (tC (.bl b)) := bC (.bl b) rfl
def bTy (n : String) : Pb K (tC (.ty n)) := bC (.ty n) rfl
def bCls (C : Addr) : Pb K (tC (.ref C)) := bC (.cls C) rfl
def bNon : Pb K (tC .non) := bC .non rfl

/-! ### two operands, a scalar out -/
structure Op2 (K : PySem.W.Frag) (r : R2) where
  g : D → D → Option D
  ok : ∀ {H : Hp} {x y : V} {a b z : D}, g a b = some z → rep K H a x → rep K H b y → ∃ v, z.sc = some v ∧ ∀ Q : VK, Q v H → r x y H Q
def b2 (o : Op2 K r) (a : Ph K ta) (b : Ph K tb) : Pb K (tOp r ta tb) where
  ev := fun Γ => (a.ev Γ).bind fun x => (b.ev Γ).bind fun y => o.g x y
  ok := fun {Γ d σ Hb H F Q} e w k => by
    obtain ⟨x, e1, e⟩ := Option.bind_eq_some_iff.mp e
    obtain ⟨y, e2, e⟩ := Option.bind_eq_some_iff.mp e
    refine a.ok e1 w fun v1 Hb1 H1 x1 x2 x3 x4 r1 => ?_
    refine b.ok e2 (w.pure x1 x2 x3 x4) fun v2 Hb2 H2 y1 y2 y3 y4 r2 => ?_
    obtain ⟨v, hs, hq⟩ := o.ok e (rep_mono y2 r1) r2
    exact hq Q (k v Hb2 H2 (Evl.Ex.trans x1 y1) (Evl.Ex.trans x2 y2) y3 (x4.trans y4 x2) (rep_sc hs))
/-- ints -/
def oII (g : Int → Int → Int) : Op2 K (rI0 fun i j => .int (g i j)) where
  g := fun a b => match a, b with | .int i, .int j => some (.int (g i j)) | _, _ => none
  ok := fun {H x y a b z} e ra rb => by
    split at e
    · cases e
      exact ⟨_, rfl, fun Q q => ⟨_, _, ra, rb, q⟩⟩
    · cases e
def oIB (g : Int → Int → Bool) : Op2 K (rI0 fun i j => .bl (g i j)) where
  g := fun a b => match a, b with | .int i, .int j => some (.bl (g i j)) | _, _ => none
  ok := fun {H x y a b z} e ra rb => by
    split at e
    · cases e
      exact ⟨_, rfl, fun Q q => ⟨_, _, ra, rb, q⟩⟩
    · cases e
def oIC (C : Int → Int → Prop) [DecidableRel C] (g : Int → Int → Int) : Op2 K (rI C fun i j => .int (g i j)) where
  g := fun a b => match a, b with | .int i, .int j => if C i j then some (.int (g i j)) else none | _, _ => none
  ok := fun {H x y a b z} e ra rb => by
    split at e
    · split at e
      · rename_i hc
        cases e
        exact ⟨_, rfl, fun Q q => ⟨_, _, ra, rb, hc, q⟩⟩
      · cases e
    · cases e
instance : DecidableRel CDiv := fun i j => by unfold CDiv; infer_instance
instance : DecidableRel CDivN := fun i j => by unfold CDivN; infer_instance
instance : DecidableRel CPow := fun i j => by unfold CPow; infer_instance
instance : DecidableRel CMul := fun i j => by unfold CMul; infer_instance
instance : DecidableRel CDivW := fun i j => by unfold CDivW; infer_instance
instance : DecidableRel CMulW := fun i j => by unfold CMulW; infer_instance
/-! ### == of data -/
mutual
def D.toP : D → Option PyData
  | .non => some .none
  | .bl b => some (.bool b)
  | .int i => some (.int i)
  | .str s => some (.str s)
  | .ty _ => none
  | .cls _ => none
  | .tup l => (D.toPs l).map .tuple
  | .lst l => (D.toPs l).map .list
  | .scr l => (D.toPs l).map .list
  | .dic _ _ => none
  | .obj _ _ _ => none
def D.toPs : List D → Option (List PyData)
  | [] => some []
  | d :: ds => match D.toP d, D.toPs ds with
    | some p, some ps => some (p :: ps)
    | _, _ => none
end
mutual
theorem rep_dp {H : Hp} : ∀ {d : D} {v : V} {p : PyData}, rep K H d v → d.toP = some p → Dp K H v p
  | .non, _, _, h, e => by
    simp only [D.toP, Option.some.injEq] at e; subst e
    rw [show _ = V.non from h]; exact .non
  | .bl b, _, _, h, e => by
    simp only [D.toP, Option.some.injEq] at e; subst e
    rw [show _ = V.bl b from h]; exact .bl b
  | .int i, _, _, h, e => by
    simp only [D.toP, Option.some.injEq] at e; subst e
    rw [show _ = V.int i from h]; exact .int i
  | .str i, _, _, h, e => by
    simp only [D.toP, Option.some.injEq] at e; subst e
    rw [show _ = V.str i from h]; exact .str i
  | .ty _, _, _, _, e => by simp [D.toP] at e
  | .cls _, _, _, _, e => by simp [D.toP] at e
  | .tup l, _, _, h, e => by
    simp only [D.toP, Option.map_eq_some_iff] at e
    obtain ⟨ps, e, rfl⟩ := e
    obtain ⟨a, xs, rfl, h2, h3⟩ := h
    exact .tup h2 (reps_dp h3 e)
  | .lst l, _, _, h, e => by
    simp only [D.toP, Option.map_eq_some_iff] at e
    obtain ⟨ps, e, rfl⟩ := e
    obtain ⟨a, xs, rfl, h2, h3⟩ := h
    exact .lst (SqL.of h2) (reps_dp h3 e)
  | .scr l, _, _, h, e => by
    simp only [D.toP, Option.map_eq_some_iff] at e
    obtain ⟨ps, e, rfl⟩ := e
    obtain ⟨a, xs, rfl, h2, h3⟩ := h
    exact .lst h2 (reps_dp h3 e)
  | .dic _ _, _, _, _, e => by simp [D.toP] at e
  | .obj _ _ _, _, _, _, e => by simp [D.toP] at e
theorem reps_dp {H : Hp} : ∀ {ds : List D} {vs : List V} {ps : List PyData}, reps K H ds vs → D.toPs ds = some ps → DpAll K H vs ps
  | [], _, _, h, e => by
    simp only [D.toPs, Option.some.injEq] at e; subst e
    rw [show _ = [] from h]; exact .nil
  | d :: ds, _, _, h, e => by
    simp only [D.toPs] at e
    obtain ⟨x, r, rfl, h2, h3⟩ := h
    split at e
    · rename_i p ps h4 h5
      cases e
      exact .cons (rep_dp h2 h4) (reps_dp h3 h5)
    · cases e
end
def eqD (a b : D) : Option Bool := (a.toP).bind fun p => (b.toP).bind fun q => if SeqAt.shaped p && SeqAt.shaped q then some (PyData.eqv p q) else none
def oEq : Op2 K (rEqD K) where
  g := fun a b => (eqD a b).map .bl
  ok := fun {H x y a b z} e ra rb => by
    obtain ⟨c, e0, rfl⟩ := Option.map_eq_some_iff.mp e
    clear e
    have e := e0
    clear e0
    unfold eqD at e
    obtain ⟨p, e1, e⟩ := Option.bind_eq_some_iff.mp e
    obtain ⟨q, e2, e⟩ := Option.bind_eq_some_iff.mp e
    split at e
    · rename_i hs
      cases e
      rw [Bool.and_eq_true] at hs
      exact ⟨_, rfl, fun Q k => ⟨p, q, rep_dp ra e1, rep_dp rb e2, hs.1, hs.2, k⟩⟩
    · cases e
def oNe : Op2 K (rNeD K) where
  g := fun a b => (eqD a b).map fun c => .bl (!c)
  ok := fun {H x y a b z} e ra rb => by
    obtain ⟨c, e0, rfl⟩ := Option.map_eq_some_iff.mp e
    clear e
    have e := e0
    clear e0
    unfold eqD at e
    obtain ⟨p, e1, e⟩ := Option.bind_eq_some_iff.mp e
    obtain ⟨q, e2, e⟩ := Option.bind_eq_some_iff.mp e
    split at e
    · rename_i hs
      cases e
      rw [Bool.and_eq_true] at hs
      exact ⟨_, rfl, fun Q k => ⟨p, q, rep_dp ra e1, rep_dp rb e2, hs.1, hs.2, k⟩⟩
    · cases e
/-- is None, is not None -/
def D.isNon : D → Bool
  | .non => true
  | _ => false
theorem rep_isNon {H : Hp} : ∀ {d : D} {v : V}, rep K H d v → decide (v = .non) = d.isNon
  | .non, _, h => by rw [show _ = V.non from h]; rfl
  | .bl b, _, h => by rw [show _ = V.bl b from h]; rfl
  | .int i, _, h => by rw [show _ = V.int i from h]; rfl
  | .str i, _, h => by rw [show _ = V.str i from h]; rfl
  | .ty i, _, h => by rw [show _ = V.ty i from h]; rfl
  | .cls i, _, h => by rw [show _ = V.ref i from h]; rfl
  | .tup l, _, h => by obtain ⟨a, xs, rfl, _⟩ := h; rfl
  | .lst l, _, h => by obtain ⟨a, xs, rfl, _⟩ := h; rfl
  | .scr l, _, h => by obtain ⟨a, xs, rfl, _⟩ := h; rfl
  | .dic _ _, _, h => by obtain ⟨a, xs, rfl, _⟩ := h; rfl
  | .obj _ _ _, _, h => by obtain ⟨a, dx, xs, rfl, _⟩ := h; rfl
def bIsN (a : Ph K ta) : Pb K (tIsN ta) where
  ev := fun Γ => (a.ev Γ).map fun d => .bl d.isNon
  ok := fun {Γ d σ Hb H F Q} e w k => by
    obtain ⟨x, e1, rfl⟩ := Option.map_eq_some_iff.mp e
    exact a.ok e1 w fun v Hb2 H2 x1 x2 x3 x4 q => k _ Hb2 H2 x1 x2 x3 x4 (by rw [rep_isNon q]; rfl)
def bNotN (a : Ph K ta) : Pb K (tNotN ta) where
  ev := fun Γ => (a.ev Γ).map fun d => .bl (!d.isNon)
  ok := fun {Γ d σ Hb H F Q} e w k => by
    obtain ⟨x, e1, rfl⟩ := Option.map_eq_some_iff.mp e
    exact a.ok e1 w fun v Hb2 H2 x1 x2 x3 x4 q => k _ Hb2 H2 x1 x2 x3 x4 (by rw [rep_isNon q]; rfl)
/-- one operand -/
def bNeg (a : Ph K ta) : Pb K (tUn (rU fun i => .int (-i)) ta) where
  ev := fun Γ => (a.ev Γ).bind fun d => match d with | .int i => some (.int (-i)) | _ => none
  ok := fun {Γ d σ Hb H F Q} e w k => by
    obtain ⟨x, e1, e⟩ := Option.bind_eq_some_iff.mp e
    split at e
    · cases e
      exact a.ok e1 w fun v Hb2 H2 x1 x2 x3 x4 q => ⟨_, q, k _ Hb2 H2 x1 x2 x3 x4 rfl⟩
    · cases e

/-! ### a op b op c -/
def bChain (o : Op2 K r) (o' : Op2 K r') (a : Ph K ta) (b : Ph K tb) (c : Ph K tc) : Pb K (tChain r r' ta tb tc) where
  ev := fun Γ => (a.ev Γ).bind fun x => (b.ev Γ).bind fun y => (o.g x y).bind fun z => match z with
    | .bl true => (c.ev Γ).bind fun q => o'.g y q
    | .bl false => some (.bl false)
    | _ => none
  ok := fun {Γ d σ Hb H F Q} e w k => by
    obtain ⟨x, e1, e⟩ := Option.bind_eq_some_iff.mp e
    obtain ⟨y, e2, e⟩ := Option.bind_eq_some_iff.mp e
    obtain ⟨z, e3, e⟩ := Option.bind_eq_some_iff.mp e
    refine a.ok e1 w fun v1 Hb1 H1 x1 x2 x3 x4 r1 => ?_
    have w1 := w.pure x1 x2 x3 x4
    refine b.ok e2 w1 fun v2 Hb2 H2 y1 y2 y3 y4 r2 => ?_
    have w2 := w1.pure y1 y2 y3 y4
    obtain ⟨v, hs, hq⟩ := o.ok e3 (rep_mono y2 r1) r2
    refine hq _ ?_
    split at e
    · cases hs
      obtain ⟨q, e4, e⟩ := Option.bind_eq_some_iff.mp e
      refine ⟨true, rfl, ?_⟩
      show tc σ H2 _
      refine c.ok e4 w2 fun v3 Hb3 H3 z1 z2 z3 z4 r3 => ?_
      obtain ⟨v', hs', hq'⟩ := o'.ok e (rep_mono z2 r2) r3
      exact hq' Q (k v' Hb3 H3 (Evl.Ex.trans x1 (Evl.Ex.trans y1 z1)) (Evl.Ex.trans x2 (Evl.Ex.trans y2 z2)) z3 ((x4.trans y4 x2).trans z4 (Evl.Ex.trans x2 y2)) (rep_sc hs'))
    · cases hs
      cases e
      refine ⟨false, rfl, ?_⟩
      show Q (.bl false) H2
      exact k _ Hb2 H2 (Evl.Ex.trans x1 y1) (Evl.Ex.trans x2 y2) y3 (x4.trans y4 x2) rfl
    · cases e

/-! ### tests -/
def asB : D → Option Bool
  | .bl b => some b
  | _ => none
theorem asB_eq {d : D} {b : Bool} (h : asB d = some b) : d = .bl b := by
  cases d <;> simp [asB] at h
  subst h; rfl
def tTst (a : Ph K ta) : Tt K (tTest ta) where
  ev := fun Γ => (a.ev Γ).bind asB
  ok := fun {Γ b σ Hb H F Q} e w k => by
    obtain ⟨x, e1, e⟩ := Option.bind_eq_some_iff.mp e
    rw [asB_eq e] at e1
    exact a.ok e1 w fun v Hb2 H2 x1 x2 x3 x4 q => ⟨b, q, k Hb2 H2 x1 x2 x3 x4⟩
def tBv (a : Ph K ta) : Tt K (tB ta) where
  ev := fun Γ => (a.ev Γ).bind asB
  ok := fun {Γ b σ Hb H F Q} e w k => by
    obtain ⟨x, e1, e⟩ := Option.bind_eq_some_iff.mp e
    rw [asB_eq e] at e1
    exact a.ok e1 w fun v Hb2 H2 x1 x2 x3 x4 q => ⟨b, q, k Hb2 H2 x1 x2 x3 x4⟩
def tNt (a : Tt K t) : Tt K (tNot t) where
  ev := fun Γ => (a.ev Γ).map not
  ok := fun {Γ b σ Hb H F Q} e w k => by
    obtain ⟨x, e1, rfl⟩ := Option.map_eq_some_iff.mp e
    exact a.ok e1 w fun Hb2 H2 x1 x2 x3 x4 => k Hb2 H2 x1 x2 x3 x4
def tAn (a : Tt K t) (b : Tt K u) : Tt K (tAnd t u) where
  ev := fun Γ => (a.ev Γ).bind fun x => if x = true then b.ev Γ else some false
  ok := fun {Γ c σ Hb H F Q} e w k => by
    obtain ⟨x, e1, e⟩ := Option.bind_eq_some_iff.mp e
    refine a.ok e1 w fun Hb2 H2 x1 x2 x3 x4 => ?_
    cases x with
    | true => exact b.ok (by simpa using e) (w.pure x1 x2 x3 x4) fun Hb3 H3 y1 y2 y3 y4 => k Hb3 H3 (Evl.Ex.trans x1 y1) (Evl.Ex.trans x2 y2) y3 (x4.trans y4 x2)
    | false => simp at e; subst e; exact k Hb2 H2 x1 x2 x3 x4
def tO (a : Tt K t) (b : Tt K u) : Tt K (tOr t u) where
  ev := fun Γ => (a.ev Γ).bind fun x => if x = true then some true else b.ev Γ
  ok := fun {Γ c σ Hb H F Q} e w k => by
    obtain ⟨x, e1, e⟩ := Option.bind_eq_some_iff.mp e
    refine a.ok e1 w fun Hb2 H2 x1 x2 x3 x4 => ?_
    cases x with
    | false => exact b.ok (by simpa using e) (w.pure x1 x2 x3 x4) fun Hb3 H3 y1 y2 y3 y4 => k Hb3 H3 (Evl.Ex.trans x1 y1) (Evl.Ex.trans x2 y2) y3 (x4.trans y4 x2)
    | true => simp at e; subst e; exact k Hb2 H2 x1 x2 x3 x4
/-- and, or, not as values -/
def bAnV (a : Ph K ta) (b : Ph K tb) : Pb K (tAndV ta tb) where
  ev := fun Γ => (a.ev Γ).bind fun x => (asB x).bind fun c => if c = true then (b.ev Γ).bind fun y => if y.sc.isSome then some y else none else some (.bl false)
  ok := fun {Γ d σ Hb H F Q} e w k => by
    obtain ⟨x, e1, e⟩ := Option.bind_eq_some_iff.mp e
    obtain ⟨c, e2, e⟩ := Option.bind_eq_some_iff.mp e
    rw [asB_eq e2] at e1
    refine a.ok e1 w fun v Hb2 H2 x1 x2 x3 x4 q => ⟨c, q, ?_⟩
    cases c with
    | true =>
      simp only [if_true] at e
      exact b.s.ok e (w.pure x1 x2 x3 x4) fun v3 Hb3 H3 y1 y2 y3 y4 r3 => k v3 Hb3 H3 (Evl.Ex.trans x1 y1) (Evl.Ex.trans x2 y2) y3 (x4.trans y4 x2) r3
    | false => simp at e; subst e; exact k _ Hb2 H2 x1 x2 x3 x4 rfl
def bOrV (a : Ph K ta) (b : Ph K tb) : Pb K (tOrV ta tb) where
  ev := fun Γ => (a.ev Γ).bind fun x => (asB x).bind fun c => if c = true then some (.bl true) else (b.ev Γ).bind fun y => if y.sc.isSome then some y else none
  ok := fun {Γ d σ Hb H F Q} e w k => by
    obtain ⟨x, e1, e⟩ := Option.bind_eq_some_iff.mp e
    obtain ⟨c, e2, e⟩ := Option.bind_eq_some_iff.mp e
    rw [asB_eq e2] at e1
    refine a.ok e1 w fun v Hb2 H2 x1 x2 x3 x4 q => ⟨c, q, ?_⟩
    cases c with
    | false =>
      exact b.s.ok (show b.s.ev Γ = some d from by simpa [Ph.s] using e) (w.pure x1 x2 x3 x4) fun v3 Hb3 H3 y1 y2 y3 y4 r3 => k v3 Hb3 H3 (Evl.Ex.trans x1 y1) (Evl.Ex.trans x2 y2) y3 (x4.trans y4 x2) r3
    | true => simp at e; subst e; exact k _ Hb2 H2 x1 x2 x3 x4 rfl
def bNtV (a : Ph K ta) : Pb K (tNotV ta) where
  ev := fun Γ => (a.ev Γ).bind fun x => (asB x).map fun c => .bl (!c)
  ok := fun {Γ d σ Hb H F Q} e w k => by
    obtain ⟨x, e1, e⟩ := Option.bind_eq_some_iff.mp e
    obtain ⟨c, e2, rfl⟩ := Option.map_eq_some_iff.mp e
    rw [asB_eq e2] at e1
    exact a.ok e1 w fun v Hb2 H2 x1 x2 x3 x4 q => ⟨c, q, k _ Hb2 H2 x1 x2 x3 x4 rfl⟩
def bIf (c : Tt K t) (a : Pb K ta) (b : Pb K tb) : Pb K (tIf t ta tb) where
  ev := fun Γ => (c.ev Γ).bind fun x => if x = true then a.ev Γ else b.ev Γ
  ok := fun {Γ d σ Hb H F Q} e w k => by
    obtain ⟨x, e1, e⟩ := Option.bind_eq_some_iff.mp e
    refine c.ok e1 w fun Hb2 H2 x1 x2 x3 x4 => ?_
    have w2 := w.pure x1 x2 x3 x4
    cases x with
    | true => exact a.ok (by simpa using e) w2 fun v3 Hb3 H3 y1 y2 y3 y4 r3 => k v3 Hb3 H3 (Evl.Ex.trans x1 y1) (Evl.Ex.trans x2 y2) y3 (x4.trans y4 x2) r3
    | false => exact b.ok (by simpa using e) w2 fun v3 Hb3 H3 y1 y2 y3 y4 r3 => k v3 Hb3 H3 (Evl.Ex.trans x1 y1) (Evl.Ex.trans x2 y2) y3 (x4.trans y4 x2) r3

/-! ### argument lists -/
def aNil : Ab K tNil where
  ev := fun _ => some []
  ok := fun {Γ d σ Hb H F Q} e w k => by
    cases e
    exact k [] Hb H (Evl.Ex.refl _) (Evl.Ex.refl _) w.ex NB.refl rfl
def aCons (a : Pb K ta) (b : Ab K tr) : Ab K (tCons ta tr) where
  ev := fun Γ => (a.ev Γ).bind fun x => (b.ev Γ).map fun y => x :: y
  ok := fun {Γ d σ Hb H F Q} e w k => by
    obtain ⟨x, e1, e⟩ := Option.bind_eq_some_iff.mp e
    obtain ⟨y, e2, rfl⟩ := Option.map_eq_some_iff.mp e
    refine a.ok e1 w fun v1 Hb1 H1 x1 x2 x3 x4 r1 => ?_
    refine b.ok e2 (w.pure x1 x2 x3 x4) fun v2 Hb2 H2 y1 y2 y3 y4 r2 => ?_
    exact k _ Hb2 H2 (Evl.Ex.trans x1 y1) (Evl.Ex.trans x2 y2) y3 (x4.trans y4 x2) ⟨v1, v2, rfl, rep_mono y1 r1, r2⟩
def ahCons (a : Ph K ta) (b : Ah K tr) : Ah K (tCons ta tr) where
  ev := fun Γ => (a.ev Γ).bind fun x => (b.ev Γ).map fun y => x :: y
  ok := fun {Γ d σ Hb H F Q} e w k => by
    obtain ⟨x, e1, e⟩ := Option.bind_eq_some_iff.mp e
    obtain ⟨y, e2, rfl⟩ := Option.map_eq_some_iff.mp e
    refine a.ok e1 w fun v1 Hb1 H1 x1 x2 x3 x4 r1 => ?_
    refine b.ok e2 (w.pure x1 x2 x3 x4) fun v2 Hb2 H2 y1 y2 y3 y4 r2 => ?_
    exact k _ Hb2 H2 (Evl.Ex.trans x1 y1) (Evl.Ex.trans x2 y2) y3 (x4.trans y4 x2) ⟨v1, v2, rfl, rep_mono y2 r1, r2⟩

/-! ### displays -/
theorem own_ims {Hb H : Hp} : ∀ {ds : List D} {vs : List V}, reps K Hb ds vs → OwnL K Hb H (ds.map M.im) vs []
  | [], _, h => ⟨h, rfl⟩
  | d :: ds, _, h => by
    obtain ⟨x, r, rfl, h2, h3⟩ := h
    exact ⟨x, r, [], [], rfl, ⟨h2, rfl⟩, own_ims h3, rfl⟩
/-- a new object p, tracked as the node -/
theorem own_new {Hb H2 : Hp} {p dx : Addr} {sh : Sh} {ds : List D} {vs : List V} (hp : H2 p = none) (hf : sh.fit vs.length) (hr : reps K Hb ds vs) : Own K Hb (upd H2 p (sh.ho dx vs)) (.nd sh (ds.map M.im)) (.ref p) [p] :=
  ⟨p, dx, vs, [], rfl, upd_same, hf, own_ims hr, rfl⟩
def lineD (n : Nat) : Bool := decide (n ≤ 100000)
theorem lineD_ok {n : Nat} (h : lineD n = true) : n ≤ sizeLine := Evl.sz_of (of_decide_eq_true h)
def oLst (a : Ab K tr) : Po K (tLst tr) where
  ev := fun Γ => (a.ev Γ).bind fun ds => if lineD ds.length then some (.nd .lst (ds.map M.im)) else none
  ok := fun {Γ m σ Hb H F Q} e w k => by
    obtain ⟨ds, e1, e⟩ := Option.bind_eq_some_iff.mp e
    split at e
    · rename_i hl
      cases e
      refine a.ok e1 w fun vs Hb2 H2 x1 x2 x3 x4 r => ⟨by rw [reps_len r]; exact lineD_ok hl, fun p hp => ?_⟩
      have ex : Ex H2 (upd H2 p (.lst vs)) := Evl.Ex.new hp
      have pb : Hb2 p = none := none_of_ex x3 hp
      refine k (.ref p) Hb2 _ [p] x1 (Evl.Ex.trans x2 ex) (Evl.Ex.trans x3 ex) x4 (own_new (sh := .lst) (dx := 0) hp True.intro r) (by simp) fun a ha => ?_
      rw [List.mem_singleton.mp ha]
      exact ⟨pb, none_of_ex x2 hp⟩
    · cases e
def oTup (a : Ab K tr) : Po K (tTup tr) where
  ev := fun Γ => (a.ev Γ).bind fun ds => if lineD ds.length then some (.nd .tup (ds.map M.im)) else none
  ok := fun {Γ m σ Hb H F Q} e w k => by
    obtain ⟨ds, e1, e⟩ := Option.bind_eq_some_iff.mp e
    split at e
    · rename_i hl
      cases e
      refine a.ok e1 w fun vs Hb2 H2 x1 x2 x3 x4 r => ⟨by rw [reps_len r]; exact lineD_ok hl, fun p hp => ?_⟩
      have ex : Ex H2 (upd H2 p (.tup vs)) := Evl.Ex.new hp
      have pb : Hb2 p = none := none_of_ex x3 hp
      refine k (.ref p) Hb2 _ [p] x1 (Evl.Ex.trans x2 ex) (Evl.Ex.trans x3 ex) x4 (own_new (sh := .tup) (dx := 0) hp True.intro r) (by simp) fun a ha => ?_
      rw [List.mem_singleton.mp ha]
      exact ⟨pb, none_of_ex x2 hp⟩
    · cases e
/-- a tuple whose parts may be told by the heap alone: for == and in -/
def hTup (a : Ah K tr) : Ph K (tTup tr) where
  ev := fun Γ => (a.ev Γ).bind fun ds => if lineD ds.length then some (.tup ds) else none
  ok := fun {Γ m σ Hb H F Q} e w k => by
    obtain ⟨ds, e1, e⟩ := Option.bind_eq_some_iff.mp e
    split at e
    · rename_i hl
      cases e
      refine a.ok e1 w fun vs Hb2 H2 x1 x2 x3 x4 r => ⟨by rw [reps_len r]; exact lineD_ok hl, fun p hp => ?_⟩
      have ex : Ex H2 (upd H2 p (.tup vs)) := Evl.Ex.new hp
      exact k (.ref p) Hb2 _ x1 (Evl.Ex.trans x2 ex) (Evl.Ex.trans x3 ex) x4 ⟨p, vs, rfl, SqT.of upd_same, reps_mono ex r⟩
    · cases e
def hLst (a : Ah K tr) : Ph K (tLst tr) where
  ev := fun Γ => (a.ev Γ).bind fun ds => if lineD ds.length then some (.lst ds) else none
  ok := fun {Γ m σ Hb H F Q} e w k => by
    obtain ⟨ds, e1, e⟩ := Option.bind_eq_some_iff.mp e
    split at e
    · rename_i hl
      cases e
      refine a.ok e1 w fun vs Hb2 H2 x1 x2 x3 x4 r => ⟨by rw [reps_len r]; exact lineD_ok hl, fun p hp => ?_⟩
      have ex : Ex H2 (upd H2 p (.lst vs)) := Evl.Ex.new hp
      exact k (.ref p) Hb2 _ x1 (Evl.Ex.trans x2 ex) (Evl.Ex.trans x3 ex) x4 ⟨p, vs, rfl, upd_same, reps_mono ex r⟩
    · cases e

/-! ### a built-in called with values, a scalar out -/
structure OpC (K : PySem.W.Frag) (r : List V → Hp → VK → Prop) where
  g : List D → Option D
  ok : ∀ {H : Hp} {xs : List V} {ds : List D} {z : D}, g ds = some z → reps K H ds xs → ∃ v, z.sc = some v ∧ ∀ Q : VK, Q v H → r xs H Q
def bCB {rc : List V → Hp → VK → Prop} (o : OpC K rc) (a : Ah K tr) : Pb K (tCB rc tr) where
  ev := fun Γ => (a.ev Γ).bind o.g
  ok := fun {Γ d σ Hb H F Q} e w k => by
    obtain ⟨x, e1, e⟩ := Option.bind_eq_some_iff.mp e
    refine a.ok e1 w fun v1 Hb1 H1 x1 x2 x3 x4 r1 => ?_
    obtain ⟨v, hs, hq⟩ := o.ok e r1
    exact hq Q (k v Hb1 H1 x1 x2 x3 x4 (rep_sc hs))
/-- an item: of a list or tuple -/
def atD (ds : List D) (i : Int) : Option D := atI ds i
theorem atD_rep {H : Hp} {ds : List D} {xs : List V} {i : Int} {d : D} (h : reps K H ds xs) (e : atD ds i = some d) : ∃ x, atI xs i = some x ∧ rep K H d x := by
  unfold atD atI at e
  obtain ⟨j, e1, e2⟩ := Option.bind_eq_some_iff.mp e
  obtain ⟨x, e3, e4⟩ := reps_get' h e2
  exact ⟨x, by unfold atI; rw [reps_len h, e1]; exact e3, e4⟩
def bIxL (a : Pb K ta) (b : Ph K tb) : Pb K (tOp (rIxL K) ta tb) where
  ev := fun Γ => (a.ev Γ).bind fun x => (b.ev Γ).bind fun y => match x.asL, y with | some l, .int i => atD l i | _, _ => none
  ok := fun {Γ d σ Hb H F Q} e w k => by
    obtain ⟨x, e1, e⟩ := Option.bind_eq_some_iff.mp e
    obtain ⟨y, e2, e⟩ := Option.bind_eq_some_iff.mp e
    refine a.ok e1 w fun v1 Hb1 H1 x1 x2 x3 x4 r1 => ?_
    refine b.ok e2 (w.pure x1 x2 x3 x4) fun v2 Hb2 H2 y1 y2 y3 y4 r2 => ?_
    split at e
    · rename_i hx
      obtain ⟨p, xs, rfl, h1, h2⟩ := rep_asL hx r1
      obtain ⟨z, e3, e4⟩ := atD_rep h2 e
      rw [show v2 = V.int _ from r2]
      exact ⟨p, xs, _, z, rfl, rfl, Evl.ex_l (Evl.Ex.trans y1 y3) h1, e3, k z Hb2 H2 (Evl.Ex.trans x1 y1) (Evl.Ex.trans x2 y2) y3 (x4.trans y4 x2) (rep_mono y1 e4)⟩
    · cases e
def bIxT (a : Pb K ta) (b : Ph K tb) : Pb K (tOp (rIxT K) ta tb) where
  ev := fun Γ => (a.ev Γ).bind fun x => (b.ev Γ).bind fun y => match x, y with | .tup l, .int i => atD l i | _, _ => none
  ok := fun {Γ d σ Hb H F Q} e w k => by
    obtain ⟨x, e1, e⟩ := Option.bind_eq_some_iff.mp e
    obtain ⟨y, e2, e⟩ := Option.bind_eq_some_iff.mp e
    refine a.ok e1 w fun v1 Hb1 H1 x1 x2 x3 x4 r1 => ?_
    refine b.ok e2 (w.pure x1 x2 x3 x4) fun v2 Hb2 H2 y1 y2 y3 y4 r2 => ?_
    split at e
    · obtain ⟨p, xs, rfl, h1, h2⟩ := r1
      obtain ⟨z, e3, e4⟩ := atD_rep h2 e
      rw [show v2 = V.int _ from r2]
      exact ⟨p, xs, _, z, rfl, rfl, Evl.ex_t (Evl.Ex.trans y1 y3) h1, e3, k z Hb2 H2 (Evl.Ex.trans x1 y1) (Evl.Ex.trans x2 y2) y3 (x4.trans y4 x2) (rep_mono y1 e4)⟩
    · cases e
/-- .. of a list that changes -/
def hIxL (a : Ph K ta) (b : Ph K tb) : Ph K (tOp (rIxL K) ta tb) where
  ev := fun Γ => (a.ev Γ).bind fun x => (b.ev Γ).bind fun y => match x.asL, y with | some l, .int i => atD l i | _, _ => none
  ok := fun {Γ d σ Hb H F Q} e w k => by
    obtain ⟨x, e1, e⟩ := Option.bind_eq_some_iff.mp e
    obtain ⟨y, e2, e⟩ := Option.bind_eq_some_iff.mp e
    refine a.ok e1 w fun v1 Hb1 H1 x1 x2 x3 x4 r1 => ?_
    refine b.ok e2 (w.pure x1 x2 x3 x4) fun v2 Hb2 H2 y1 y2 y3 y4 r2 => ?_
    split at e
    · rename_i hx
      obtain ⟨p, xs, rfl, h1, h2⟩ := rep_asL hx r1
      obtain ⟨z, e3, e4⟩ := atD_rep h2 e
      rw [show v2 = V.int _ from r2]
      exact ⟨p, xs, _, z, rfl, rfl, Evl.ex_l y2 h1, e3, k z Hb2 H2 (Evl.Ex.trans x1 y1) (Evl.Ex.trans x2 y2) y3 (x4.trans y4 x2) (rep_mono y2 e4)⟩
    · cases e
end
end KS

namespace KS
open PySem L2

/-! ### statements -/
inductive Ct where
  | nx (Γ : List M) | rt (m : M) (Γ : List M) | bk (Γ : List M) | ct (Γ : List M)
  deriving Inhabited
def Pin (pn : Nat → Bool) (σ σ2 : St) : Prop := ∀ i, pn i = true → σ2[i]? = σ[i]?
theorem Pin.refl {pn : Nat → Bool} {σ : St} : Pin pn σ σ := fun _ _ => rfl
theorem Pin.trans {pn : Nat → Bool} {σ σ1 σ2 : St} (a : Pin pn σ σ1) (b : Pin pn σ1 σ2) : Pin pn σ σ2 := fun i h => (b i h).trans (a i h)
theorem Pin.set {pn : Nat → Bool} {σ : St} {i : Nat} {s : Option V} (h : pn i = false) : Pin pn σ (σ.set i s) := fun j hj => by
  by_cases e : i = j
  · subst e; rw [h] at hj; cases hj
  · rw [List.getElem?_set_ne e]
def Goes (K : PySem.W.Frag) (pn : Nat → Bool) (σ : St) (Hb H : Hp) (F : List Addr) (E : Ends) : Ct → Prop
  | .nx Γ2 => ∀ σ2 Hb2 H2 F2, WF K Γ2 σ2 Hb2 H2 F2 → Step Hb H F Hb2 H2 F2 → Pin pn σ σ2 → E.nx σ2 H2
  | .bk Γ2 => ∀ σ2 Hb2 H2 F2, WF K Γ2 σ2 Hb2 H2 F2 → Step Hb H F Hb2 H2 F2 → Pin pn σ σ2 → E.bk σ2 H2
  | .ct Γ2 => ∀ σ2 Hb2 H2 F2, WF K Γ2 σ2 Hb2 H2 F2 → Step Hb H F Hb2 H2 F2 → Pin pn σ σ2 → E.ct σ2 H2
  | .rt m Γ2 => ∀ v σ2 Hb2 H2 F2 Fr, WF K Γ2 σ2 Hb2 H2 F2 → Step Hb H F Hb2 H2 (F2 ++ Fr) → Pin pn σ σ2 → Own K Hb2 H2 m v Fr → (F2 ++ Fr).Nodup → (∀ a ∈ Fr, Hb2 a = none) → E.rt v H2
/-- a later start -/
theorem Goes.from {K : PySem.W.Frag} {pn : Nat → Bool} {σ σ1 : St} {Hb H Hb1 H1 : Hp} {F F1 : List Addr} {E : Ends} {c : Ct} (g : Goes K pn σ Hb H F E c) (s : Step Hb H F Hb1 H1 F1) (p : Pin pn σ σ1) : Goes K pn σ1 Hb1 H1 F1 E c := by
  cases c with
  | nx Γ2 => exact fun σ2 Hb2 H2 F2 w t q => g σ2 Hb2 H2 F2 w (s.trans t) (p.trans q)
  | bk Γ2 => exact fun σ2 Hb2 H2 F2 w t q => g σ2 Hb2 H2 F2 w (s.trans t) (p.trans q)
  | ct Γ2 => exact fun σ2 Hb2 H2 F2 w t q => g σ2 Hb2 H2 F2 w (s.trans t) (p.trans q)
  | rt m Γ2 => exact fun v σ2 Hb2 H2 F2 Fr w t q => g v σ2 Hb2 H2 F2 Fr w (s.trans t) (p.trans q)
structure Sx (K : PySem.W.Frag) (pn : Nat → Bool) (t : TS) where
  ev : List M → Option Ct
  ok : ∀ {Γ : List M} {c : Ct} {σ : St} {Hb H : Hp} {F : List Addr} {E : Ends}, ev Γ = some c → WF K Γ σ Hb H F → Goes K pn σ Hb H F E c → t E σ H
/-- targets -/
structure Gt (K : PySem.W.Frag) (pn : Nat → Bool) (g : TG) where
  asg : List M → D → Option (List M)
  len : ∀ {Γ Γ2 : List M} {d : D}, asg Γ d = some Γ2 → Γ2.length = Γ.length
  ok : ∀ {Γ Γ2 : List M} {d : D} {v : V} {σ : St} {Hb H : Hp} {F : List Addr} {Q : St → Hp → Prop}, asg Γ d = some Γ2 → WF K Γ σ Hb H F → rep K Hb d v →
    (∀ σ2 F2, WF K Γ2 σ2 Hb H F2 → (∀ a ∈ F2, a ∈ F) → Pin pn σ σ2 → Q σ2 H) → g v σ H Q
structure Gts (K : PySem.W.Frag) (pn : Nat → Bool) (g : TGs) where
  asg : List M → List D → Option (List M)
  len : ∀ {Γ Γ2 : List M} {ds : List D}, asg Γ ds = some Γ2 → Γ2.length = Γ.length
  ok : ∀ {Γ Γ2 : List M} {ds : List D} {vs : List V} {σ : St} {Hb H : Hp} {F : List Addr} {Q : St → Hp → Prop}, asg Γ ds = some Γ2 → WF K Γ σ Hb H F → reps K Hb ds vs →
    (∀ σ2 F2, WF K Γ2 σ2 Hb H F2 → (∀ a ∈ F2, a ∈ F) → Pin pn σ σ2 → Q σ2 H) → g vs σ H Q
theorem Step.sub {Hb H : Hp} {F F2 : List Addr} (h : ∀ a ∈ F2, a ∈ F) : Step Hb H F Hb H F2 := ⟨Evl.Ex.refl _, fun _ _ h _ => h, fun a ha => .inl (h a ha), fun _ h => .inl h⟩

section
variable {K : PySem.W.Frag} {pn : Nat → Bool} {ta tb tc te : TE} {tr : TA} {t u : TT} {ts ts' tS : TS} {g : TG} {gs : TGs}
/-- another thing in a slot -/
theorem WF.put {Γ : List M} {σ : St} {Hb H : Hp} {F Fr : List Addr} {i : Nat} {m : M} {v : V} (w : WF K Γ σ Hb H F) (hi : i < Γ.length) (o : Own K Hb H m v Fr) (nd : Fr.Nodup) (fr : ∀ a ∈ Fr, Hb a = none ∧ a ∉ F) :
    ∃ F2, WF K (Γ.set i m) (σ.set i (some v)) Hb H F2 ∧ ∀ a ∈ F2, a ∈ F ∨ a ∈ Fr := by
  obtain ⟨s, A, B, Fi, h1, h2, h3, h4⟩ := w.own.at (List.getElem?_eq_getElem hi)
  subst h3
  have nA := w.nd
  rw [List.nodup_append] at nA
  obtain ⟨n1, n2, n3⟩ := nA
  rw [List.nodup_append] at n2
  obtain ⟨n4, n5, n6⟩ := n2
  have hs : SlO K Hb H m (some v) Fr ∨ m = .emp := by
    cases m with
    | emp => exact .inr rfl
    | im d => exact .inl ⟨v, rfl, o⟩
    | nd sh cs => exact .inl ⟨v, rfl, o⟩
  have hs2 : SlO K Hb H m (some v) Fr := by
    rcases hs with h | h
    · exact h
    · subst h; exact o
  refine ⟨A ++ (Fr ++ B), ⟨w.ex, h4 Hb H m (some v) Fr (Evl.Ex.refl _) (fun a _ o h => h) hs2, ?_, fun a ha => ?_⟩, fun a ha => ?_⟩
  · rw [List.nodup_append]
    refine ⟨n1, ?_, fun a ha b hb e => ?_⟩
    · rw [List.nodup_append]
      refine ⟨nd, n5, fun a ha b hb e => ?_⟩
      subst e
      exact (fr a ha).2 (by simp [hb])
    · subst e
      rcases List.mem_append.mp hb with hb | hb
      · exact (fr a hb).2 (by simp [ha])
      · exact n3 a ha a (by simp [hb]) rfl
  · rcases List.mem_append.mp ha with ha | ha
    · exact w.fh a (by simp [ha])
    · rcases List.mem_append.mp ha with ha | ha
      · exact (fr a ha).1
      · exact w.fh a (by simp [ha])
  · simp at ha ⊢
    rcases ha with ha | ha | ha
    · exact .inl (.inl ha)
    · exact .inr ha
    · exact .inl (.inr (.inr ha))
/-- a slot forgotten (its thing is let go) -/
theorem WF.wipe1 {Γ : List M} {σ : St} {Hb H : Hp} {F : List Addr} {i : Nat} {s' : Option V} (w : WF K Γ σ Hb H F) (hi : i < Γ.length) : ∃ F2, WF K (Γ.set i .emp) (σ.set i s') Hb H F2 ∧ ∀ a ∈ F2, a ∈ F := by
  obtain ⟨s, A, B, Fi, h1, h2, h3, h4⟩ := w.own.at (List.getElem?_eq_getElem hi)
  subst h3
  have nA := w.nd
  rw [List.nodup_append] at nA
  obtain ⟨n1, n2, n3⟩ := nA
  rw [List.nodup_append] at n2
  obtain ⟨n4, n5, n6⟩ := n2
  refine ⟨A ++ ([] ++ B), ⟨w.ex, h4 Hb H .emp s' [] (Evl.Ex.refl _) (fun a _ o h => h) rfl, ?_, fun a ha => w.fh a ?_⟩, fun a ha => ?_⟩
  · rw [List.nodup_append]
    exact ⟨n1, by simpa using n5, fun a ha b hb e => n3 a ha b (by simp at hb; simp [hb]) e⟩
  · simp at ha ⊢; rcases ha with ha | ha <;> simp [ha]
  · simp at ha ⊢; rcases ha with ha | ha <;> simp [ha]
def gN (i : Nat) : Gt K pn (gName i) where
  asg := fun Γ d => if i < Γ.length ∧ pn i = false then some (Γ.set i (.im d)) else none
  len := fun {Γ Γ2 d} e => by
    split at e
    · cases e; simp
    · cases e
  ok := fun {Γ Γ2 d v σ Hb H F Q} e w r k => by
    split at e
    · rename_i h
      cases e
      obtain ⟨F2, w2, h2⟩ := w.put (m := .im d) (v := v) (Fr := []) h.1 ⟨r, rfl⟩ List.nodup_nil (fun a ha => by cases ha)
      exact k _ F2 w2 (fun a ha => (h2 a ha).elim id fun z => by cases z) (Pin.set h.2)
    · cases e
def gsNil : Gts K pn gNil where
  asg := fun Γ ds => match ds with | [] => some Γ | _ => none
  len := fun {Γ Γ2 ds} e => by
    cases ds with
    | nil => cases e; rfl
    | cons a b => cases e
  ok := fun {Γ Γ2 ds vs σ Hb H F Q} e w r k => by
    cases ds with
    | nil =>
      cases e
      exact ⟨r, k σ F w (fun _ h => h) Pin.refl⟩
    | cons a b => cases e
def gsCons {gr : TGs} (a : Gt K pn g) (b : Gts K pn gr) : Gts K pn (gCons g gr) where
  asg := fun Γ ds => match ds with | d :: ds => (a.asg Γ d).bind fun Γ1 => b.asg Γ1 ds | [] => none
  len := fun {Γ Γ2 ds} e => by
    cases ds with
    | nil => cases e
    | cons d ds =>
      obtain ⟨Γ1, e1, e2⟩ := Option.bind_eq_some_iff.mp e
      rw [b.len e2, a.len e1]
  ok := fun {Γ Γ2 ds vs σ Hb H F Q} e w r k => by
    cases ds with
    | nil => cases e
    | cons d ds =>
      obtain ⟨Γ1, e1, e2⟩ := Option.bind_eq_some_iff.mp e
      obtain ⟨x, xs, rfl, r1, r2⟩ := r
      exact ⟨x, xs, rfl, a.ok e1 w r1 fun σ1 F1 w1 s1 p1 => b.ok e2 w1 r2 fun σ2 F2 w2 s2 p2 => k σ2 F2 w2 (fun a h => s1 a (s2 a h)) (p1.trans p2)⟩
def gT (n : Nat) (b : Gts K pn gs) : Gt K pn (gTup K n gs) where
  asg := fun Γ d => match d with | .tup ds => if ds.length = n then b.asg Γ ds else none | _ => none
  len := fun {Γ Γ2 d} e => by
    split at e
    · split at e
      · exact b.len e
      · cases e
    · cases e
  ok := fun {Γ Γ2 d vs σ Hb H F Q} e w r k => by
    split at e
    · split at e
      · rename_i hl
        obtain ⟨a, xs, rfl, r1, r2⟩ := r
        exact ⟨a, xs, rfl, Evl.ex_t w.ex r1, by rw [reps_len r2]; exact hl, b.ok e w r2 k⟩
      · cases e
    · cases e

/-! ### plain statements -/
def sSeq (a : Sx K pn ts) (b : Sx K pn ts') : Sx K pn (tSeq ts ts') where
  ev := fun Γ => (a.ev Γ).bind fun c => match c with | .nx Γ1 => b.ev Γ1 | c => some c
  ok := fun {Γ c σ Hb H F E} e w gg => by
    obtain ⟨c1, e1, e⟩ := Option.bind_eq_some_iff.mp e
    refine a.ok e1 w ?_
    cases c1 with
    | nx Γ1 => exact fun σ1 Hb1 H1 F1 w1 s1 p1 => b.ok e w1 (gg.from s1 p1)
    | rt m Γ1 => cases e; exact gg
    | bk Γ1 => cases e; exact gg
    | ct Γ1 => cases e; exact gg
def sNext : Sx K pn tNext where
  ev := fun Γ => some (.nx Γ)
  ok := fun {Γ c σ Hb H F E} e w gg => by
    cases e
    exact gg σ Hb H F w Step.refl Pin.refl
def sBrk : Sx K pn tBreak where
  ev := fun Γ => some (.bk Γ)
  ok := fun {Γ c σ Hb H F E} e w gg => by
    cases e
    exact gg σ Hb H F w Step.refl Pin.refl
def sCont : Sx K pn tCont where
  ev := fun Γ => some (.ct Γ)
  ok := fun {Γ c σ Hb H F E} e w gg => by
    cases e
    exact gg σ Hb H F w Step.refl Pin.refl
/-- code that is not come to -/
def sNever : Sx K pn tNever where
  ev := fun _ => none
  ok := fun {Γ c σ Hb H F E} e w gg => by cases e
def sAsg (p : Pb K te) (q : Gt K pn g) : Sx K pn (tAsg te g) where
  ev := fun Γ => (p.ev Γ).bind fun d => (q.asg Γ d).map .nx
  ok := fun {Γ c σ Hb H F E} e w gg => by
    obtain ⟨d, e1, e⟩ := Option.bind_eq_some_iff.mp e
    obtain ⟨Γ2, e2, rfl⟩ := Option.map_eq_some_iff.mp e
    refine p.ok e1 w fun v Hb2 H2 x1 x2 x3 x4 r => ?_
    refine q.ok e2 (w.pure x1 x2 x3 x4) r fun σ2 F2 w2 s2 p2 => ?_
    exact gg σ2 Hb2 H2 F2 w2 ((Step.pure x1 x2 x4).trans (Step.sub s2)) p2
/-- name = a new thing of its own -/
def sAsgO (i : Nat) (p : Po K te) : Sx K pn (tAsg te (gName i)) where
  ev := fun Γ => (p.ev Γ).bind fun m => if i < Γ.length ∧ pn i = false then some (.nx (Γ.set i m)) else none
  ok := fun {Γ c σ Hb H F E} e w gg => by
    obtain ⟨m, e1, e⟩ := Option.bind_eq_some_iff.mp e
    split at e
    · rename_i h
      cases e
      refine p.ok e1 w fun v Hb2 H2 Fr x1 x2 x3 x4 o nd fr => ?_
      have w1 := w.pure x1 x2 x3 x4
      obtain ⟨F2, w2, h2⟩ := w1.put (m := m) (v := v) h.1 o nd (fun a ha => ⟨(fr a ha).1, fun hf => absurd (fr a ha).2 (w.own.there a hf)⟩)
      refine gg _ Hb2 H2 F2 w2 ⟨x1, fun a o h _ => x2 a o h, fun a ha => ?_, fun a ha => (x4 a ha).elim .inl fun z => .inr (.inr z)⟩ (Pin.set h.2)
      rcases h2 a ha with z | z
      · exact .inl z
      · exact .inr (fr a z).2
    · cases e
def sDrop (p : Ph K te) : Sx K pn (tDrop te) where
  ev := fun Γ => (p.ev Γ).map fun _ => .nx Γ
  ok := fun {Γ c σ Hb H F E} e w gg => by
    obtain ⟨d, e1, rfl⟩ := Option.map_eq_some_iff.mp e
    exact p.ok e1 w fun v Hb2 H2 x1 x2 x3 x4 r => gg σ Hb2 H2 F (w.pure x1 x2 x3 x4) (Step.pure x1 x2 x4) Pin.refl
def sRet (p : Pb K te) : Sx K pn (tRet te) where
  ev := fun Γ => (p.ev Γ).map fun d => .rt (.im d) Γ
  ok := fun {Γ c σ Hb H F E} e w gg => by
    obtain ⟨d, e1, rfl⟩ := Option.map_eq_some_iff.mp e
    exact p.ok e1 w fun v Hb2 H2 x1 x2 x3 x4 r => gg v σ Hb2 H2 F [] (w.pure x1 x2 x3 x4) (by rw [List.append_nil]; exact Step.pure x1 x2 x4) Pin.refl ⟨r, rfl⟩ (by rw [List.append_nil]; exact w.nd) (fun a ha => by cases ha)
def sRetO (p : Po K te) : Sx K pn (tRet te) where
  ev := fun Γ => (p.ev Γ).map fun m => .rt m Γ
  ok := fun {Γ c σ Hb H F E} e w gg => by
    obtain ⟨d, e1, rfl⟩ := Option.map_eq_some_iff.mp e
    refine p.ok e1 w fun v Hb2 H2 Fr x1 x2 x3 x4 o nd fr => gg v σ Hb2 H2 F Fr (w.pure x1 x2 x3 x4) ⟨x1, fun a o h _ => x2 a o h, fun a ha => ?_, fun a ha => (x4 a ha).elim .inl fun z => .inr (.inr z)⟩ Pin.refl o ?_ (fun a ha => (fr a ha).1)
    · rcases List.mem_append.mp ha with ha | ha
      · exact .inl ha
      · exact .inr (fr a ha).2
    · rw [List.nodup_append]
      refine ⟨w.nd, nd, fun a ha b hb e => ?_⟩
      subst e
      exact absurd (fr a hb).2 (w.own.there a ha)
def sRetN : Sx K pn tRetN where
  ev := fun Γ => some (.rt (.im .non) Γ)
  ok := fun {Γ c σ Hb H F E} e w gg => by
    cases e
    exact gg .non σ Hb H F [] w (by rw [List.append_nil]; exact Step.refl) Pin.refl ⟨rfl, rfl⟩ (by rw [List.append_nil]; exact w.nd) (fun a ha => by cases ha)
/-- return of a name's own thing -/
def sRetV (i : Nat) : Sx K pn (tRet (tVar i)) where
  ev := fun Γ => match Γ[i]? with | some (.nd sh cs) => some (.rt (.nd sh cs) (Γ.set i .emp)) | _ => none
  ok := fun {Γ c σ Hb H F E} e w gg => by
    split at e
    · rename_i sh cs h
      cases e
      obtain ⟨s, A, B, Fi, h1, h2, h3, h4⟩ := w.own.at h
      obtain ⟨v, rfl, o⟩ := h2
      subst h3
      have nA := w.nd
      rw [List.nodup_append] at nA
      obtain ⟨n1, n2, n3⟩ := nA
      rw [List.nodup_append] at n2
      obtain ⟨n4, n5, n6⟩ := n2
      refine ⟨v, h1, gg v (σ.set i (some v)) Hb H (A ++ ([] ++ B)) Fi ⟨w.ex, h4 Hb H .emp (some v) [] (Evl.Ex.refl _) (fun a _ o h => h) rfl, ?_, fun a ha => w.fh a ?_⟩ (Step.sub fun a ha => ?_) ?_ o ?_ fun a ha => w.fh a ?_⟩
      · rw [List.nodup_append]
        exact ⟨n1, by simpa using n5, fun a ha b hb e => n3 a ha b (by simp at hb; simp [hb]) e⟩
      · simp at ha ⊢; rcases ha with ha | ha <;> simp [ha]
      · simp at ha ⊢; rcases ha with ha | ha | ha <;> simp [ha]
      · intro j hj
        by_cases e : i = j
        · subst e; rw [h1]; simp [List.getElem?_set, (List.getElem?_eq_some_iff.mp h1).1]
        · rw [List.getElem?_set_ne e]
      · have : ((A ++ ([] ++ B)) ++ Fi).Perm (A ++ (Fi ++ B)) := by
          rw [List.nil_append, List.append_assoc]
          exact List.Perm.append_left A List.perm_append_comm
        exact this.nodup_iff.mpr w.nd
      · simp [ha]
    · cases e
def sIf (c : Tt K t) (a : Sx K pn ts) (b : Sx K pn ts') : Sx K pn (tIfS t ts ts') where
  ev := fun Γ => (c.ev Γ).bind fun x => if x = true then a.ev Γ else b.ev Γ
  ok := fun {Γ c1 σ Hb H F E} e w gg => by
    obtain ⟨x, e1, e⟩ := Option.bind_eq_some_iff.mp e
    refine c.ok e1 w fun Hb2 H2 x1 x2 x3 x4 => ?_
    have w2 := w.pure x1 x2 x3 x4
    have g2 := gg.from (Step.pure (F := F) x1 x2 x4) Pin.refl
    cases x with
    | true => exact a.ok (by simpa using e) w2 g2
    | false => exact b.ok (by simpa using e) w2 g2
/-- name op= e -/
def sAug {r : R2} (i : Nat) (o : Op2 K r) (p : Ph K te) : Sx K pn (tAug i te r) where
  ev := fun Γ => match Γ[i]? with | some (.im x) => (p.ev Γ).bind fun y => (o.g x y).bind fun z => if i < Γ.length ∧ pn i = false then some (.nx (Γ.set i (.im z))) else none | _ => none
  ok := fun {Γ c σ Hb H F E} e w gg => by
    split at e
    · rename_i x hx
      obtain ⟨y, e1, e⟩ := Option.bind_eq_some_iff.mp e
      obtain ⟨z, e2, e⟩ := Option.bind_eq_some_iff.mp e
      split at e
      · rename_i h
        cases e
        obtain ⟨v, h1, h2⟩ := w.slot hx
        refine ⟨v, h1, p.ok e1 w fun v1 Hb2 H2 x1 x2 x3 x4 r1 => ?_⟩
        have w2 := w.pure x1 x2 x3 x4
        obtain ⟨q, hs, hq⟩ := o.ok e2 (rep_mono (Evl.Ex.trans x1 x3) h2) r1
        refine hq _ ?_
        obtain ⟨F2, w3, h3⟩ := w2.put (m := .im z) (v := q) (Fr := []) h.1 ⟨rep_sc hs, rfl⟩ List.nodup_nil (fun a ha => by cases ha)
        exact gg _ Hb2 H2 F2 w3 ((Step.pure x1 x2 x4).trans (Step.sub fun a ha => (h3 a ha).elim id fun z => by cases z)) (Pin.set h.2)
      · cases e
    · cases e

/-! ### changing a name's own list -/
/-- the slot's object is changed in place, nothing else -/
theorem WF.chg {Γ : List M} {σ : St} {Hb H : Hp} {F : List Addr} {i : Nat} {sh : Sh} {cs : List M} (w : WF K Γ σ Hb H F) (h : Γ[i]? = some (.nd sh cs)) :
    ∃ a dx vs Fc, σ[i]? = some (some (.ref a)) ∧ a ∈ F ∧ H a = some (sh.ho dx vs) ∧ sh.fit vs.length ∧ OwnL K Hb H cs vs Fc ∧ a ∉ Fc ∧
      ∀ (sh2 : Sh) (cs2 : List M) (vs2 : List V), sh2.fit vs2.length → OwnL K Hb (upd H a (sh2.ho dx vs2)) cs2 vs2 Fc → WF K (Γ.set i (.nd sh2 cs2)) σ Hb (upd H a (sh2.ho dx vs2)) F ∧ Step Hb H F Hb (upd H a (sh2.ho dx vs2)) F := by
  obtain ⟨s, A, B, Fi, h1, h2, h3, h4⟩ := w.own.at h
  obtain ⟨v, rfl, o⟩ := h2
  obtain ⟨a, dx, vs, Fc, rfl, e2, e3, e4, rfl⟩ := o
  subst h3
  have nA := w.nd
  have ha : a ∈ A ++ (a :: Fc ++ B) := by simp
  refine ⟨a, dx, vs, Fc, h1, ha, e2, e3, e4, ?_, fun sh2 cs2 vs2 f2 o2 => ?_⟩
  · rw [List.nodup_append] at nA
    have := nA.2.1
    rw [List.nodup_append] at this
    exact (List.nodup_cons.mp this.1).1
  rw [List.nodup_append] at nA
  obtain ⟨n1, n2, n3⟩ := nA
  rw [List.nodup_append] at n2
  obtain ⟨n4, n5, n6⟩ := n2
  have ab : Hb a = none := w.fh a ha
  have eσ : σ.set i (some (V.ref a)) = σ := by
    apply List.ext_getElem?
    intro j
    by_cases e : i = j
    · subst e; rw [h1]; simp [List.getElem?_set, (List.getElem?_eq_some_iff.mp h1).1]
    · rw [List.getElem?_set_ne e]
  have ex : Ex Hb (upd H a (sh2.ho dx vs2)) := fun b o hb => by
    have : b ≠ a := fun z => by rw [z, ab] at hb; cases hb
    rw [upd_ne this]; exact w.ex b o hb
  refine ⟨⟨ex, ?_, w.nd, w.fh⟩, ⟨Evl.Ex.refl _, fun b o hb hf => ?_, fun b hb => .inl hb, fun _ hb => .inl hb⟩⟩
  · have := h4 Hb (upd H a (sh2.ho dx vs2)) (.nd sh2 cs2) (some (.ref a)) (a :: Fc) (Evl.Ex.refl _) (fun b hb o hH => ?_) ⟨.ref a, rfl, a, dx, vs2, Fc, rfl, upd_same, f2, o2, rfl⟩
    · rw [eσ] at this; exact this
    · have : b ≠ a := fun z => by
        subst z
        rcases List.mem_append.mp hb with hb | hb
        · exact n3 b hb b (by simp) rfl
        · exact n6 b (by simp) b hb rfl
      rw [upd_ne this]; exact hH
  · have : b ≠ a := fun z => hf (by rw [z]; exact ha)
    rw [upd_ne this]; exact hb
theorem ownL_append {Hb H : Hp} : ∀ {ms ns : List M} {vs ws : List V} {F : List Addr}, OwnL K Hb H ms vs F → OwnL K Hb H ns ws [] → OwnL K Hb H (ms ++ ns) (vs ++ ws) F
  | [], ns, vs, ws, F, h, g => by
    obtain ⟨rfl, rfl⟩ := h
    exact g
  | m :: ms, ns, vs, ws, F, h, g => by
    obtain ⟨v, r, F1, F2, rfl, h1, h2, rfl⟩ := h
    exact ⟨v, r ++ ws, F1, F2, rfl, h1, ownL_append h2 g, rfl⟩
theorem ownL_len {Hb H : Hp} : ∀ {ms : List M} {vs : List V} {F : List Addr}, OwnL K Hb H ms vs F → vs.length = ms.length
  | [], _, _, h => by rw [h.1]; rfl
  | m :: ms, _, _, h => by
    obtain ⟨v, r, F1, F2, rfl, h1, h2, rfl⟩ := h
    simp [ownL_len h2]
/-- children at an address that is not theirs keep when that is changed -/
theorem ownL_upd {Hb H : Hp} {ms : List M} {vs : List V} {F : List Addr} {a : Addr} {o : HO} (h : OwnL K Hb H ms vs F) (ha : a ∉ F) : OwnL K Hb (upd H a o) ms vs F :=
  OwnL.keep (Evl.Ex.refl _) h fun b hb u hu => by
    have : b ≠ a := fun z => ha (z ▸ hb)
    rw [upd_ne this]; exact hu
/-- no own children -/
def allIm : List M → Option (List D)
  | [] => some []
  | .im d :: ms => (allIm ms).map fun ds => d :: ds
  | _ :: _ => none
theorem allIm_eq : ∀ {cs : List M} {ds : List D}, allIm cs = some ds → cs = ds.map M.im
  | [], ds, h => by simp [allIm] at h; subst h; rfl
  | .im d :: ms, ds, h => by
    simp only [allIm, Option.map_eq_some_iff] at h
    obtain ⟨ds', h1, rfl⟩ := h
    rw [allIm_eq h1]; rfl
  | .emp :: _, _, h => by simp [allIm] at h
  | .nd _ _ :: _, _, h => by simp [allIm] at h
theorem allIm_map : ∀ (ds : List D), allIm (ds.map M.im) = some ds
  | [] => rfl
  | d :: ds => by simp [allIm, allIm_map ds]
theorem ims_own {Hb H : Hp} : ∀ {ds : List D} {vs : List V} {F : List Addr}, OwnL K Hb H (ds.map M.im) vs F → reps K Hb ds vs ∧ F = []
  | [], _, _, h => h
  | d :: ds, _, _, h => by
    obtain ⟨v, r, F1, F2, rfl, ⟨h1, rfl⟩, h2, rfl⟩ := h
    obtain ⟨h3, rfl⟩ := ims_own h2
    exact ⟨⟨v, r, rfl, h1, h3⟩, rfl⟩
/-- xs.append(e), xs a name -/
def sApp (i : Nat) (p : Pb K te) : Sx K pn (tDrop (tBM K "list" rAppend (tVar i) (tCons te tNil))) where
  ev := fun Γ => match Γ[i]? with
    | some (.nd .lst cs) => (p.ev Γ).bind fun d => if lineD (cs.length + 1) then some (.nx (Γ.set i (.nd .lst (cs ++ [.im d])))) else none
    | _ => none
  ok := fun {Γ c σ Hb H F E} e w gg => by
    split at e
    · rename_i cs hi
      obtain ⟨d, e1, e⟩ := Option.bind_eq_some_iff.mp e
      split at e
      · rename_i hl
        cases e
        obtain ⟨a, dx, vs, Fc, s1, s2, s3, s4, s5, s6, s7⟩ := w.chg hi
        refine ⟨.ref a, s1, Or.inl ⟨rfl, vs, SqL.of s3⟩, ?_⟩
        refine p.ok e1 w fun v Hb2 H2 x1 x2 x3 x4 r => ?_
        have w2 := w.pure x1 x2 x3 x4
        obtain ⟨a', dx', vs', Fc', t1, t2, t3, t4, t5, t6, t7⟩ := w2.chg hi
        have ea : a' = a := by rw [s1] at t1; cases t1; rfl
        subst ea
        have hlen : vs'.length + 1 ≤ 100000 := by rw [ownL_len t5]; exact of_decide_eq_true hl
        refine ⟨a', vs', v, rfl, rfl, t3, Nat.lt_of_lt_of_le (Nat.lt_succ_self _) (Evl.sz_of hlen), ?_⟩
        obtain ⟨w3, st3⟩ := t7 .lst (cs ++ [.im d]) (vs' ++ [v]) True.intro (ownL_append (ownL_upd t5 t6) (own_ims (ds := [d]) ⟨v, [], rfl, r, rfl⟩))
        exact gg σ Hb2 _ F w3 ((Step.pure x1 x2 x4).trans st3) Pin.refl
      · cases e
    · cases e
end
end KS

namespace KS
open PySem L2

/-- J yields just the data ds, one by one -/
def Walks (K : PySem.W.Frag) (J : It) (ds : List D) (Hb2 : Hp) : Prop :=
  (∀ i Hb3 H3, Ex Hb2 Hb3 → Ex Hb3 H3 → i < ds.length → J.go i H3 ∧ ∀ x H4, J.yld i H3 x H4 → ∃ Hb4 d, Ex Hb3 Hb4 ∧ Ex H3 H4 ∧ Ex Hb4 H4 ∧ NB Hb3 Hb4 H3 ∧ ds[i]? = some d ∧ rep K Hb4 d x) ∧
  (∀ Hb3 H3, Ex Hb2 Hb3 → Ex Hb3 H3 → J.stop ds.length H3)
structure Src (K : PySem.W.Frag) (wi : TI) where
  ev : List M → Option (List D)
  ok : ∀ {Γ : List M} {ds : List D} {σ : St} {Hb H : Hp} {F : List Addr} {R : It → Hp → Prop}, ev Γ = some ds → WF K Γ σ Hb H F →
    (∀ J Hb2 H2, Ex Hb Hb2 → Ex H H2 → Ex Hb2 H2 → NB Hb Hb2 H → Walks K J ds Hb2 → R J H2) → wi σ H R
def forRun (asg : List M → D → Option (List M)) (body : List M → Option Ct) : List D → List M → Option Ct
  | [], Γ => some (.nx Γ)
  | d :: ds, Γ => (asg Γ d).bind fun Γ1 => (body Γ1).bind fun c => match c with
    | .nx Γ2 => forRun asg body ds Γ2
    | .ct Γ2 => forRun asg body ds Γ2
    | .bk Γ2 => some (.nx Γ2)
    | .rt m Γ2 => some (.rt m Γ2)
def whileRun (c : List M → Option Bool) (body : List M → Option Ct) : Nat → List M → Option Ct
  | 0, _ => none
  | n + 1, Γ => (c Γ).bind fun b => if b = true then (body Γ).bind fun r => match r with
      | .nx Γ2 => whileRun c body n Γ2
      | .ct Γ2 => whileRun c body n Γ2
      | .bk Γ2 => some (.nx Γ2)
      | .rt m Γ2 => some (.rt m Γ2)
    else some (.nx Γ)
section
variable {K : PySem.W.Frag} {pn : Nat → Bool} {ta tb tc te : TE} {tr : TA} {t u : TT} {ts ts' tS : TS} {g : TG} {gs : TGs} {wi : TI}
def sFor (s : Src K wi) (q : Gt K pn g) (b : Sx K pn tS) : Sx K pn (tFor wi g tS) where
  ev := fun Γ => (s.ev Γ).bind fun ds => forRun q.asg b.ev ds Γ
  ok := fun {Γ c σ Hb H F E} e w gg => by
    obtain ⟨ds, e1, e⟩ := Option.bind_eq_some_iff.mp e
    refine s.ok e1 w fun J Hb1 H1 x1 x2 x3 x4 wk => ?_
    refine ⟨fun i m σ' H' => m = ds.length - i ∧ i ≤ ds.length ∧ ∃ Γ' Hb' F', WF K Γ' σ' Hb' H' F' ∧ Step Hb H F Hb' H' F' ∧ Ex Hb1 Hb' ∧ Pin pn σ σ' ∧ forRun q.asg b.ev (ds.drop i) Γ' = some c,
      ⟨ds.length, by simp, Nat.zero_le _, Γ, Hb1, F, w.pure x1 x2 x3 x4, Step.pure x1 x2 x4, Evl.Ex.refl _, Pin.refl, by simpa using e⟩, ?_⟩
    rintro i m σ' H' ⟨rfl, hi, Γ', Hb', F', w', s', xb, p', run⟩
    by_cases hlt : i < ds.length
    · obtain ⟨go, yl⟩ := wk.1 i Hb' H' xb w'.ex hlt
      refine .inr ⟨go, fun σ'' H'' => i + 1 ≤ ds.length ∧ ∃ Γ' Hb' F', WF K Γ' σ'' Hb' H'' F' ∧ Step Hb H F Hb' H'' F' ∧ Ex Hb1 Hb' ∧ Pin pn σ σ'' ∧ forRun q.asg b.ev (ds.drop (i + 1)) Γ' = some c,
        fun σ'' H'' n => ⟨ds.length - (i + 1), by omega, rfl, n⟩, fun x H4 hy => ?_⟩
      obtain ⟨Hb4, d, y1, y2, y3, y4, hd, r⟩ := yl x H4 hy
      have ed : ds.drop i = d :: ds.drop (i + 1) := by
        rw [List.drop_eq_getElem_cons hlt]
        rw [List.getElem?_eq_getElem hlt] at hd
        cases hd; rfl
      rw [ed] at run
      simp only [forRun] at run
      obtain ⟨Γ1, r1, run⟩ := Option.bind_eq_some_iff.mp run
      obtain ⟨c1, r2, run⟩ := Option.bind_eq_some_iff.mp run
      have w4 := w'.pure y1 y2 y3 y4
      have s4 : Step Hb H F Hb4 H4 F' := s'.trans (Step.pure y1 y2 y4)
      refine q.ok r1 w4 r fun σ5 F5 w5 sub5 p5 => ?_
      have s5 : Step Hb H F Hb4 H4 F5 := s4.trans (Step.sub sub5)
      refine b.ok r2 w5 ?_
      cases c1 with
      | nx Γ2 => exact fun σ6 Hb6 H6 F6 w6 s6 p6 => ⟨hlt, Γ2, Hb6, F6, w6, s5.trans s6, Evl.Ex.trans (Evl.Ex.trans xb y1) s6.eb, (p'.trans p5).trans p6, run⟩
      | ct Γ2 => exact fun σ6 Hb6 H6 F6 w6 s6 p6 => ⟨hlt, Γ2, Hb6, F6, w6, s5.trans s6, Evl.Ex.trans (Evl.Ex.trans xb y1) s6.eb, (p'.trans p5).trans p6, run⟩
      | bk Γ2 =>
        cases run
        exact fun σ6 Hb6 H6 F6 w6 s6 p6 => gg σ6 Hb6 H6 F6 w6 (s5.trans s6) ((p'.trans p5).trans p6)
      | rt m Γ2 =>
        cases run
        exact fun v σ6 Hb6 H6 F6 Fr w6 s6 p6 => gg v σ6 Hb6 H6 F6 Fr w6 (s5.trans s6) ((p'.trans p5).trans p6)
    · have ei : i = ds.length := by omega
      subst ei
      rw [List.drop_length] at run
      simp only [forRun, Option.some.injEq] at run
      subst run
      exact .inl ⟨wk.2 Hb' H' xb w'.ex, gg σ' Hb' H' F' w' s' p'⟩
def sWhile (fuel : List M → Nat) (c : Tt K t) (b : Sx K pn tS) : Sx K pn (tWhile t tS) where
  ev := fun Γ => whileRun c.ev b.ev (fuel Γ) Γ
  ok := fun {Γ r σ Hb H F E} e w gg => by
    refine ⟨fun m σ' H' => ∃ Γ' Hb' F', WF K Γ' σ' Hb' H' F' ∧ Step Hb H F Hb' H' F' ∧ Pin pn σ σ' ∧ whileRun c.ev b.ev m Γ' = some r, ⟨fuel Γ, Γ, Hb, F, w, Step.refl, Pin.refl, e⟩, ?_⟩
    rintro m σ' H' ⟨Γ', Hb', F', w', s', p', run⟩
    cases m with
    | zero => cases run
    | succ m =>
      simp only [whileRun] at run
      obtain ⟨x, e1, run⟩ := Option.bind_eq_some_iff.mp run
      refine c.ok e1 w' fun Hb2 H2 x1 x2 x3 x4 => ?_
      have w2 := w'.pure x1 x2 x3 x4
      have s2 : Step Hb H F Hb2 H2 F' := s'.trans (Step.pure x1 x2 x4)
      cases x with
      | true =>
        simp only [if_true] at run
        obtain ⟨c1, r2, run⟩ := Option.bind_eq_some_iff.mp run
        refine ⟨fun σ'' H'' => ∃ Γ' Hb' F', WF K Γ' σ'' Hb' H'' F' ∧ Step Hb H F Hb' H'' F' ∧ Pin pn σ σ'' ∧ whileRun c.ev b.ev m Γ' = some r, fun σ'' H'' n => ⟨m, Nat.lt_succ_self _, n⟩, ?_⟩
        refine b.ok r2 w2 ?_
        cases c1 with
        | nx Γ2 => exact fun σ6 Hb6 H6 F6 w6 s6 p6 => ⟨Γ2, Hb6, F6, w6, s2.trans s6, p'.trans p6, run⟩
        | ct Γ2 => exact fun σ6 Hb6 H6 F6 w6 s6 p6 => ⟨Γ2, Hb6, F6, w6, s2.trans s6, p'.trans p6, run⟩
        | bk Γ2 =>
          cases run
          exact fun σ6 Hb6 H6 F6 w6 s6 p6 => gg σ6 Hb6 H6 F6 w6 (s2.trans s6) (p'.trans p6)
        | rt m Γ2 =>
          cases run
          exact fun v σ6 Hb6 H6 F6 Fr w6 s6 p6 => gg v σ6 Hb6 H6 F6 Fr w6 (s2.trans s6) (p'.trans p6)
      | false =>
        have run' : some (Ct.nx Γ') = some r := by simpa using run
        cases run'
        exact gg σ' Hb2 H2 F' w2 s2 p'

/-! ### what is walked -/
def srcL (p : Pb K ta) : Src K (iList K ta) where
  ev := fun Γ => (p.ev Γ).bind D.asL
  ok := fun {Γ ds σ Hb H F R} e w k => by
    obtain ⟨d, e1, e⟩ := Option.bind_eq_some_iff.mp e
    refine p.ok e1 w fun v Hb2 H2 x1 x2 x3 x4 r => ?_
    · obtain ⟨a, xs, rfl, h1, h2⟩ := rep_asL e r
      refine ⟨a, rfl, ⟨xs, Evl.ex_l x3 h1⟩, k (Itl K a) Hb2 H2 x1 x2 x3 x4 ⟨fun i Hb3 H3 y1 y2 hi => ?_, fun Hb3 H3 y1 y2 => ⟨xs, Evl.ex_l (Evl.Ex.trans y1 y2) h1, by rw [reps_len h2]; exact Nat.le_refl _⟩⟩⟩
      have hl := reps_len h2
      refine ⟨⟨xs, xs[i]'(by omega), Evl.ex_l (Evl.Ex.trans y1 y2) h1, List.getElem?_eq_getElem _⟩, fun x H4 hy => ?_⟩
      obtain ⟨rfl, hx⟩ := hy
      obtain ⟨d', e2, e3⟩ := reps_get h2 (hx xs (Evl.ex_l (Evl.Ex.trans y1 y2) h1))
      exact ⟨Hb3, d', Evl.Ex.refl _, Evl.Ex.refl _, y2, NB.refl, e2, rep_mono y1 e3⟩
def srcT (p : Pb K ta) : Src K (iTup K ta) where
  ev := fun Γ => (p.ev Γ).bind fun d => match d with | .tup l => some l | _ => none
  ok := fun {Γ ds σ Hb H F R} e w k => by
    obtain ⟨d, e1, e⟩ := Option.bind_eq_some_iff.mp e
    refine p.ok e1 w fun v Hb2 H2 x1 x2 x3 x4 r => ?_
    split at e
    · cases e
      obtain ⟨a, xs, rfl, h1, h2⟩ := r
      refine ⟨a, rfl, ⟨xs, Evl.ex_t x3 h1⟩, k (Itt K a) Hb2 H2 x1 x2 x3 x4 ⟨fun i Hb3 H3 y1 y2 hi => ?_, fun Hb3 H3 y1 y2 => ⟨xs, Evl.ex_t (Evl.Ex.trans y1 y2) h1, by rw [reps_len h2]; exact Nat.le_refl _⟩⟩⟩
      have hl := reps_len h2
      refine ⟨⟨xs, xs[i]'(by omega), Evl.ex_t (Evl.Ex.trans y1 y2) h1, List.getElem?_eq_getElem _⟩, fun x H4 hy => ?_⟩
      obtain ⟨rfl, hx⟩ := hy
      obtain ⟨d', e2, e3⟩ := reps_get h2 (hx xs (Evl.ex_t (Evl.Ex.trans y1 y2) h1))
      exact ⟨Hb3, d', Evl.Ex.refl _, Evl.Ex.refl _, y2, NB.refl, e2, rep_mono y1 e3⟩
    · cases e
/-- lo, lo + 1, .. (n of them) -/
def rangeD (lo : Int) (n : Nat) : List D := (List.range n).map fun (i : Nat) => D.int (lo + (i : Int))
theorem rangeD_len (lo : Int) (n : Nat) : (rangeD lo n).length = n := by simp [rangeD]
theorem walks_range {Hb2 : Hp} (lo : Int) (n : Nat) : Walks K (Itr lo n) (rangeD lo n) Hb2 := by
  refine ⟨fun i Hb3 H3 y1 y2 hi => ?_, fun Hb3 H3 y1 y2 => ?_⟩
  · rw [rangeD_len] at hi
    refine ⟨hi, fun x H4 hy => ?_⟩
    obtain ⟨rfl, rfl⟩ := hy
    exact ⟨Hb3, .int (lo + (i : Int)), Evl.Ex.refl _, Evl.Ex.refl _, y2, NB.refl, by simp [rangeD, hi], rfl⟩
  · show n ≤ (rangeD lo n).length
    rw [rangeD_len]; exact Nat.le_refl _
def srcR1 (a : Ah K tr) : Src K (iRng1 tr) where
  ev := fun Γ => (a.ev Γ).bind fun ds => match ds with | [.int n] => if -(2 ^ 62) ≤ n ∧ n < 2 ^ 62 then some (rangeD 0 n.toNat) else none | _ => none
  ok := fun {Γ ds σ Hb H F R} e w k => by
    obtain ⟨d, e1, e⟩ := Option.bind_eq_some_iff.mp e
    refine a.ok e1 w fun v Hb2 H2 x1 x2 x3 x4 r => ?_
    split at e
    · split at e
      · rename_i n hn
        cases e
        obtain ⟨x, xs, rfl, h1, h2⟩ := r
        obtain rfl : xs = [] := h2
        obtain rfl : x = .int n := h1
        exact ⟨n, rfl, hn.1, hn.2, k _ Hb2 H2 x1 x2 x3 x4 (walks_range 0 n.toNat)⟩
      · cases e
    · cases e
def srcR2 (a : Ah K tr) : Src K (iRng2 tr) where
  ev := fun Γ => (a.ev Γ).bind fun ds => match ds with | [.int m, .int n] => if (-(2 ^ 62) ≤ m ∧ m < 2 ^ 62) ∧ -(2 ^ 62) ≤ n ∧ n < 2 ^ 62 then some (rangeD m (n - m).toNat) else none | _ => none
  ok := fun {Γ ds σ Hb H F R} e w k => by
    obtain ⟨d, e1, e⟩ := Option.bind_eq_some_iff.mp e
    refine a.ok e1 w fun v Hb2 H2 x1 x2 x3 x4 r => ?_
    split at e
    · split at e
      · rename_i m n hn
        cases e
        obtain ⟨x, xs, rfl, h1, y, ys, rfl, h2, h3⟩ := r
        obtain rfl : ys = [] := h3
        obtain rfl : x = .int m := h1
        obtain rfl : y = .int n := h2
        exact ⟨m, n, rfl, ⟨hn.1.1, hn.1.2, hn.2.1, hn.2.2⟩, k _ Hb2 H2 x1 x2 x3 x4 (walks_range m (n - m).toNat)⟩
      · cases e
    · cases e
def srcS (p : Ph K ta) : Src K (iStr ta) where
  ev := fun Γ => (p.ev Γ).bind fun d => match d with | .str s => some (s.cps.toList.map fun c => D.str ⟨#[c]⟩) | _ => none
  ok := fun {Γ ds σ Hb H F R} e w k => by
    obtain ⟨d, e1, e⟩ := Option.bind_eq_some_iff.mp e
    refine p.ok e1 w fun v Hb2 H2 x1 x2 x3 x4 r => ?_
    split at e
    · rename_i s
      cases e
      obtain rfl : v = .str s := r
      refine ⟨s, rfl, k (Its s) Hb2 H2 x1 x2 x3 x4 ⟨fun i Hb3 H3 y1 y2 hi => ?_, fun Hb3 H3 y1 y2 => ?_⟩⟩
      · rw [List.length_map, Array.length_toList] at hi
        refine ⟨hi, fun x H4 hy => ?_⟩
        obtain ⟨rfl, c, hc, rfl⟩ := hy
        exact ⟨Hb3, .str ⟨#[c]⟩, Evl.Ex.refl _, Evl.Ex.refl _, y2, NB.refl, by simp [hc], rfl⟩
      · show s.cps.size ≤ _
        simp
    · cases e
theorem ex_put {Hb H : Hp} {T : Addr} {o : HO} (e : Ex Hb H) (h : H T = none) : Ex Hb (upd Hb T o) ∧ Ex H (upd H T o) ∧ Ex (upd Hb T o) (upd H T o) ∧ NB Hb (upd Hb T o) H := by
  have hb : Hb T = none := none_of_ex e h
  refine ⟨Evl.Ex.new hb, Evl.Ex.new h, fun a u ha => ?_, fun a ha => ?_⟩
  · by_cases z : a = T
    · subst z; rw [upd_same] at ha ⊢; exact ha
    · rw [upd_ne z] at ha ⊢; exact e a u ha
  · by_cases z : a = T
    · subst z; exact .inr h
    · rw [upd_ne z] at ha; exact .inl ha
/-- pairs of a number and an item -/
def enumD : Nat → List D → List D
  | _, [] => []
  | i, d :: ds => .tup [.int (i : Int), d] :: enumD (i + 1) ds
theorem enumD_get : ∀ {ds : List D} {i j : Nat} {d : D}, ds[i]? = some d → (enumD j ds)[i]? = some (.tup [.int ((j + i : Nat) : Int), d])
  | [], _, _, _, h => by simp at h
  | a :: ds, 0, j, d, h => by simp at h; subst h; simp [enumD]
  | a :: ds, i + 1, j, d, h => by
    simp at h
    have := enumD_get (j := j + 1) h
    simp only [enumD, List.getElem?_cons_succ]
    rw [this]
    have : j + 1 + i = j + (i + 1) := by omega
    rw [this]
theorem enumD_len : ∀ (ds : List D) (j : Nat), (enumD j ds).length = ds.length
  | [], _ => rfl
  | d :: ds, j => by simp [enumD, enumD_len ds]
def srcE (a : Ab K tr) : Src K (iEnum K tr) where
  ev := fun Γ => (a.ev Γ).bind fun ds => match ds with | [d] => d.asL.map (enumD 0) | _ => none
  ok := fun {Γ ds σ Hb H F R} e w k => by
    obtain ⟨d, e1, e⟩ := Option.bind_eq_some_iff.mp e
    refine a.ok e1 w fun v Hb2 H2 x1 x2 x3 x4 r => ?_
    split at e
    · rename_i d0
      obtain ⟨l, hl0, rfl⟩ := Option.map_eq_some_iff.mp e
      obtain ⟨x, xs, rfl, h1, h2⟩ := r
      obtain rfl : xs = [] := h2
      obtain ⟨q, ys, rfl, h1, h2⟩ := rep_asL hl0 h1
      refine ⟨q, ys, rfl, Evl.ex_l x3 h1, k (Ite K q) Hb2 H2 x1 x2 x3 x4 ⟨fun i Hb3 H3 y1 y2 hi => ?_, fun Hb3 H3 y1 y2 => ⟨ys, Evl.ex_l (Evl.Ex.trans y1 y2) h1, by rw [enumD_len, reps_len h2]; exact Nat.le_refl _⟩⟩⟩
      rw [enumD_len] at hi
      have hl := reps_len h2
      refine ⟨⟨ys, ys[i]'(by omega), Evl.ex_l (Evl.Ex.trans y1 y2) h1, List.getElem?_eq_getElem _⟩, fun x H4 hy => ?_⟩
      obtain ⟨T, z, rfl, hT, rfl, hz⟩ := hy
      obtain ⟨d', e2, e3⟩ := reps_get h2 (hz ys (Evl.ex_l (Evl.Ex.trans y1 y2) h1))
      obtain ⟨z1, z2, z3, z4⟩ := ex_put (o := .tup [.int (i : Nat), z]) y2 hT
      refine ⟨upd Hb3 T (.tup [.int (i : Nat), z]), .tup [.int (i : Nat), d'], z1, z2, z3, z4, by rw [enumD_get e2, Nat.zero_add], T, _, rfl, SqT.of upd_same, .int (i : Nat), [z], rfl, rfl, z, [], rfl, rep_mono (Evl.Ex.trans y1 z1) e3, rfl⟩
    · cases e
def zipD : List D → List D → List D
  | a :: as, b :: bs => .tup [a, b] :: zipD as bs
  | _, _ => []
theorem zipD_get : ∀ {as bs : List D} {i : Nat} {a b : D}, as[i]? = some a → bs[i]? = some b → (zipD as bs)[i]? = some (.tup [a, b])
  | [], _, _, _, _, h, _ => by simp at h
  | _ :: _, [], _, _, _, _, h => by simp at h
  | a :: as, b :: bs, 0, _, _, h, h' => by simp at h h'; subst h; subst h'; simp [zipD]
  | a :: as, b :: bs, i + 1, _, _, h, h' => by
    simp at h h'
    simpa [zipD] using zipD_get h h'
theorem zipD_len : ∀ (as bs : List D), (zipD as bs).length = min as.length bs.length
  | [], _ => by simp [zipD]
  | _ :: _, [] => by simp [zipD]
  | a :: as, b :: bs => by
    simp only [zipD, List.length_cons, zipD_len as bs]; omega
def srcZ (a : Ab K tr) : Src K (iZip K tr) where
  ev := fun Γ => (a.ev Γ).bind fun ds => match ds with | [d, d'] => d.asL.bind fun l => d'.asL.map fun l' => zipD l l' | _ => none
  ok := fun {Γ ds σ Hb H F R} e w k => by
    obtain ⟨d, e1, e⟩ := Option.bind_eq_some_iff.mp e
    refine a.ok e1 w fun v Hb2 H2 x1 x2 x3 x4 r => ?_
    split at e
    · obtain ⟨l, hl0, e⟩ := Option.bind_eq_some_iff.mp e
      obtain ⟨l', hl1, rfl⟩ := Option.map_eq_some_iff.mp e
      obtain ⟨x, xs, rfl, h1, y, ys, rfl, h2, h3⟩ := r
      obtain rfl : ys = [] := h3
      obtain ⟨q, us, rfl, h1, h1'⟩ := rep_asL hl0 h1
      obtain ⟨q', vs, rfl, h2, h2'⟩ := rep_asL hl1 h2
      have l1 := reps_len h1'
      have l2 := reps_len h2'
      refine ⟨q, q', us, vs, rfl, Evl.ex_l x3 h1, Evl.ex_l x3 h2, k (Itz K q q') Hb2 H2 x1 x2 x3 x4 ⟨fun i Hb3 H3 y1 y2 hi => ?_, fun Hb3 H3 y1 y2 => ⟨us, vs, Evl.ex_l (Evl.Ex.trans y1 y2) h1, Evl.ex_l (Evl.Ex.trans y1 y2) h2, by rw [zipD_len]; omega⟩⟩⟩
      rw [zipD_len] at hi
      refine ⟨⟨us, vs, us[i]'(by omega), vs[i]'(by omega), Evl.ex_l (Evl.Ex.trans y1 y2) h1, Evl.ex_l (Evl.Ex.trans y1 y2) h2, List.getElem?_eq_getElem _, List.getElem?_eq_getElem _⟩, fun x H4 hy => ?_⟩
      obtain ⟨T, z, z', rfl, hT, rfl, hz, hz'⟩ := hy
      obtain ⟨d1, e2, e3⟩ := reps_get h1' (hz us (Evl.ex_l (Evl.Ex.trans y1 y2) h1))
      obtain ⟨d2, e4, e5⟩ := reps_get h2' (hz' vs (Evl.ex_l (Evl.Ex.trans y1 y2) h2))
      obtain ⟨z1, z2, z3, z4⟩ := ex_put (o := .tup [z, z']) y2 hT
      exact ⟨upd Hb3 T (.tup [z, z']), .tup [d1, d2], z1, z2, z3, z4, zipD_get e2 e4, T, _, rfl, SqT.of upd_same, z, [z'], rfl, rep_mono (Evl.Ex.trans y1 z1) e3, z', [], rfl, rep_mono (Evl.Ex.trans y1 z1) e5, rfl⟩
    · cases e

/-! ### comprehensions -/
def wipeG (Γ : List M) : List Nat → List M
  | [] => Γ
  | v :: vs => (wipeG Γ vs).set v .emp
theorem wipeG_len (Γ : List M) : ∀ vs, (wipeG Γ vs).length = Γ.length
  | [] => rfl
  | v :: vs => by simp [wipeG, wipeG_len Γ vs]
theorem WF.wipe {Γ : List M} {σ : St} {Hb H : Hp} {F : List Addr} (w : WF K Γ σ Hb H F) : ∀ vs : List Nat, ∃ F2, WF K (wipeG Γ vs) (wipe σ vs) Hb H F2 ∧ ∀ a ∈ F2, a ∈ F
  | [] => ⟨F, w, fun _ h => h⟩
  | v :: vs => by
    obtain ⟨F1, w1, h1⟩ := w.wipe vs
    by_cases hv : v < (wipeG Γ vs).length
    · obtain ⟨F2, w2, h2⟩ := w1.wipe1 (i := v) (s' := none) hv
      exact ⟨F2, w2, fun a h => h1 a (h2 a h)⟩
    · have e1 : (wipeG Γ vs).set v .emp = wipeG Γ vs := List.set_eq_of_length_le (by omega)
      have e2 : (L2.wipe σ vs).set v none = L2.wipe σ vs := List.set_eq_of_length_le (by rw [wipe_length, w.own.len]; rw [wipeG_len] at hv; omega)
      exact ⟨F1, by show WF K ((wipeG Γ vs).set v .emp) ((L2.wipe σ vs).set v none) Hb H F1; rw [e1, e2]; exact w1, h1⟩
theorem wipe_get {σ : St} : ∀ {vs : List Nat} {i : Nat}, (L2.wipe σ vs)[i]? = if i ∈ vs then (if i < σ.length then some none else none) else σ[i]?
  | [], i => by simp [L2.wipe]
  | v :: vs, i => by
    show ((L2.wipe σ vs).set v none)[i]? = _
    by_cases e : v = i
    · subst e
      rw [if_pos List.mem_cons_self]
      rw [List.getElem?_set_self' ]
      by_cases h : v < σ.length
      · rw [if_pos h]
        rw [List.getElem?_eq_getElem (by rw [wipe_length]; exact h)]
        rfl
      · rw [if_neg h]
        rw [List.getElem?_eq_none (by rw [wipe_length]; omega)]
        rfl
    · rw [List.getElem?_set_ne e, wipe_get]
      have : (i ∈ v :: vs) = (i ∈ vs) := by simp [Ne.symm e]
      simp only [this]
theorem wipe_same {σ σ2 : St} {vs : List Nat} (hl : σ2.length = σ.length) (h : Pin (fun i => !vs.contains i) (L2.wipe σ vs) σ2) : L2.wipe σ2 vs = L2.wipe σ vs := by
  apply List.ext_getElem?
  intro i
  rw [wipe_get, wipe_get]
  by_cases hi : i ∈ vs
  · rw [if_pos hi, if_pos hi, hl]
  · rw [if_neg hi, if_neg hi]
    have := h i (by simpa using hi)
    rw [this, wipe_get, if_neg hi]
def lcRun (asg : List M → D → Option (List M)) (tt : List M → Option Bool) (el : List M → Option D) (Γ : List M) : List D → Option (List D)
  | [] => some []
  | d :: ds => (asg Γ d).bind fun Γ1 => (tt Γ1).bind fun b => if b = true then (el Γ1).bind fun y => (lcRun asg tt el Γ ds).map fun r => y :: r else lcRun asg tt el Γ ds
theorem lcRun_len {asg : List M → D → Option (List M)} {tt : List M → Option Bool} {el : List M → Option D} {Γ : List M} : ∀ {ds r : List D}, lcRun asg tt el Γ ds = some r → r.length ≤ ds.length
  | [], r, h => by simp [lcRun] at h; subst h; simp
  | d :: ds, r, h => by
    simp only [lcRun] at h
    obtain ⟨Γ1, _, h⟩ := Option.bind_eq_some_iff.mp h
    obtain ⟨b, _, h⟩ := Option.bind_eq_some_iff.mp h
    cases b with
    | true =>
      simp only [if_true] at h
      obtain ⟨y, _, h⟩ := Option.bind_eq_some_iff.mp h
      obtain ⟨r', h', rfl⟩ := Option.map_eq_some_iff.mp h
      have := lcRun_len h'
      simp only [List.length_cons]; omega
    | false =>
      have h2 : lcRun asg tt el Γ ds = some r := by simpa using h
      have := lcRun_len h2
      simp only [List.length_cons]; omega
def yTst : Tt K tYes where
  ev := fun _ => some true
  ok := fun {Γ b σ Hb H F Q} e w k => by
    cases e
    exact k Hb H (Evl.Ex.refl _) (Evl.Ex.refl _) w.ex NB.refl
/-- [el for target in source if test] -/
def oLc (vs : List Nat) (s : Src K wi) (q : Gt K (fun i => !vs.contains i) g) (c : Tt K t) (p : Pb K te) : Po K (tLc wi g t te vs) where
  ev := fun Γ => (s.ev Γ).bind fun ds => if lineD ds.length then (lcRun q.asg c.ev p.ev (wipeG Γ vs) ds).map fun r => .nd .lst (r.map M.im) else none
  ok := fun {Γ m σ Hb H F Q} e w k => by
    obtain ⟨ds, e1, e⟩ := Option.bind_eq_some_iff.mp e
    split at e
    · rename_i hline
      obtain ⟨res, e2, rfl⟩ := Option.map_eq_some_iff.mp e
      refine s.ok e1 w fun J Hb1 H1 x1 x2 x3 x4 wk => fun L hL => ?_
      have w1 := w.pure x1 x2 x3 x4
      obtain ⟨F2, w2, sub2⟩ := w1.wipe vs
      have bL : Hb1 L = none := none_of_ex x3 hL
      have dl : ds.length ≤ 100000 := of_decide_eq_true hline
      refine ⟨fun i m H' => m = ds.length - i ∧ i ≤ ds.length ∧ ∃ Hb' acc done rest, Ex Hb1 Hb' ∧ Ex H1 H' ∧ Ex Hb' H' ∧ NB Hb1 Hb' H1 ∧ Hb' L = none ∧ H' L = some (.lst acc) ∧ reps K Hb' done acc ∧ done.length ≤ i ∧ lcRun q.asg c.ev p.ev (wipeG Γ vs) (ds.drop i) = some rest ∧ done ++ rest = res,
        ⟨ds.length, by simp, Nat.zero_le _, Hb1, [], [], res, Evl.Ex.refl _, Evl.Ex.new hL, Evl.Ex.trans x3 (Evl.Ex.new hL), NB.refl, bL, upd_same, rfl, Nat.le_refl _, by simpa using e2, by simp⟩, ?_⟩
      rintro i m H' ⟨rfl, hi, Hb', acc, done, rest, z1, z2, z3, z4, z5, z6, z7, z8, z9, z10⟩
      by_cases hlt : i < ds.length
      · obtain ⟨go, yl⟩ := wk.1 i Hb' H' z1 z3 hlt
        refine .inr ⟨go, fun H'' => i + 1 ≤ ds.length ∧ ∃ Hb' acc done rest, Ex Hb1 Hb' ∧ Ex H1 H'' ∧ Ex Hb' H'' ∧ NB Hb1 Hb' H1 ∧ Hb' L = none ∧ H'' L = some (.lst acc) ∧ reps K Hb' done acc ∧ done.length ≤ i + 1 ∧ lcRun q.asg c.ev p.ev (wipeG Γ vs) (ds.drop (i + 1)) = some rest ∧ done ++ rest = res,
          fun H'' n => ⟨ds.length - (i + 1), by omega, rfl, n⟩, fun x H4 hy => ?_⟩
        obtain ⟨Hb4, d, y1, y2, y3, y4, hd, r⟩ := yl x H4 hy
        have ed : ds.drop i = d :: ds.drop (i + 1) := by
          rw [List.drop_eq_getElem_cons hlt]
          rw [List.getElem?_eq_getElem hlt] at hd
          cases hd; rfl
        rw [ed] at z9
        simp only [lcRun] at z9
        obtain ⟨Γ1, r1, z9⟩ := Option.bind_eq_some_iff.mp z9
        obtain ⟨b, r2, z9⟩ := Option.bind_eq_some_iff.mp z9
        have nL : ∀ {Hb5 H5 : Hp}, NB Hb4 Hb5 H5 → H5 L ≠ none → Hb4 L = none → Hb5 L = none := fun {Hb5 H5} n h1 h2 => by
          cases e : Hb5 L with
          | none => rfl
          | some o =>
            rcases n L (by rw [e]; simp) with z | z
            · exact absurd h2 z
            · exact absurd z h1
        have bL4 : Hb4 L = none := by
          cases e : Hb4 L with
          | none => rfl
          | some o =>
            rcases y4 L (by rw [e]; simp) with z | z
            · exact absurd z5 z
            · rw [z6] at z; cases z
        have w4 : WF K (wipeG Γ vs) (L2.wipe σ vs) Hb4 H4 F2 := w2.pure (Evl.Ex.trans z1 y1) (Evl.Ex.trans z2 y2) y3 (z4.trans y4 z2)
        refine q.ok r1 w4 r fun σ5 F5 w5 sub5 p5 => ⟨wipe_same (by have h1 := w5.own.len; rw [h1, q.len r1, wipeG_len, w.own.len]) p5, ?_⟩
        refine c.ok r2 w5 fun Hb6 H6 u1 u2 u3 u4 => ?_
        have h6L : H6 L = some (.lst acc) := u2 L _ (y2 L _ z6)
        have bL6 : Hb6 L = none := nL u4 (by rw [y2 L _ z6]; simp) bL4
        have w6 := w5.pure u1 u2 u3 u4
        have zz1 : Ex Hb1 Hb6 := Evl.Ex.trans (Evl.Ex.trans z1 y1) u1
        have zz2 : Ex H1 H6 := Evl.Ex.trans (Evl.Ex.trans z2 y2) u2
        have zz4 : NB Hb1 Hb6 H1 := (z4.trans y4 z2).trans u4 (Evl.Ex.trans z2 y2)
        cases b with
        | true =>
          simp only [if_true] at z9 ⊢
          obtain ⟨y, r3, z9⟩ := Option.bind_eq_some_iff.mp z9
          obtain ⟨rest', r4, rfl⟩ := Option.map_eq_some_iff.mp z9
          refine p.ok r3 w6 fun v Hb7 H7 t1 t2 t3 t4 rv => ?_
          have bL7 : Hb7 L = none := by
            cases e : Hb7 L with
            | none => rfl
            | some o =>
              rcases t4 L (by rw [e]; simp) with z | z
              · exact absurd bL6 z
              · rw [h6L] at z; cases z
          refine ⟨acc, t2 L _ h6L, ?_, hlt, Hb7, acc ++ [v], done ++ [y], rest', Evl.Ex.trans zz1 t1, Evl.Ex.mut (Evl.Ex.trans zz2 t2) hL, Evl.Ex.mut t3 bL7, zz4.trans t4 zz2, bL7, upd_same, reps_append (reps_mono (Evl.Ex.trans (Evl.Ex.trans y1 u1) t1) z7) ⟨v, [], rfl, rv, rfl⟩, by simp only [List.length_append, List.length_cons, List.length_nil]; omega, r4, by rw [List.append_assoc]; exact z10⟩
          rw [reps_len z7]
          exact Nat.lt_of_lt_of_le (Nat.lt_succ_self _) (Evl.sz_of (by omega))
        | false =>
          have z9' : lcRun q.asg c.ev p.ev (wipeG Γ vs) (ds.drop (i + 1)) = some rest := by simpa using z9
          show i + 1 ≤ ds.length ∧ _
          exact ⟨hlt, Hb6, acc, done, rest, zz1, zz2, u3, zz4, bL6, h6L, reps_mono (Evl.Ex.trans y1 u1) z7, by omega, z9', z10⟩
      · have ei : i = ds.length := by omega
        subst ei
        rw [List.drop_length] at z9
        simp only [lcRun, Option.some.injEq] at z9
        subst z9
        rw [List.append_nil] at z10
        subst z10
        refine .inl ⟨wk.2 Hb' H' z1 z3, k (.ref L) Hb' H' [L] (Evl.Ex.trans x1 z1) (Evl.Ex.trans x2 z2) z3 (x4.trans z4 x2) ⟨L, 0, acc, [], rfl, z6, True.intro, own_ims z7, rfl⟩ (by simp) fun a ha => ?_⟩
        rw [List.mem_singleton.mp ha]
        exact ⟨z5, none_of_ex x2 hL⟩
    · cases e
end
end KS

namespace KS
open PySem L2

/-! ### pure defs -/
/-- called with values that are the data ds in a fixed part, it hands back G ds; nothing else changes -/
def spP (K : PySem.W.Frag) (G : List D → Option M) : Sp := fun vs H Q _ => ∃ (Hb : Hp) (ds : List D) (m : M), Ex Hb H ∧ reps K Hb ds vs ∧ G ds = some m ∧
  ∀ v Hb2 H2 Fr, Ex Hb Hb2 → Ex H H2 → Ex Hb2 H2 → NB Hb Hb2 H → Own K Hb2 H2 m v Fr → Fr.Nodup → (∀ a ∈ Fr, Hb2 a = none ∧ H a = none) → Q v H2
def outM : Ct → Option M
  | .nx _ => some (.im .non)
  | .rt m _ => some m
  | _ => none
def startG (n : Nat) (ds : List D) : List M := ds.map M.im ++ List.replicate (n - ds.length) .emp
def pn0 : Nat → Bool := fun _ => false
def runP (n : Nat) (ev : List M → Option Ct) (ds : List D) : Option M := (ev (startG n ds)).bind outM
theorem ownS_emp {K : PySem.W.Frag} {Hb H : Hp} : ∀ (n : Nat), OwnS K Hb H (List.replicate n .emp) (List.replicate n none) []
  | 0 => ⟨rfl, rfl⟩
  | n + 1 => ⟨none, List.replicate n none, [], [], rfl, rfl, ownS_emp n, rfl⟩
theorem ownS_start {K : PySem.W.Frag} {Hb H : Hp} (n : Nat) : ∀ {ds : List D} {vs : List V}, reps K Hb ds vs → OwnS K Hb H (ds.map M.im ++ List.replicate n .emp) (vs.map some ++ List.replicate n none) []
  | [], _, h => by
    rw [show _ = [] from h]
    exact ownS_emp n
  | d :: ds, _, h => by
    obtain ⟨x, r, rfl, h1, h2⟩ := h
    exact ⟨some x, _, [], [], rfl, ⟨x, rfl, h1, rfl⟩, ownS_start n h2, rfl⟩
theorem wf_start {K : PySem.W.Frag} {Hb H : Hp} {N : List Str} {ds : List D} {vs : List V} (e : Ex Hb H) (h : reps K Hb ds vs) : WF K (startG N.length ds) (L2.start N vs) Hb H [] := by
  refine ⟨e, ?_, List.nodup_nil, fun a ha => by cases ha⟩
  unfold startG L2.start
  rw [reps_len h]
  exact ownS_start _ h
/-- the reading of a pure def's body -/
theorem pure_body {K : PySem.W.Frag} {t : TS} {N : List Str} {vs : List V} {H : Hp} {Q : VK} {E : XK} (b : Sx K pn0 t) (h : spP K (runP N.length b.ev) vs H Q E) : t { nx := fun _ H' => Q .non H', rt := Q } (L2.start N vs) H := by
  obtain ⟨Hb, ds, m, e, r, run, k⟩ := h
  obtain ⟨c, e1, e2⟩ := Option.bind_eq_some_iff.mp run
  refine b.ok e1 (wf_start e r) ?_
  cases c with
  | nx Γ2 =>
    cases e2
    exact fun σ2 Hb2 H2 F2 w s _ => k .non Hb2 H2 [] s.eb (fun a o h => s.fr a o h (by simp)) w.ex (fun a ha => (s.nb a ha).elim .inl fun z => .inr (z.elim (fun z => by cases z) id)) ⟨rfl, rfl⟩ List.nodup_nil (fun a ha => by cases ha)
  | rt m2 Γ2 =>
    cases e2
    exact fun v σ2 Hb2 H2 F2 Fr w s _ o nd fr => k v Hb2 H2 Fr s.eb (fun a o h => s.fr a o h (by simp)) w.ex (fun a ha => (s.nb a ha).elim .inl fun z => .inr (z.elim (fun z => by cases z) id)) o (List.nodup_append.mp nd).2.1
      (fun a ha => ⟨fr a ha, (s.fp a (List.mem_append_right _ ha)).elim (fun z => by cases z) id⟩)
  | bk Γ2 => cases e2
  | ct Γ2 => cases e2
theorem spP_len {K : PySem.W.Frag} {G : List D → Option M} {n : Nat} (hG : ∀ ds m, G ds = some m → ds.length = n) : ∀ vs H Q E, spP K G vs H Q E → vs.length = n := fun vs H Q E h => by
  obtain ⟨Hb, ds, m, e, r, run, k⟩ := h
  rw [reps_len r, hG ds m run]
/-- a promise by a plain function, shown of the body -/
theorem spP_imp {K : PySem.W.Frag} {G G' : List D → Option M} (h : ∀ ds m, G' ds = some m → G ds = some m) : ∀ vs H Q E, spP K G' vs H Q E → spP K G vs H Q E := fun vs H Q E ⟨Hb, ds, m, e, r, run, k⟩ => ⟨Hb, ds, m, e, r, h ds m run, k⟩

/-- np parameters, n names -/
def runF (np n : Nat) (ev : List M → Option Ct) (ds : List D) : Option M := if ds.length = np then runP n ev ds else none
theorem runF_len {np n : Nat} {ev : List M → Option Ct} : ∀ ds m, runF np n ev ds = some m → ds.length = np := fun ds m h => by
  unfold runF at h
  split at h
  · assumption
  · cases h
theorem pure_bodyF {K : PySem.W.Frag} {t : TS} {N : List Str} {vs : List V} {H : Hp} {Q : VK} {E : XK} {np n : Nat} (b : Sx K pn0 t) (h : spP K (runF np n b.ev) vs H Q E) (hn : N.length = n := by rfl) : t { nx := fun _ H' => Q .non H', rt := Q } (L2.start N vs) H := by
  subst hn
  refine pure_body (E := E) b (spP_imp (fun ds m hm => ?_) vs H Q E h)
  unfold runF at hm
  split at hm
  · exact hm
  · cases hm
section
variable {K : PySem.W.Frag} {pn : Nat → Bool} {ta tb tc te : TE} {tr : TA} {t u : TT} {ts ts' tS : TS} {g : TG} {gs : TGs} {wi : TI}
/-- defaults that fill up -/
structure Dfl where
  ds : List D
  vs : List V
  ok : ∀ (K : PySem.W.Frag) (H : Hp), reps K H ds vs
def noDfl : Dfl := ⟨[], [], fun _ _ => rfl⟩
/-- f(a, b, ..), f pure -/
def oCall (G : List D → Option M) (f : Dfl) (a : Ab K tr) : Po K (tCall (spP K G) f.vs E0 tr) where
  ev := fun Γ => (a.ev Γ).bind fun ds => G (ds ++ f.ds)
  ok := fun {Γ m σ Hb H F Q} e w k => by
    obtain ⟨ds, e1, e⟩ := Option.bind_eq_some_iff.mp e
    refine a.ok e1 w fun vs Hb2 H2 x1 x2 x3 x4 r => ⟨Hb2, ds ++ f.ds, m, x3, reps_append r (f.ok K Hb2), e, fun v Hb3 H3 Fr y1 y2 y3 y4 o nd fr => ?_⟩
    exact k v Hb3 H3 Fr (Evl.Ex.trans x1 y1) (Evl.Ex.trans x2 y2) y3 (x4.trans y4 x2) o nd fun a ha => ⟨(fr a ha).1, none_of_ex x2 (fr a ha).2⟩
/-- .. with arguments that the heap alone tells -/
def hCall (G : List D → Option M) (f : Dfl) (a : Ah K tr) : Ph K (tCall (spP K G) f.vs E0 tr) where
  ev := fun Γ => (a.ev Γ).bind fun ds => (G (ds ++ f.ds)).bind M.fz
  ok := fun {Γ d σ Hb H F Q} e w k => by
    obtain ⟨ds, e1, e⟩ := Option.bind_eq_some_iff.mp e
    obtain ⟨m, e2, e3⟩ := Option.bind_eq_some_iff.mp e
    refine a.ok e1 w fun vs Hb2 H2 x1 x2 x3 x4 r => ⟨H2, ds ++ f.ds, m, Evl.Ex.refl _, reps_append r (f.ok K H2), e2, fun v Hb3 H3 Fr y1 y2 y3 y4 o nd fr => ?_⟩
    exact k v Hb2 H3 x1 (Evl.Ex.trans x2 y2) (Evl.Ex.trans x3 y2) x4 (Own.fz y3 o e3 fun a _ o h => h)
/-- a result that is fixed -/
def bCall (G : List D → Option M) (f : Dfl) (a : Ab K tr) : Pb K (tCall (spP K G) f.vs E0 tr) := (oCall G f a).b

/-! ### built-ins -/
def oLen : OpC K (fun xs H Q => ∃ p ys, xs = [.ref p] ∧ (SqL K H p ys ∨ SqT K H p ys) ∧ Q (.int ys.length) H) where
  g := fun ds => match ds with | [d] => d.asS.map fun l => .int (l.length : Int) | _ => none
  ok := fun {H xs ds z} e r => by
    split at e
    · obtain ⟨l, e1, rfl⟩ := Option.map_eq_some_iff.mp e
      obtain ⟨x, xs, rfl, h1, h2⟩ := r
      obtain rfl : xs = [] := h2
      obtain ⟨a, ys, rfl, h3, h4⟩ := rep_asS e1 h1
      exact ⟨_, rfl, fun Q q => ⟨a, ys, rfl, h3, by rw [reps_len h4]; exact q⟩⟩
    · cases e
def oLenS : OpC K (fun xs H Q => ∃ z, xs = [.str z] ∧ z.length ≤ sizeLine ∧ Q (.int z.length) H) where
  g := fun ds => match ds with | [.str s] => if lineD s.length then some (.int (s.length : Int)) else none | _ => none
  ok := fun {H xs ds z} e r => by
    split at e
    · split at e
      · rename_i hl
        cases e
        obtain ⟨x, xs, rfl, h1, h2⟩ := r
        obtain rfl : xs = [] := h2
        exact ⟨_, rfl, fun Q q => ⟨_, by rw [show x = _ from h1], lineD_ok hl, q⟩⟩
      · cases e
    · cases e
def oStrI : OpC K (fun xs H Q => ∃ i, xs = [.int i] ∧ i.natAbs.log2 < 1920 ∧ Q (.str (toString i)) H) where
  g := fun ds => match ds with | [.int i] => if i.natAbs.log2 < 1920 then some (.str (toString i)) else none | _ => none
  ok := fun {H xs ds z} e r => by
    split at e
    · split at e
      · rename_i hl
        cases e
        obtain ⟨x, xs, rfl, h1, h2⟩ := r
        obtain rfl : xs = [] := h2
        exact ⟨_, rfl, fun Q q => ⟨_, by rw [show x = _ from h1], hl, q⟩⟩
      · cases e
    · cases e
def oIntS : OpC K (fun xs H Q => ∃ a n, xs = [.str a] ∧ PySem.intText? a = some n ∧ a.length ≤ 640 ∧ Q (.int n) H) where
  g := fun ds => match ds with | [.str s] => if s.length ≤ 640 then (PySem.intText? s).map D.int else none | _ => none
  ok := fun {H xs ds z} e r => by
    split at e
    · split at e
      · rename_i hl
        obtain ⟨n, e1, rfl⟩ := Option.map_eq_some_iff.mp e
        obtain ⟨x, xs, rfl, h1, h2⟩ := r
        obtain rfl : xs = [] := h2
        exact ⟨_, rfl, fun Q q => ⟨_, n, by rw [show x = _ from h1], e1, hl, q⟩⟩
      · cases e
    · cases e
def oInt1 : OpC K (fun xs H Q => (∃ i, xs = [.int i] ∧ Q (.int i) H) ∨ ∃ k, xs = [.bl k] ∧ Q (.int (if k then 1 else 0)) H) where
  g := fun ds => match ds with | [.int i] => some (.int i) | [.bl b] => some (.int (if b then 1 else 0)) | _ => none
  ok := fun {H xs ds z} e r => by
    split at e
    · cases e
      obtain ⟨x, xs, rfl, h1, h2⟩ := r
      obtain rfl : xs = [] := h2
      exact ⟨_, rfl, fun Q q => .inl ⟨_, by rw [show x = _ from h1], q⟩⟩
    · cases e
      obtain ⟨x, xs, rfl, h1, h2⟩ := r
      obtain rfl : xs = [] := h2
      exact ⟨_, rfl, fun Q q => .inr ⟨_, by rw [show x = _ from h1], q⟩⟩
    · cases e
def oMin2 : OpC K (fun xs H Q => ∃ i j, xs = [.int i, .int j] ∧ Q (.int (if j < i then j else i)) H) where
  g := fun ds => match ds with | [.int i, .int j] => some (.int (if j < i then j else i)) | _ => none
  ok := fun {H xs ds z} e r => by
    split at e
    · cases e
      obtain ⟨x, xs, rfl, h1, y, ys, rfl, h2, h3⟩ := r
      obtain rfl : ys = [] := h3
      exact ⟨_, rfl, fun Q q => ⟨_, _, by rw [show x = _ from h1, show y = _ from h2], q⟩⟩
    · cases e
def oMax2 : OpC K (fun xs H Q => ∃ i j, xs = [.int i, .int j] ∧ Q (.int (if j > i then j else i)) H) where
  g := fun ds => match ds with | [.int i, .int j] => some (.int (if j > i then j else i)) | _ => none
  ok := fun {H xs ds z} e r => by
    split at e
    · cases e
      obtain ⟨x, xs, rfl, h1, y, ys, rfl, h2, h3⟩ := r
      obtain rfl : ys = [] := h3
      exact ⟨_, rfl, fun Q q => ⟨_, _, by rw [show x = _ from h1, show y = _ from h2], q⟩⟩
    · cases e
/-- isinstance with a built-in class -/
def D.tyn : D → Option String
  | .non => some "NoneType"
  | .bl _ => some "bool"
  | .int _ => some "int"
  | .str _ => some "str"
  | .tup _ => some "tuple"
  | .lst _ => some "list"
  | .scr _ => some "list"
  | _ => none
theorem tyn_ty {H : Hp} : ∀ {d : D} {v : V} {n : String}, d.tyn = some n → rep K H d v → TyX K H v (.type n)
  | .non, _, _, e, h => by cases e; rw [show _ = V.non from h]; exact .base .non
  | .bl b, _, _, e, h => by cases e; rw [show _ = V.bl b from h]; exact .base (.bl b)
  | .int i, _, _, e, h => by cases e; rw [show _ = V.int i from h]; exact .base (.int i)
  | .str i, _, _, e, h => by cases e; rw [show _ = V.str i from h]; exact .base (.str i)
  | .tup l, _, _, e, h => by
    cases e
    obtain ⟨a, xs, rfl, h1, _⟩ := h
    rcases h1 with (h1 | ⟨o, h1⟩) | ⟨o, its, n, h1, h2, _⟩
    · exact .base (.tup h1)
    · exact .fTuple h1
    · exact .kTuple h1 h2
  | .lst l, _, _, e, h => by
    cases e
    obtain ⟨a, xs, rfl, h1, _⟩ := h
    exact .base (.lst h1)
  | .scr l, _, _, e, h => by
    cases e
    obtain ⟨a, xs, rfl, h1, _⟩ := h
    rcases h1 with (h1 | ⟨o, h1⟩) | ⟨o, its, n, h1, h2, _⟩
    · exact .base (.lst h1)
    · exact .base (.frz h1)
    · exact .kList h1 h2
def oIsi : OpC K (rIsi K) where
  g := fun ds => match ds with | [d, .ty n] => (d.tyn).bind fun t => (kitB t n).map D.bl | _ => none
  ok := fun {H xs ds z} e r => by
    split at e
    · obtain ⟨t, e1, e⟩ := Option.bind_eq_some_iff.mp e
      obtain ⟨b, e2, rfl⟩ := Option.map_eq_some_iff.mp e
      obtain ⟨x, xs, rfl, h1, y, ys, rfl, h2, h3⟩ := r
      obtain rfl : ys = [] := h3
      exact ⟨_, rfl, fun Q q => ⟨x, _, .type t, _, b, by rw [show y = _ from h2], .ty _, tyn_ty e1 h1, kit_ty e2, q⟩⟩
    · cases e
theorem kit_ii : kitB "int" "int" = some true := by decide +kernel
theorem kit_ib : kitB "int" "bool" = some false := by decide +kernel
theorem kit_bi : kitB "bool" "int" = some true := by decide +kernel
theorem kit_bb : kitB "bool" "bool" = some true := by decide +kernel
theorem kit_ll : kitB "list" "list" = some true := by decide +kernel
theorem kit_tt : kitB "tuple" "tuple" = some true := by decide +kernel
theorem kit_ss : kitB "str" "str" = some true := by decide +kernel

theorem sh_i (i : Int) : SeqAt.shaped (.int i) = true := rfl
theorem sh_b (i : Bool) : SeqAt.shaped (.bool i) = true := rfl
theorem ev_ii (i j : Int) : PyData.eqv (.int i) (.int j) = (i == j) := rfl
theorem ev_ss (i j : Str) : PyData.eqv (.str i) (.str j) = (i == j) := rfl
theorem ev_bb (i j : Bool) : PyData.eqv (.bool i) (.bool j) = (i == j) := rfl
/-- == of scalars -/
def eqS : D → D → Option Bool
  | .non, .non => some true
  | .int i, .int j => some (i == j)
  | .bl i, .bl j => some (i == j)
  | .str i, .str j => some (i == j)
  | .non, .int _ => some false | .int _, .non => some false | .non, .bl _ => some false | .bl _, .non => some false | .non, .str _ => some false | .str _, .non => some false
  | .int _, .str _ => some false | .str _, .int _ => some false | .bl _, .str _ => some false | .str _, .bl _ => some false
  | _, _ => none
theorem eqS_ok {H : Hp} : ∀ {a b : D} {c : Bool} {x y : V}, eqS a b = some c → rep K H a x → rep K H b y → scal x y = true ∧ decide (x = y) = c := by
  intro a b c x y e ra rb
  unfold eqS at e
  split at e
  all_goals first
    | (cases e; done)
    | (cases e
       first
         | (rw [show x = _ from ra, show y = _ from rb]
            refine ⟨rfl, ?_⟩
            first
              | exact dec_int
              | exact dec_bl
              | exact dec_str
              | simp))
def oEqS : Op2 K rEq where
  g := fun a b => (eqS a b).map .bl
  ok := fun {H x y a b z} e ra rb => by
    obtain ⟨c, e1, rfl⟩ := Option.map_eq_some_iff.mp e
    obtain ⟨h1, h2⟩ := eqS_ok e1 ra rb
    exact ⟨_, rfl, fun Q q => ⟨h1, by rw [h2]; exact q⟩⟩
def oNeS : Op2 K rNe where
  g := fun a b => (eqS a b).map fun c => .bl (!c)
  ok := fun {H x y a b z} e ra rb => by
    obtain ⟨c, e1, rfl⟩ := Option.map_eq_some_iff.mp e
    obtain ⟨h1, h2⟩ := eqS_ok e1 ra rb
    exact ⟨_, rfl, fun Q q => ⟨h1, by rw [h2]; exact q⟩⟩
/-! ### new lists -/
theorem own_lst {Hb H2 : Hp} {p : Addr} {ds : List D} {vs : List V} (hp : H2 p = none) (hr : reps K Hb ds vs) : Own K Hb (upd H2 p (.lst vs)) (.nd .lst (ds.map M.im)) (.ref p) [p] := own_new (sh := .lst) (dx := 0) hp True.intro hr
/-- a built-in that hands back a new list -/
structure OpL (K : PySem.W.Frag) (r : List V → Hp → VK → Prop) where
  g : List D → Option (List D)
  ok : ∀ {Hb H : Hp} {xs : List V} {ds es : List D}, g ds = some es → Ex Hb H → reps K Hb ds xs → ∃ vs, reps K Hb es vs ∧ ∀ Q : VK, (∀ p, H p = none → Q (.ref p) (upd H p (.lst vs))) → r xs H Q
def oCBL {rc : List V → Hp → VK → Prop} (o : OpL K rc) (a : Ab K tr) : Po K (tCB rc tr) where
  ev := fun Γ => (a.ev Γ).bind fun ds => (o.g ds).map fun es => .nd .lst (es.map M.im)
  ok := fun {Γ m σ Hb H F Q} e w k => by
    obtain ⟨ds, e1, e⟩ := Option.bind_eq_some_iff.mp e
    obtain ⟨es, e2, rfl⟩ := Option.map_eq_some_iff.mp e
    refine a.ok e1 w fun vs Hb2 H2 x1 x2 x3 x4 r => ?_
    obtain ⟨ws, h1, h2⟩ := o.ok e2 x3 r
    refine h2 Q fun p hp => ?_
    have ex : Ex H2 (upd H2 p (.lst ws)) := Evl.Ex.new hp
    refine k (.ref p) Hb2 _ [p] x1 (Evl.Ex.trans x2 ex) (Evl.Ex.trans x3 ex) x4 (own_lst hp h1) (by simp) fun a ha => ?_
    rw [List.mem_singleton.mp ha]
    exact ⟨none_of_ex x3 hp, none_of_ex x2 hp⟩
def oList : OpL K (fun xs H Q => ∃ p ys, xs = [.ref p] ∧ (SqL K H p ys ∨ SqT K H p ys) ∧ ∀ l, H l = none → Q (.ref l) (upd H l (.lst ys))) where
  g := fun ds => match ds with | [d] => d.asS | _ => none
  ok := fun {Hb H xs ds es} e ex r => by
    split at e
    · obtain ⟨x, xs, rfl, h1, h2⟩ := r
      obtain rfl : xs = [] := h2
      obtain ⟨a, ys, rfl, h3, h4⟩ := rep_asS e h1
      exact ⟨ys, h4, fun Q q => ⟨a, ys, rfl, h3.elim (fun z => .inl (Evl.ex_l ex z)) (fun z => .inr (Evl.ex_t ex z)), q⟩⟩
    · cases e
/-- a two-place operator that hands back a new list -/
structure OpL2 (K : PySem.W.Frag) (r : R2) where
  g : D → D → Option (List D)
  ok : ∀ {Hb H : Hp} {x y : V} {a b : D} {es : List D}, g a b = some es → Ex Hb H → rep K Hb a x → rep K Hb b y → ∃ vs, reps K Hb es vs ∧ ∀ Q : VK, (∀ p, H p = none → Q (.ref p) (upd H p (.lst vs))) → r x y H Q
def o2L {r : R2} (o : OpL2 K r) (a : Pb K ta) (b : Pb K tb) : Po K (tOp r ta tb) where
  ev := fun Γ => (a.ev Γ).bind fun x => (b.ev Γ).bind fun y => (o.g x y).map fun es => .nd .lst (es.map M.im)
  ok := fun {Γ m σ Hb H F Q} e w k => by
    obtain ⟨x, e1, e⟩ := Option.bind_eq_some_iff.mp e
    obtain ⟨y, e2, e⟩ := Option.bind_eq_some_iff.mp e
    obtain ⟨es, e3, rfl⟩ := Option.map_eq_some_iff.mp e
    refine a.ok e1 w fun v1 Hb1 H1 x1 x2 x3 x4 r1 => ?_
    refine b.ok e2 (w.pure x1 x2 x3 x4) fun v2 Hb2 H2 y1 y2 y3 y4 r2 => ?_
    obtain ⟨ws, h1, h2⟩ := o.ok e3 y3 (rep_mono y1 r1) r2
    refine h2 Q fun p hp => ?_
    have ex : Ex H2 (upd H2 p (.lst ws)) := Evl.Ex.new hp
    have x2' := Evl.Ex.trans x2 y2
    refine k (.ref p) Hb2 _ [p] (Evl.Ex.trans x1 y1) (Evl.Ex.trans x2' ex) (Evl.Ex.trans y3 ex) (x4.trans y4 x2) (own_lst hp h1) (by simp) fun a ha => ?_
    rw [List.mem_singleton.mp ha]
    exact ⟨none_of_ex y3 hp, none_of_ex x2' hp⟩
def oCat : OpL2 K rCat where
  g := fun a b => match a, b with | .lst l, .lst l' => if lineD (l.length + l'.length) then some (l ++ l') else none | _, _ => none
  ok := fun {Hb H x y a b es} e ex ra rb => by
    split at e
    · split at e
      · rename_i hl
        cases e
        obtain ⟨p, xs, rfl, h1, h2⟩ := ra
        obtain ⟨q, ys, rfl, h3, h4⟩ := rb
        exact ⟨xs ++ ys, reps_append h2 h4, fun Q k => ⟨p, q, xs, ys, rfl, rfl, ex _ _ h1, ex _ _ h3, by rw [reps_len h2, reps_len h4]; exact lineD_ok hl, k⟩⟩
      · cases e
    · cases e
/-- parts of a slice -/
structure Op0 (K : PySem.W.Frag) (t : TO) where
  ev : List M → Option (Option Int)
  ok : ∀ {Γ : List M} {o : Option Int} {σ : St} {Hb H : Hp} {F : List Addr} {Q : Option Int → Hp → Prop}, ev Γ = some o → WF K Γ σ Hb H F →
    (∀ Hb2 H2, Ex Hb Hb2 → Ex H H2 → Ex Hb2 H2 → NB Hb Hb2 H → Q o H2) → t σ H Q
def noPart : Op0 K tNoPart where
  ev := fun _ => some none
  ok := fun {Γ o σ Hb H F Q} e w k => by
    cases e
    exact k Hb H (Evl.Ex.refl _) (Evl.Ex.refl _) w.ex NB.refl
def aPart (a : Ph K ta) : Op0 K (tPart ta) where
  ev := fun Γ => (a.ev Γ).bind fun d => match d with | .int i => some (some i) | _ => none
  ok := fun {Γ o σ Hb H F Q} e w k => by
    obtain ⟨d, e1, e⟩ := Option.bind_eq_some_iff.mp e
    split at e
    · cases e
      exact a.ok e1 w fun v Hb2 H2 x1 x2 x3 x4 r => ⟨_, r, k Hb2 H2 x1 x2 x3 x4⟩
    · cases e
def cutD (xs : List D) (lo hi : Option Int) : List D := (xs.drop (HT.sIx xs.length 0 lo)).take (HT.sIx xs.length xs.length hi - HT.sIx xs.length 0 lo)
theorem cut_reps {H : Hp} {ds : List D} {xs : List V} {lo hi : Option Int} (h : reps K H ds xs) : reps K H (cutD ds lo hi) (cutV xs lo hi) := by
  unfold cutD cutV
  rw [reps_len h]
  exact reps_take _ (reps_drop _ h)
def oSlL {tl th : TO} (a : Pb K ta) (l : Op0 K tl) (h : Op0 K th) : Po K (tSl (rSlL K) ta tl th) where
  ev := fun Γ => (a.ev Γ).bind fun x => (l.ev Γ).bind fun lo => (h.ev Γ).bind fun hi => (x.asL).map fun ds => .nd .lst ((cutD ds lo hi).map M.im)
  ok := fun {Γ m σ Hb H F Q} e w k => by
    obtain ⟨x, e1, e⟩ := Option.bind_eq_some_iff.mp e
    obtain ⟨lo, e2, e⟩ := Option.bind_eq_some_iff.mp e
    obtain ⟨hi, e3, e⟩ := Option.bind_eq_some_iff.mp e
    obtain ⟨ds, e4, rfl⟩ := Option.map_eq_some_iff.mp e
    refine a.ok e1 w fun v1 Hb1 H1 x1 x2 x3 x4 r1 => ?_
    have w1 := w.pure x1 x2 x3 x4
    refine l.ok e2 w1 fun Hb2 H2 y1 y2 y3 y4 => ?_
    have w2 := w1.pure y1 y2 y3 y4
    refine h.ok e3 w2 fun Hb3 H3 z1 z2 z3 z4 => ?_
    obtain ⟨p, xs, rfl, h1, h2⟩ := rep_asL e4 r1
    have b3 := Evl.Ex.trans y1 z1
    have q3 := Evl.Ex.trans (Evl.Ex.trans x2 y2) z2
    refine ⟨p, xs, rfl, Evl.ex_l (Evl.Ex.trans b3 z3) h1, fun q hq => ?_⟩
    have ex : Ex H3 (upd H3 q (.lst (cutV xs lo hi))) := Evl.Ex.new hq
    refine k (.ref q) Hb3 _ [q] (Evl.Ex.trans x1 b3) (Evl.Ex.trans q3 ex) (Evl.Ex.trans z3 ex) ((x4.trans y4 x2).trans z4 (Evl.Ex.trans x2 y2)) (own_lst hq (cut_reps (reps_mono b3 h2))) (by simp) fun a ha => ?_
    rw [List.mem_singleton.mp ha]
    exact ⟨none_of_ex z3 hq, none_of_ex q3 hq⟩
/-! ### a list or a tuple, walked -/
def iSeq (K : PySem.W.Frag) (tl : TE) : TI := fun σ H R => tl σ H fun x H1 => ∃ a, x = .ref a ∧ (((∃ xs, SqL K H1 a xs) ∧ R (Itl K a) H1) ∨ ((∃ xs, SqT K H1 a xs) ∧ R (Itt K a) H1))
theorem pi_seq {X : Cx} {tg l : Expr} {tl : TE} (hl : PE X l tl) : PI X tg l (iSeq X.K tl) := by
  refine ⟨fun pins s σ H R I h => ?_⟩
  refine thn (hl.run pins s σ H _ I h) fun v s1 ⟨x, H1, I1, r1, q1⟩ => ?_
  obtain ⟨a, e, q1⟩ := q1
  subst e
  cases r1
  rcases q1 with ⟨⟨xs, hq⟩, q⟩ | ⟨⟨xs, hq⟩, q⟩
  · obtain ⟨its, rv, p, hz⟩ := I1.list hq
    refine wpAny_pyIter_list p.isList ?_
    refine ⟨s1.heap.objs.size, [s1.heap.objs.size], _, _, H1, rfl, I1.kept (t' := s1.toks) fun b o e => Heap.get?_push_of_some _ e, turn_list a _, ⟨_, Heap.get?_push_size _ rfl, rfl, rfl⟩, fun b hb => ?_, q⟩
    have e : b = s1.heap.objs.size := by simpa using hb
    subst e
    exact I1.fpOk (Nat.le_refl _) (I1.hok.fresh (Nat.le_refl _))
  · obtain ⟨its, rv, p, hz⟩ := I1.tuple hq
    refine wpAny_pyIter_tuple (show s1.heap.IsTuple a its.toArray from p) ?_
    refine ⟨s1.heap.objs.size, [s1.heap.objs.size], _, _, H1, rfl, I1.kept (t' := s1.toks) fun b o e => Heap.get?_push_of_some _ e, turn_tuple a _, ⟨_, Heap.get?_push_size _ rfl, rfl, rfl⟩, fun b hb => ?_, q⟩
    have e : b = s1.heap.objs.size := by simpa using hb
    subst e
    exact I1.fpOk (Nat.le_refl _) (I1.hok.fresh (Nat.le_refl _))
theorem walks_l {Hb2 : Hp} {a : Addr} {xs : List V} {l : List D} (h1 : SqL K Hb2 a xs) (h2 : reps K Hb2 l xs) : Walks K (Itl K a) l Hb2 := by
  refine ⟨fun i Hb3 H3 y1 y2 hi => ?_, fun Hb3 H3 y1 y2 => ⟨xs, Evl.ex_l (Evl.Ex.trans y1 y2) h1, by rw [reps_len h2]; exact Nat.le_refl _⟩⟩
  have hl := reps_len h2
  refine ⟨⟨xs, xs[i]'(by omega), Evl.ex_l (Evl.Ex.trans y1 y2) h1, List.getElem?_eq_getElem _⟩, fun x H4 hy => ?_⟩
  obtain ⟨rfl, hx⟩ := hy
  obtain ⟨d', e2, e3⟩ := reps_get h2 (hx xs (Evl.ex_l (Evl.Ex.trans y1 y2) h1))
  exact ⟨Hb3, d', Evl.Ex.refl _, Evl.Ex.refl _, y2, NB.refl, e2, rep_mono y1 e3⟩
theorem walks_t {Hb2 : Hp} {a : Addr} {xs : List V} {l : List D} (h1 : SqT K Hb2 a xs) (h2 : reps K Hb2 l xs) : Walks K (Itt K a) l Hb2 := by
  refine ⟨fun i Hb3 H3 y1 y2 hi => ?_, fun Hb3 H3 y1 y2 => ⟨xs, Evl.ex_t (Evl.Ex.trans y1 y2) h1, by rw [reps_len h2]; exact Nat.le_refl _⟩⟩
  have hl := reps_len h2
  refine ⟨⟨xs, xs[i]'(by omega), Evl.ex_t (Evl.Ex.trans y1 y2) h1, List.getElem?_eq_getElem _⟩, fun x H4 hy => ?_⟩
  obtain ⟨rfl, hx⟩ := hy
  obtain ⟨d', e2, e3⟩ := reps_get h2 (hx xs (Evl.ex_t (Evl.Ex.trans y1 y2) h1))
  exact ⟨Hb3, d', Evl.Ex.refl _, Evl.Ex.refl _, y2, NB.refl, e2, rep_mono y1 e3⟩
def srcA (p : Pb K ta) : Src K (iSeq K ta) where
  ev := fun Γ => (p.ev Γ).bind D.asS
  ok := fun {Γ ds σ Hb H F R} e w k => by
    obtain ⟨d, e1, e⟩ := Option.bind_eq_some_iff.mp e
    refine p.ok e1 w fun v Hb2 H2 x1 x2 x3 x4 r => ?_
    obtain ⟨a, xs, rfl, h1, h2⟩ := rep_asS e r
    rcases h1 with h1 | h1
    · exact ⟨a, rfl, .inl ⟨⟨xs, Evl.ex_l x3 h1⟩, k _ Hb2 H2 x1 x2 x3 x4 (walks_l h1 h2)⟩⟩
    · exact ⟨a, rfl, .inr ⟨⟨xs, Evl.ex_t x3 h1⟩, k _ Hb2 H2 x1 x2 x3 x4 (walks_t h1 h2)⟩⟩
/-- tuple(x) -/
def bTupOf (a : Ab K tr) : Pb K (tCB (fun xs H Q => ∃ p ys, xs = [.ref p] ∧ ((SqL K H p ys ∧ ∀ l, H l = none → Q (.ref l) (upd H l (.tup ys))) ∨ (SqT K H p ys ∧ Q (.ref p) H))) tr) where
  ev := fun Γ => (a.ev Γ).bind fun ds => match ds with | [d] => d.asS.map D.tup | _ => none
  ok := fun {Γ m σ Hb H F Q} e w k => by
    obtain ⟨ds, e1, e⟩ := Option.bind_eq_some_iff.mp e
    refine a.ok e1 w fun vs Hb2 H2 x1 x2 x3 x4 r => ?_
    split at e
    · obtain ⟨l, e2, rfl⟩ := Option.map_eq_some_iff.mp e
      obtain ⟨x, xs, rfl, h1, h2⟩ := r
      obtain rfl : xs = [] := h2
      obtain ⟨q, ys, rfl, h3, h4⟩ := rep_asS e2 h1
      refine ⟨q, ys, rfl, ?_⟩
      rcases h3 with h3 | h3
      · refine .inl ⟨Evl.ex_l x3 h3, fun p hp => ?_⟩
        obtain ⟨z1, z2, z3, z4⟩ := ex_put (o := .tup ys) x3 hp
        exact k (.ref p) _ _ (Evl.Ex.trans x1 z1) (Evl.Ex.trans x2 z2) z3 (x4.trans z4 x2) ⟨p, ys, rfl, SqT.of upd_same, reps_mono z1 h4⟩
      · exact .inr ⟨Evl.ex_t x3 h3, k (.ref q) Hb2 H2 x1 x2 x3 x4 ⟨q, ys, rfl, h3, h4⟩⟩
    · cases e
end
end KS

namespace KS
open PySem L2
section
variable {K : PySem.W.Frag} {pn : Nat → Bool} {ta tb tc te : TE} {tr : TA} {t u : TT} {ts ts' tS : TS} {g : TG} {gs : TGs} {wi : TI} {r r' : R2} {Γ : List M}
/-! ### control -/
def seqC (o : Option Ct) (b : Sx K pn ts) : Option Ct := o.bind fun c => match c with | .nx Γ1 => b.ev Γ1 | c => some c
@[simp] theorem seqC_nx {b : Sx K pn ts} : seqC (some (.nx Γ)) b = b.ev Γ := rfl
@[simp] theorem seqC_rt {b : Sx K pn ts} {m : M} : seqC (some (.rt m Γ)) b = some (.rt m Γ) := rfl
@[simp] theorem seqC_bk {b : Sx K pn ts} : seqC (some (.bk Γ)) b = some (.bk Γ) := rfl
@[simp] theorem seqC_ct {b : Sx K pn ts} : seqC (some (.ct Γ)) b = some (.ct Γ) := rfl
@[simp] theorem sSeq_ev {a : Sx K pn ts} {b : Sx K pn ts'} : (sSeq a b).ev Γ = seqC (a.ev Γ) b := rfl
def ifC (o : Option Bool) (a : Sx K pn ts) (b : Sx K pn ts') (Γ : List M) : Option Ct := o.bind fun x => if x = true then a.ev Γ else b.ev Γ
@[simp] theorem ifC_t {a : Sx K pn ts} {b : Sx K pn ts'} : ifC (some true) a b Γ = a.ev Γ := rfl
@[simp] theorem ifC_f {a : Sx K pn ts} {b : Sx K pn ts'} : ifC (some false) a b Γ = b.ev Γ := rfl
@[simp] theorem sIf_ev {c : Tt K t} {a : Sx K pn ts} {b : Sx K pn ts'} : (sIf c a b).ev Γ = ifC (c.ev Γ) a b Γ := rfl
@[simp] theorem sNext_ev : (sNext (K := K) (pn := pn)).ev Γ = some (.nx Γ) := rfl
@[simp] theorem sBrk_ev : (sBrk (K := K) (pn := pn)).ev Γ = some (.bk Γ) := rfl
@[simp] theorem sCont_ev : (sCont (K := K) (pn := pn)).ev Γ = some (.ct Γ) := rfl
@[simp] theorem sRetN_ev : (sRetN (K := K) (pn := pn)).ev Γ = some (.rt (.im .non) Γ) := rfl
@[simp] theorem sAsg_ev {p : Pb K te} {q : Gt K pn g} : (sAsg p q).ev Γ = (p.ev Γ).bind fun d => (q.asg Γ d).map .nx := rfl
@[simp] theorem gN_asg {i : Nat} {d : D} : (gN (K := K) (pn := pn) i).asg Γ d = if i < Γ.length ∧ pn i = false then some (Γ.set i (.im d)) else none := rfl
@[simp] theorem gT_asg {n : Nat} {b : Gts K pn gs} {ds : List D} : (gT n b).asg Γ (.tup ds) = if ds.length = n then b.asg Γ ds else none := rfl
@[simp] theorem gsNil_asg : (gsNil (K := K) (pn := pn)).asg Γ [] = some Γ := rfl
@[simp] theorem gsCons_asg {gr : TGs} {a : Gt K pn g} {b : Gts K pn gr} {d : D} {ds : List D} : (gsCons a b).asg Γ (d :: ds) = (a.asg Γ d).bind fun Γ1 => b.asg Γ1 ds := rfl
@[simp] theorem pn0_eq {i : Nat} : pn0 i = false := rfl
@[simp] theorem sAsgO_ev {i : Nat} {p : Po K te} : (sAsgO (pn := pn) i p).ev Γ = (p.ev Γ).bind fun m => if i < Γ.length ∧ pn i = false then some (.nx (Γ.set i m)) else none := rfl
@[simp] theorem sDrop_ev {p : Ph K te} : (sDrop (pn := pn) p).ev Γ = (p.ev Γ).map fun _ => .nx Γ := rfl
@[simp] theorem sRet_ev {p : Pb K te} : (sRet (pn := pn) p).ev Γ = (p.ev Γ).map fun d => .rt (.im d) Γ := rfl
@[simp] theorem sRetO_ev {p : Po K te} : (sRetO (pn := pn) p).ev Γ = (p.ev Γ).map fun m => .rt m Γ := rfl
def ndC (i : Nat) (Γ : List M) : Option M → Option Ct
  | some (.nd sh cs) => some (.rt (.nd sh cs) (Γ.set i .emp))
  | _ => none
@[simp] theorem ndC_nd {i : Nat} {sh : Sh} {cs : List M} : ndC i Γ (some (.nd sh cs)) = some (.rt (.nd sh cs) (Γ.set i .emp)) := rfl
@[simp] theorem sRetV_ev {i : Nat} : (sRetV (K := K) (pn := pn) i).ev Γ = ndC i Γ Γ[i]? := by
  show (match Γ[i]? with | some (.nd sh cs) => _ | _ => none) = _
  unfold ndC
  split <;> rfl
def augC (i : Nat) (pn : Nat → Bool) (f : D → D → Option D) (y : Option D) (Γ : List M) : Option M → Option Ct
  | some (.im x) => y.bind fun y => (f x y).bind fun z => if i < Γ.length ∧ pn i = false then some (.nx (Γ.set i (.im z))) else none
  | _ => none
@[simp] theorem augC_im {i : Nat} {f : D → D → Option D} {x y : D} : augC i pn f (some y) Γ (some (.im x)) = (f x y).bind fun z => if i < Γ.length ∧ pn i = false then some (.nx (Γ.set i (.im z))) else none := rfl
@[simp] theorem sAug_ev {i : Nat} {o : Op2 K r} {p : Ph K te} : (sAug (pn := pn) i o p).ev Γ = augC i pn o.g (p.ev Γ) Γ Γ[i]? := by
  show (match Γ[i]? with | some (.im x) => _ | _ => none) = _
  unfold augC
  split <;> rfl
def appC (i : Nat) (d : Option D) (Γ : List M) : Option M → Option Ct
  | some (.nd .lst cs) => d.bind fun d => if lineD (cs.length + 1) then some (.nx (Γ.set i (.nd .lst (cs ++ [.im d])))) else none
  | _ => none
@[simp] theorem appC_l {i : Nat} {d : D} {cs : List M} : appC i (some d) Γ (some (.nd .lst cs)) = if lineD (cs.length + 1) then some (.nx (Γ.set i (.nd .lst (cs ++ [.im d])))) else none := rfl
@[simp] theorem sApp_ev {i : Nat} {p : Pb K te} : (sApp (pn := pn) i p).ev Γ = appC i (p.ev Γ) Γ Γ[i]? := by
  show (match Γ[i]? with | some (.nd .lst cs) => _ | _ => none) = _
  unfold appC
  split <;> rfl
def forC (o : Option (List D)) (q : Gt K pn g) (b : Sx K pn ts) (Γ : List M) : Option Ct := o.bind fun ds => forRun q.asg b.ev ds Γ
@[simp] theorem forC_s {q : Gt K pn g} {b : Sx K pn ts} {ds : List D} : forC (some ds) q b Γ = forRun q.asg b.ev ds Γ := rfl
@[simp] theorem sFor_ev {s : Src K wi} {q : Gt K pn g} {b : Sx K pn ts} : (sFor s q b).ev Γ = forC (s.ev Γ) q b Γ := rfl
theorem sWhile_ev {f : List M → Nat} {c : Tt K t} {b : Sx K pn ts} : (sWhile f c b).ev Γ = whileRun c.ev b.ev (f Γ) Γ := rfl
/-! ### loops -/
/-- behind a turn -/
def turnC (c : Option Ct) (k : List M → Option Ct) : Option Ct := c.bind fun c => match c with
    | .nx Γ2 => k Γ2
    | .ct Γ2 => k Γ2
    | .bk Γ2 => some (.nx Γ2)
    | .rt m Γ2 => some (.rt m Γ2)
@[simp] theorem turnC_nx {k : List M → Option Ct} : turnC (some (.nx Γ)) k = k Γ := rfl
@[simp] theorem turnC_ct {k : List M → Option Ct} : turnC (some (.ct Γ)) k = k Γ := rfl
@[simp] theorem turnC_bk {k : List M → Option Ct} : turnC (some (.bk Γ)) k = some (.nx Γ) := rfl
@[simp] theorem turnC_rt {m : M} {k : List M → Option Ct} : turnC (some (.rt m Γ)) k = some (.rt m Γ) := rfl
@[simp] theorem forRun_nil {asg : List M → D → Option (List M)} {body : List M → Option Ct} : forRun asg body [] Γ = some (.nx Γ) := rfl
theorem forRun_cons {asg : List M → D → Option (List M)} {body : List M → Option Ct} {d : D} {ds : List D} : forRun asg body (d :: ds) Γ = (asg Γ d).bind fun Γ1 => turnC (body Γ1) (forRun asg body ds) := rfl
/-- one turn that goes on -/
theorem forRun_step {asg : List M → D → Option (List M)} {body : List M → Option Ct} {d : D} {ds : List D} {Γ1 Γ2 : List M} (h1 : asg Γ d = some Γ1) (h2 : body Γ1 = some (.nx Γ2)) : forRun asg body (d :: ds) Γ = forRun asg body ds Γ2 := by
  rw [forRun_cons, h1, Option.bind_some, h2]; rfl
theorem forRun_ret {asg : List M → D → Option (List M)} {body : List M → Option Ct} {d : D} {ds : List D} {Γ1 Γ2 : List M} {m : M} (h1 : asg Γ d = some Γ1) (h2 : body Γ1 = some (.rt m Γ2)) : forRun asg body (d :: ds) Γ = some (.rt m Γ2) := by
  rw [forRun_cons, h1, Option.bind_some, h2]; rfl
theorem whileRun_step {c : List M → Option Bool} {body : List M → Option Ct} {n : Nat} {Γ2 : List M} (h1 : c Γ = some true) (h2 : body Γ = some (.nx Γ2)) : whileRun c body (n + 1) Γ = whileRun c body n Γ2 := by
  show (c Γ).bind _ = _
  rw [h1, Option.bind_some, if_pos rfl, h2]; rfl
theorem whileRun_end {c : List M → Option Bool} {body : List M → Option Ct} {n : Nat} (h1 : c Γ = some false) : whileRun c body (n + 1) Γ = some (.nx Γ) := by
  show (c Γ).bind _ = _
  rw [h1, Option.bind_some, if_neg (by decide)]
/-! ### comprehensions -/
def lcC (o : Option (List D)) (q : Gt K (fun i => !([] : List Nat).contains i) g) : Nat := 0
@[simp] theorem lcRun_nil {asg : List M → D → Option (List M)} {tt : List M → Option Bool} {el : List M → Option D} : lcRun asg tt el Γ [] = some [] := rfl
/-- every turn gives -/
theorem lcRun_map {asg : List M → D → Option (List M)} {tt : List M → Option Bool} {el : List M → Option D} (f : D → D) : ∀ (ds : List D), (∀ d ∈ ds, ∃ Γ1, asg Γ d = some Γ1 ∧ tt Γ1 = some true ∧ el Γ1 = some (f d)) → lcRun asg tt el Γ ds = some (ds.map f)
  | [], _ => rfl
  | d :: ds, h => by
    obtain ⟨Γ1, h1, h2, h3⟩ := h d List.mem_cons_self
    simp only [lcRun, h1, Option.bind_some, h2, if_true, h3]
    rw [lcRun_map f ds fun d hd => h d (List.mem_cons_of_mem _ hd)]
    rfl
theorem lcRun_filterMap {asg : List M → D → Option (List M)} {tt : List M → Option Bool} {el : List M → Option D} (f : D → D) (p : D → Bool) : ∀ (ds : List D), (∀ d ∈ ds, ∃ Γ1, asg Γ d = some Γ1 ∧ tt Γ1 = some (p d) ∧ (p d = true → el Γ1 = some (f d))) → lcRun asg tt el Γ ds = some ((ds.filter p).map f)
  | [], _ => rfl
  | d :: ds, h => by
    obtain ⟨Γ1, h1, h2, h3⟩ := h d List.mem_cons_self
    have ih := lcRun_filterMap f p ds fun d hd => h d (List.mem_cons_of_mem _ hd)
    simp only [lcRun, h1, Option.bind_some, h2]
    cases hp : p d with
    | true => simp [hp, h3 hp, ih]
    | false => simp [hp, ih]
@[simp] theorem oLc_ev {vs : List Nat} {s : Src K wi} {q : Gt K (fun i => !vs.contains i) g} {c : Tt K t} {p : Pb K te} : (oLc vs s q c p).ev Γ = (s.ev Γ).bind fun ds => if lineD ds.length then (lcRun q.asg c.ev p.ev (wipeG Γ vs) ds).map fun r => .nd .lst (r.map M.im) else none := rfl
@[simp] theorem yTst_ev : (yTst (K := K)).ev Γ = some true := rfl
@[simp] theorem wipeG_nil : wipeG Γ [] = Γ := rfl
@[simp] theorem wipeG_cons {v : Nat} {vs : List Nat} : wipeG Γ (v :: vs) = (wipeG Γ vs).set v .emp := rfl
/-! ### sources -/
@[simp] theorem srcL_ev {p : Pb K ta} : (srcL p).ev Γ = (p.ev Γ).bind D.asL := rfl
@[simp] theorem asL_lst {l : List D} : D.asL (.lst l) = some l := rfl
@[simp] theorem asL_scr {l : List D} : D.asL (.scr l) = some l := rfl
@[simp] theorem asS_lst {l : List D} : D.asS (.lst l) = some l := rfl
@[simp] theorem asS_scr {l : List D} : D.asS (.scr l) = some l := rfl
@[simp] theorem asS_tup {l : List D} : D.asS (.tup l) = some l := rfl
@[simp] theorem srcT_ev {p : Pb K ta} : (srcT p).ev Γ = (p.ev Γ).bind fun d => match d with | .tup l => some l | _ => none := rfl
@[simp] theorem srcS_ev {p : Ph K ta} : (srcS p).ev Γ = (p.ev Γ).bind fun d => match d with | .str s => some (s.cps.toList.map fun c => D.str ⟨#[c]⟩) | _ => none := rfl
@[simp] theorem srcA_ev {p : Pb K ta} : (srcA p).ev Γ = (p.ev Γ).bind D.asS := rfl
@[simp] theorem bTupOf_ev {a : Ab K tr} : (bTupOf a).ev Γ = (a.ev Γ).bind fun ds => match ds with | [d] => d.asS.map D.tup | _ => none := rfl
@[simp] theorem srcR1_ev {a : Ah K tr} : (srcR1 a).ev Γ = (a.ev Γ).bind fun ds => match ds with | [.int n] => if -(2 ^ 62) ≤ n ∧ n < 2 ^ 62 then some (rangeD 0 n.toNat) else none | _ => none := rfl
@[simp] theorem srcR2_ev {a : Ah K tr} : (srcR2 a).ev Γ = (a.ev Γ).bind fun ds => match ds with | [.int m, .int n] => if (-(2 ^ 62) ≤ m ∧ m < 2 ^ 62) ∧ -(2 ^ 62) ≤ n ∧ n < 2 ^ 62 then some (rangeD m (n - m).toNat) else none | _ => none := rfl
@[simp] theorem srcE_ev {a : Ab K tr} : (srcE a).ev Γ = (a.ev Γ).bind fun ds => match ds with | [d] => d.asL.map (enumD 0) | _ => none := rfl
@[simp] theorem srcZ_ev {a : Ab K tr} : (srcZ a).ev Γ = (a.ev Γ).bind fun ds => match ds with | [d, d'] => d.asL.bind fun l => d'.asL.map fun l' => zipD l l' | _ => none := rfl
/-! ### expressions -/
@[simp] theorem Pbh_ev {p : Pb K ta} : p.h.ev Γ = p.ev Γ := rfl
@[simp] theorem Abh_ev {p : Ab K tr} : p.h.ev Γ = p.ev Γ := rfl
@[simp] theorem Pob_ev {p : Po K ta} : p.b.ev Γ = (p.ev Γ).bind M.fz := rfl
@[simp] theorem Poh_ev {p : Po K ta} : p.h.ev Γ = (p.ev Γ).bind M.fz := rfl
@[simp] theorem Phs_ev {p : Ph K ta} : p.s.ev Γ = (p.ev Γ).bind fun d => if d.sc.isSome then some d else none := rfl
@[simp] theorem fz_im {d : D} : (M.im d).fz = some d := rfl
theorem fzs_ims : ∀ (ds : List D), M.fzs (ds.map M.im) = some ds
  | [] => rfl
  | d :: ds => by simp [M.fzs, M.fz, fzs_ims ds]
@[simp] theorem fz_lst {ds : List D} : (M.nd .lst (ds.map M.im)).fz = some (.lst ds) := by simp [M.fz, fzs_ims]
@[simp] theorem fz_tup {ds : List D} : (M.nd .tup (ds.map M.im)).fz = some (.tup ds) := by simp [M.fz, fzs_ims]
@[simp] theorem fzs_map {ds : List D} : M.fzs (ds.map M.im) = some ds := fzs_ims ds
@[simp] theorem fzs_cons {d : D} {ms : List M} : M.fzs (.im d :: ms) = (M.fzs ms).map fun ds => d :: ds := by
  simp only [M.fzs, M.fz]
  cases M.fzs ms <;> rfl
@[simp] theorem fz_lst0 : (M.nd .lst []).fz = some (.lst []) := rfl
@[simp] theorem fzs_nil : M.fzs [] = some [] := rfl
@[simp] theorem fz_nd_lst {cs : List M} : (M.nd .lst cs).fz = (M.fzs cs).map D.lst := rfl
@[simp] theorem fz_nd_tup {cs : List M} : (M.nd .tup cs).fz = (M.fzs cs).map D.tup := rfl
def imC : Option M → Option D
  | some (.im d) => some d
  | _ => none
@[simp] theorem imC_im {d : D} : imC (some (.im d)) = some d := rfl
@[simp] theorem bVar_ev {i : Nat} : (bVar (K := K) i).ev Γ = imC Γ[i]? := by
  show (match Γ[i]? with | some (.im d) => some d | _ => none) = _
  unfold imC
  split <;> rfl
@[simp] theorem hVar_ev {i : Nat} : (hVar (K := K) i).ev Γ = (Γ[i]?).bind M.fz := rfl
@[simp] theorem bInt_ev {i : Int} : (bInt (K := K) i).ev Γ = some (.int i) := rfl
@[simp] theorem bStr_ev {i : Str} : (bStr (K := K) i).ev Γ = some (.str i) := rfl
@[simp] theorem bBl_ev {i : Bool} : (bBl (K := K) i).ev Γ = some (.bl i) := rfl
@[simp] theorem bTy_ev {i : String} : (bTy (K := K) i).ev Γ = some (.ty i) := rfl
@[simp] theorem bCls_ev {i : Addr} : (bCls (K := K) i).ev Γ = some (.cls i) := rfl
@[simp] theorem bNon_ev : (bNon (K := K)).ev Γ = some .non := rfl
def bind2 (a b : Option D) (f : D → D → Option D) : Option D := a.bind fun x => b.bind fun y => f x y
@[simp] theorem bind2_s {x y : D} {f : D → D → Option D} : bind2 (some x) (some y) f = f x y := rfl
@[simp] theorem b2_ev {o : Op2 K r} {a : Ph K ta} {b : Ph K tb} : (b2 o a b).ev Γ = bind2 (a.ev Γ) (b.ev Γ) o.g := rfl
@[simp] theorem oII_g {f : Int → Int → Int} {i j : Int} : (oII (K := K) f).g (.int i) (.int j) = some (.int (f i j)) := rfl
@[simp] theorem oIB_g {f : Int → Int → Bool} {i j : Int} : (oIB (K := K) f).g (.int i) (.int j) = some (.bl (f i j)) := rfl
@[simp] theorem oIC_g {C : Int → Int → Prop} [DecidableRel C] {f : Int → Int → Int} {i j : Int} : (oIC (K := K) C f).g (.int i) (.int j) = if C i j then some (.int (f i j)) else none := rfl
@[simp] theorem oEqS_g {a b : D} : (oEqS (K := K)).g a b = (eqS a b).map .bl := rfl
@[simp] theorem oNeS_g {a b : D} : (oNeS (K := K)).g a b = (eqS a b).map fun c => .bl (!c) := rfl
@[simp] theorem eqS_ii {i j : Int} : eqS (.int i) (.int j) = some (i == j) := rfl
@[simp] theorem eqS_bb {i j : Bool} : eqS (.bl i) (.bl j) = some (i == j) := rfl
@[simp] theorem eqS_ss {i j : Str} : eqS (.str i) (.str j) = some (i == j) := rfl
@[simp] theorem eqS_nn : eqS .non .non = some true := rfl
@[simp] theorem oEq_g {a b : D} : (oEq (K := K)).g a b = (eqD a b).map .bl := rfl
@[simp] theorem oNe_g {a b : D} : (oNe (K := K)).g a b = (eqD a b).map fun c => .bl (!c) := rfl
@[simp] theorem bIsN_ev {a : Ph K ta} : (bIsN a).ev Γ = (a.ev Γ).map fun d => .bl d.isNon := rfl
@[simp] theorem bNotN_ev {a : Ph K ta} : (bNotN a).ev Γ = (a.ev Γ).map fun d => .bl (!d.isNon) := rfl
@[simp] theorem isNon_non : D.isNon .non = true := rfl
@[simp] theorem isNon_int {i : Int} : D.isNon (.int i) = false := rfl
@[simp] theorem isNon_str {i : Str} : D.isNon (.str i) = false := rfl
@[simp] theorem isNon_bl {i : Bool} : D.isNon (.bl i) = false := rfl
@[simp] theorem isNon_lst {i : List D} : D.isNon (.lst i) = false := rfl
@[simp] theorem isNon_tup {i : List D} : D.isNon (.tup i) = false := rfl
@[simp] theorem bNeg_ev {a : Ph K ta} : (bNeg a).ev Γ = (a.ev Γ).bind fun d => match d with | .int i => some (.int (-i)) | _ => none := rfl
def chC (z : Option D) (f : Option D) : Option D := z.bind fun z => match z with | .bl true => f | .bl false => some (.bl false) | _ => none
@[simp] theorem chC_t {f : Option D} : chC (some (.bl true)) f = f := rfl
@[simp] theorem chC_f {f : Option D} : chC (some (.bl false)) f = some (.bl false) := rfl
@[simp] theorem bChain_ev {o : Op2 K r} {o' : Op2 K r'} {a : Ph K ta} {b : Ph K tb} {c : Ph K tc} : (bChain o o' a b c).ev Γ = chC (bind2 (a.ev Γ) (b.ev Γ) o.g) (bind2 (b.ev Γ) (c.ev Γ) o'.g) := by
  show ((a.ev Γ).bind fun x => (b.ev Γ).bind fun y => (o.g x y).bind fun z => match z with | .bl true => (c.ev Γ).bind fun q => o'.g y q | .bl false => some (.bl false) | _ => none) = _
  unfold chC bind2
  cases a.ev Γ with
  | none => rfl
  | some x =>
    cases b.ev Γ with
    | none => rfl
    | some y => rfl
@[simp] theorem asB_bl {b : Bool} : asB (.bl b) = some b := rfl
@[simp] theorem tTst_ev {a : Ph K ta} : (tTst a).ev Γ = (a.ev Γ).bind asB := rfl
@[simp] theorem tBv_ev {a : Ph K ta} : (tBv a).ev Γ = (a.ev Γ).bind asB := rfl
@[simp] theorem tNt_ev {a : Tt K t} : (tNt a).ev Γ = (a.ev Γ).map not := rfl
def anC (a : Option Bool) (b : Tt K u) (Γ : List M) : Option Bool := a.bind fun x => if x = true then b.ev Γ else some false
def orC (a : Option Bool) (b : Tt K u) (Γ : List M) : Option Bool := a.bind fun x => if x = true then some true else b.ev Γ
@[simp] theorem anC_t {b : Tt K u} : anC (some true) b Γ = b.ev Γ := rfl
@[simp] theorem anC_f {b : Tt K u} : anC (some false) b Γ = some false := rfl
@[simp] theorem orC_t {b : Tt K u} : orC (some true) b Γ = some true := rfl
@[simp] theorem orC_f {b : Tt K u} : orC (some false) b Γ = b.ev Γ := rfl
@[simp] theorem tAn_ev {a : Tt K t} {b : Tt K u} : (tAn a b).ev Γ = anC (a.ev Γ) b Γ := rfl
@[simp] theorem tO_ev {a : Tt K t} {b : Tt K u} : (tO a b).ev Γ = orC (a.ev Γ) b Γ := rfl
def anV (a : Option D) (b : Ph K tb) (Γ : List M) : Option D := a.bind fun x => (asB x).bind fun c => if c = true then (b.ev Γ).bind fun y => if y.sc.isSome then some y else none else some (.bl false)
def orV (a : Option D) (b : Ph K tb) (Γ : List M) : Option D := a.bind fun x => (asB x).bind fun c => if c = true then some (.bl true) else (b.ev Γ).bind fun y => if y.sc.isSome then some y else none
@[simp] theorem anV_t {b : Ph K tb} : anV (some (.bl true)) b Γ = (b.ev Γ).bind fun y => if y.sc.isSome then some y else none := rfl
@[simp] theorem anV_f {b : Ph K tb} : anV (some (.bl false)) b Γ = some (.bl false) := rfl
@[simp] theorem orV_t {b : Ph K tb} : orV (some (.bl true)) b Γ = some (.bl true) := rfl
@[simp] theorem orV_f {b : Ph K tb} : orV (some (.bl false)) b Γ = (b.ev Γ).bind fun y => if y.sc.isSome then some y else none := rfl
@[simp] theorem bAnV_ev {a : Ph K ta} {b : Ph K tb} : (bAnV a b).ev Γ = anV (a.ev Γ) b Γ := rfl
@[simp] theorem bOrV_ev {a : Ph K ta} {b : Ph K tb} : (bOrV a b).ev Γ = orV (a.ev Γ) b Γ := rfl
@[simp] theorem bNtV_ev {a : Ph K ta} : (bNtV a).ev Γ = (a.ev Γ).bind fun x => (asB x).map fun c => .bl (!c) := rfl
@[simp] theorem sc_bl {b : Bool} : D.sc (.bl b) = some (.bl b) := rfl
@[simp] theorem sc_int {b : Int} : D.sc (.int b) = some (.int b) := rfl
@[simp] theorem sc_str {b : Str} : D.sc (.str b) = some (.str b) := rfl
@[simp] theorem sc_non : D.sc .non = some .non := rfl
def ifE (o : Option Bool) (a : Pb K ta) (b : Pb K tb) (Γ : List M) : Option D := o.bind fun x => if x = true then a.ev Γ else b.ev Γ
@[simp] theorem ifE_t {a : Pb K ta} {b : Pb K tb} : ifE (some true) a b Γ = a.ev Γ := rfl
@[simp] theorem ifE_f {a : Pb K ta} {b : Pb K tb} : ifE (some false) a b Γ = b.ev Γ := rfl
@[simp] theorem bIf_ev {c : Tt K t} {a : Pb K ta} {b : Pb K tb} : (bIf c a b).ev Γ = ifE (c.ev Γ) a b Γ := rfl
@[simp] theorem aNil_ev : (aNil (K := K)).ev Γ = some [] := rfl
def consC (a : Option D) (b : Option (List D)) : Option (List D) := a.bind fun x => b.map fun y => x :: y
@[simp] theorem consC_s {x : D} {y : List D} : consC (some x) (some y) = some (x :: y) := rfl
@[simp] theorem aCons_ev {a : Pb K ta} {b : Ab K tr} : (aCons a b).ev Γ = consC (a.ev Γ) (b.ev Γ) := rfl
@[simp] theorem ahCons_ev {a : Ph K ta} {b : Ah K tr} : (ahCons a b).ev Γ = consC (a.ev Γ) (b.ev Γ) := rfl
@[simp] theorem oLst_ev {a : Ab K tr} : (oLst a).ev Γ = (a.ev Γ).bind fun ds => if lineD ds.length then some (.nd .lst (ds.map M.im)) else none := rfl
@[simp] theorem oTup_ev {a : Ab K tr} : (oTup a).ev Γ = (a.ev Γ).bind fun ds => if lineD ds.length then some (.nd .tup (ds.map M.im)) else none := rfl
@[simp] theorem hTup_ev {a : Ah K tr} : (hTup a).ev Γ = (a.ev Γ).bind fun ds => if lineD ds.length then some (.tup ds) else none := rfl
@[simp] theorem hLst_ev {a : Ah K tr} : (hLst a).ev Γ = (a.ev Γ).bind fun ds => if lineD ds.length then some (.lst ds) else none := rfl
@[simp] theorem lineD_eq {n : Nat} : lineD n = decide (n ≤ 100000) := rfl
@[simp] theorem bCB_ev {rc : List V → Hp → VK → Prop} {o : OpC K rc} {a : Ah K tr} : (bCB o a).ev Γ = (a.ev Γ).bind o.g := rfl
@[simp] theorem oLen_g {d : D} : (oLen (K := K)).g [d] = d.asS.map fun l => .int (l.length : Int) := rfl
@[simp] theorem oLenS_g {s : Str} : (oLenS (K := K)).g [.str s] = if lineD s.length then some (.int (s.length : Int)) else none := rfl
@[simp] theorem oStrI_g {i : Int} : (oStrI (K := K)).g [.int i] = if i.natAbs.log2 < 1920 then some (.str (toString i)) else none := rfl
@[simp] theorem oIntS_g {s : Str} : (oIntS (K := K)).g [.str s] = if s.length ≤ 640 then (PySem.intText? s).map D.int else none := rfl
@[simp] theorem oInt1_i {i : Int} : (oInt1 (K := K)).g [.int i] = some (.int i) := rfl
@[simp] theorem oInt1_b {b : Bool} : (oInt1 (K := K)).g [.bl b] = some (.int (if b then 1 else 0)) := rfl
@[simp] theorem oMin2_g {i j : Int} : (oMin2 (K := K)).g [.int i, .int j] = some (.int (if j < i then j else i)) := rfl
@[simp] theorem oMax2_g {i j : Int} : (oMax2 (K := K)).g [.int i, .int j] = some (.int (if j > i then j else i)) := rfl
@[simp] theorem oIsi_g {d : D} {n : String} : (oIsi (K := K)).g [d, .ty n] = (d.tyn).bind fun t => (kitB t n).map D.bl := rfl
@[simp] theorem tyn_int {i : Int} : D.tyn (.int i) = some "int" := rfl
@[simp] theorem tyn_bl {i : Bool} : D.tyn (.bl i) = some "bool" := rfl
@[simp] theorem tyn_str {i : Str} : D.tyn (.str i) = some "str" := rfl
@[simp] theorem tyn_lst {i : List D} : D.tyn (.lst i) = some "list" := rfl
@[simp] theorem tyn_tup {i : List D} : D.tyn (.tup i) = some "tuple" := rfl
@[simp] theorem tyn_non : D.tyn .non = some "NoneType" := rfl
@[simp] theorem kk_ii : kitB "int" "int" = some true := kit_ii
@[simp] theorem kk_ib : kitB "int" "bool" = some false := kit_ib
@[simp] theorem kk_bi : kitB "bool" "int" = some true := kit_bi
@[simp] theorem kk_bb : kitB "bool" "bool" = some true := kit_bb
@[simp] theorem kk_ll : kitB "list" "list" = some true := kit_ll
@[simp] theorem kk_tt : kitB "tuple" "tuple" = some true := kit_tt
@[simp] theorem kk_ss : kitB "str" "str" = some true := kit_ss
def ixC (x y : Option D) : Option D := x.bind fun x => y.bind fun y => match x.asL, y with | some l, .int i => atD l i | _, _ => none
@[simp] theorem ixC_l {l : List D} {i : Int} : ixC (some (.lst l)) (some (.int i)) = atD l i := rfl
@[simp] theorem ixC_s {l : List D} {i : Int} : ixC (some (.scr l)) (some (.int i)) = atD l i := rfl
@[simp] theorem bIxL_ev {a : Pb K ta} {b : Ph K tb} : (bIxL a b).ev Γ = ixC (a.ev Γ) (b.ev Γ) := rfl
@[simp] theorem hIxL_ev {a : Ph K ta} {b : Ph K tb} : (hIxL a b).ev Γ = ixC (a.ev Γ) (b.ev Γ) := rfl
def ixT (x y : Option D) : Option D := x.bind fun x => y.bind fun y => match x, y with | .tup l, .int i => atD l i | _, _ => none
@[simp] theorem ixT_t {l : List D} {i : Int} : ixT (some (.tup l)) (some (.int i)) = atD l i := rfl
@[simp] theorem bIxT_ev {a : Pb K ta} {b : Ph K tb} : (bIxT a b).ev Γ = ixT (a.ev Γ) (b.ev Γ) := rfl
theorem atD_nat {l : List D} {k : Nat} : atD l (k : Int) = l[k]? := by
  unfold atD atI ixN
  rw [if_pos (Int.natCast_nonneg _)]
  by_cases h : k < l.length
  · rw [if_pos (by omega)]; simp
  · rw [if_neg (by omega)]; simp [List.getElem?_eq_none (by omega : l.length ≤ k)]
@[simp] theorem atD_0 {l : List D} : atD l 0 = l[0]? := atD_nat (k := 0)
@[simp] theorem atD_lit1 {l : List D} : atD l 1 = l[1]? := atD_nat (k := 1)
@[simp] theorem atD_lit2 {l : List D} : atD l 2 = l[2]? := atD_nat (k := 2)
@[simp] theorem atD_lit3 {l : List D} : atD l 3 = l[3]? := atD_nat (k := 3)
@[simp] theorem atD_lit4 {l : List D} : atD l 4 = l[4]? := atD_nat (k := 4)
@[simp] theorem atD_lit5 {l : List D} : atD l 5 = l[5]? := atD_nat (k := 5)
@[simp] theorem atD_lit6 {l : List D} : atD l 6 = l[6]? := atD_nat (k := 6)
@[simp] theorem atD_lit7 {l : List D} : atD l 7 = l[7]? := atD_nat (k := 7)
@[simp] theorem atD_lit8 {l : List D} : atD l 8 = l[8]? := atD_nat (k := 8)
@[simp] theorem atD_lit9 {l : List D} : atD l 9 = l[9]? := atD_nat (k := 9)
@[simp] theorem atD_lit10 {l : List D} : atD l 10 = l[10]? := atD_nat (k := 10)
@[simp] theorem atD_lit11 {l : List D} : atD l 11 = l[11]? := atD_nat (k := 11)
@[simp] theorem atD_lit12 {l : List D} : atD l 12 = l[12]? := atD_nat (k := 12)
@[simp] theorem atD_lit13 {l : List D} : atD l 13 = l[13]? := atD_nat (k := 13)
@[simp] theorem atD_lit14 {l : List D} : atD l 14 = l[14]? := atD_nat (k := 14)
@[simp] theorem atD_lit15 {l : List D} : atD l 15 = l[15]? := atD_nat (k := 15)
@[simp] theorem atD_lit16 {l : List D} : atD l 16 = l[16]? := atD_nat (k := 16)
@[simp] theorem atD_lit17 {l : List D} : atD l 17 = l[17]? := atD_nat (k := 17)
@[simp] theorem atD_lit18 {l : List D} : atD l 18 = l[18]? := atD_nat (k := 18)
@[simp] theorem atD_lit19 {l : List D} : atD l 19 = l[19]? := atD_nat (k := 19)
@[simp] theorem atD_lit20 {l : List D} : atD l 20 = l[20]? := atD_nat (k := 20)
@[simp] theorem atD_lit21 {l : List D} : atD l 21 = l[21]? := atD_nat (k := 21)
@[simp] theorem atD_lit22 {l : List D} : atD l 22 = l[22]? := atD_nat (k := 22)
@[simp] theorem atD_lit23 {l : List D} : atD l 23 = l[23]? := atD_nat (k := 23)
@[simp] theorem atD_lit24 {l : List D} : atD l 24 = l[24]? := atD_nat (k := 24)
theorem atD_in {l : List D} {i : Int} (h0 : 0 ≤ i) : atD l i = l[i.toNat]? := by
  obtain ⟨k, rfl⟩ := Int.eq_ofNat_of_zero_le h0
  rw [atD_nat]; rfl
@[simp] theorem oCall_ev {G : List D → Option M} {f : Dfl} {a : Ab K tr} : (oCall G f a).ev Γ = (a.ev Γ).bind fun ds => G (ds ++ f.ds) := rfl
@[simp] theorem hCall_ev {G : List D → Option M} {f : Dfl} {a : Ah K tr} : (hCall G f a).ev Γ = (a.ev Γ).bind fun ds => (G (ds ++ f.ds)).bind M.fz := rfl
@[simp] theorem noDfl_ds : noDfl.ds = [] := rfl
@[simp] theorem oCBL_ev {rc : List V → Hp → VK → Prop} {o : OpL K rc} {a : Ab K tr} : (oCBL o a).ev Γ = (a.ev Γ).bind fun ds => (o.g ds).map fun es => .nd .lst (es.map M.im) := rfl
@[simp] theorem oList_g {d : D} : (oList (K := K)).g [d] = d.asS := rfl
def bind2L (a b : Option D) (f : D → D → Option (List D)) : Option M := a.bind fun x => b.bind fun y => (f x y).map fun es => .nd .lst (es.map M.im)
@[simp] theorem bind2L_s {x y : D} {f : D → D → Option (List D)} : bind2L (some x) (some y) f = (f x y).map fun es => .nd .lst (es.map M.im) := rfl
@[simp] theorem o2L_ev {o : OpL2 K r} {a : Pb K ta} {b : Pb K tb} : (o2L o a b).ev Γ = bind2L (a.ev Γ) (b.ev Γ) o.g := rfl
@[simp] theorem oCat_g {l l' : List D} : (oCat (K := K)).g (.lst l) (.lst l') = if lineD (l.length + l'.length) then some (l ++ l') else none := rfl
@[simp] theorem noPart_ev : (noPart (K := K)).ev Γ = some none := rfl
@[simp] theorem aPart_ev {a : Ph K ta} : (aPart a).ev Γ = (a.ev Γ).bind fun d => match d with | .int i => some (some i) | _ => none := rfl
@[simp] theorem oSlL_ev {tl th : TO} {a : Pb K ta} {l : Op0 K tl} {h : Op0 K th} : (oSlL a l h).ev Γ = (a.ev Γ).bind fun x => (l.ev Γ).bind fun lo => (h.ev Γ).bind fun hi => (x.asL).map fun ds => .nd .lst ((cutD ds lo hi).map M.im) := rfl
/-! ### defs -/
theorem runF_eq {np n : Nat} {ev : List M → Option Ct} {ds : List D} (h : ds.length = np) : runF np n ev ds = (ev (startG n ds)).bind outM := by
  unfold runF runP
  rw [if_pos h]
@[simp] theorem runF_1 {n : Nat} {ev : List M → Option Ct} {a0 : D} : runF 1 n ev [a0] = (ev (startG n [a0])).bind outM := rfl
@[simp] theorem runF_2 {n : Nat} {ev : List M → Option Ct} {a0 a1 : D} : runF 2 n ev [a0, a1] = (ev (startG n [a0, a1])).bind outM := rfl
@[simp] theorem runF_3 {n : Nat} {ev : List M → Option Ct} {a0 a1 a2 : D} : runF 3 n ev [a0, a1, a2] = (ev (startG n [a0, a1, a2])).bind outM := rfl
@[simp] theorem runF_4 {n : Nat} {ev : List M → Option Ct} {a0 a1 a2 a3 : D} : runF 4 n ev [a0, a1, a2, a3] = (ev (startG n [a0, a1, a2, a3])).bind outM := rfl
@[simp] theorem runF_5 {n : Nat} {ev : List M → Option Ct} {a0 a1 a2 a3 a4 : D} : runF 5 n ev [a0, a1, a2, a3, a4] = (ev (startG n [a0, a1, a2, a3, a4])).bind outM := rfl
@[simp] theorem runF_6 {n : Nat} {ev : List M → Option Ct} {a0 a1 a2 a3 a4 a5 : D} : runF 6 n ev [a0, a1, a2, a3, a4, a5] = (ev (startG n [a0, a1, a2, a3, a4, a5])).bind outM := rfl
@[simp] theorem runF_7 {n : Nat} {ev : List M → Option Ct} {a0 a1 a2 a3 a4 a5 a6 : D} : runF 7 n ev [a0, a1, a2, a3, a4, a5, a6] = (ev (startG n [a0, a1, a2, a3, a4, a5, a6])).bind outM := rfl
@[simp] theorem runF_8 {n : Nat} {ev : List M → Option Ct} {a0 a1 a2 a3 a4 a5 a6 a7 : D} : runF 8 n ev [a0, a1, a2, a3, a4, a5, a6, a7] = (ev (startG n [a0, a1, a2, a3, a4, a5, a6, a7])).bind outM := rfl
@[simp] theorem runF_9 {n : Nat} {ev : List M → Option Ct} {a0 a1 a2 a3 a4 a5 a6 a7 a8 : D} : runF 9 n ev [a0, a1, a2, a3, a4, a5, a6, a7, a8] = (ev (startG n [a0, a1, a2, a3, a4, a5, a6, a7, a8])).bind outM := rfl
@[simp] theorem outM_rt {m : M} : outM (.rt m Γ) = some m := rfl
@[simp] theorem outM_nx : outM (.nx Γ) = some (.im .non) := rfl
end
end KS

namespace KS
open PySem L2
@[simp] theorem fzs_append : ∀ (a b : List M), M.fzs (a ++ b) = (M.fzs a).bind fun x => (M.fzs b).map fun y => x ++ y
  | [], b => by simp
  | m :: a, b => by
    simp only [List.cons_append, M.fzs, fzs_append a b]
    cases M.fz m with
    | none => rfl
    | some d =>
      cases M.fzs a with
      | none => rfl
      | some ds => cases M.fzs b <;> rfl

/-! ### data of whole numbers, texts apart -/
mutual
/-- ints, None, lists and tuples of these, nested at most n deep -/
def D.io : Nat → D → Bool
  | _, .non => true
  | _, .int _ => true
  | n + 1, .tup l => D.ios n l
  | n + 1, .lst l => D.ios n l
  | _, _ => false
def D.ios : Nat → List D → Bool
  | _, [] => true
  | n, d :: ds => D.io n d && D.ios n ds
end
mutual
theorem io_toP : ∀ {n : Nat} {d : D}, d.io n = true → ∃ p, d.toP = some p ∧ p.canLay0 = true ∧ p.depth ≤ n + 1
  | n, .non, _ => ⟨.none, rfl, rfl, by simp [PyData.depth]⟩
  | n, .int i, _ => ⟨.int i, rfl, rfl, by simp [PyData.depth]⟩
  | n + 1, .tup l, h => by
    obtain ⟨ps, e1, e2, e3⟩ := ios_toP (n := n) (ds := l) (by simpa [D.io] using h)
    exact ⟨.tuple ps, by simp [D.toP, e1], by simpa [PyData.canLay0] using e2, by simp only [PyData.depth]; omega⟩
  | n + 1, .lst l, h => by
    obtain ⟨ps, e1, e2, e3⟩ := ios_toP (n := n) (ds := l) (by simpa [D.io] using h)
    exact ⟨.list ps, by simp [D.toP, e1], by simpa [PyData.canLay0] using e2, by simp only [PyData.depth]; omega⟩
  | 0, .tup _, h => by simp [D.io] at h
  | 0, .lst _, h => by simp [D.io] at h
  | n, .bl _, h => by simp [D.io] at h
  | n, .str _, h => by simp [D.io] at h
  | n, .ty _, h => by simp [D.io] at h
  | n, .cls _, h => by simp [D.io] at h
  | n, .scr _, h => by simp [D.io] at h
  | n, .dic _ _, h => by simp [D.io] at h
  | n, .obj _ _ _, h => by simp [D.io] at h
theorem ios_toP : ∀ {n : Nat} {ds : List D}, D.ios n ds = true → ∃ ps, D.toPs ds = some ps ∧ PyData.canLayAll0 ps = true ∧ PyData.depthAll ps ≤ n + 1
  | n, [], _ => ⟨[], rfl, rfl, by simp [PyData.depthAll]⟩
  | n, d :: ds, h => by
    simp only [D.ios, Bool.and_eq_true] at h
    obtain ⟨p, a1, a2, a3⟩ := io_toP h.1
    obtain ⟨ps, b1, b2, b3⟩ := ios_toP h.2
    exact ⟨p :: ps, by simp [D.toPs, a1, b1], by simp [PyData.canLayAll0, a2, b2], by simp only [PyData.depthAll]; omega⟩
end
mutual
theorem io_eqv : ∀ {n m : Nat} {d e : D} {p q : PyData}, d.io n = true → e.io m = true → d.toP = some p → e.toP = some q → (PyData.eqv p q = true ↔ d = e)
  | n, m, .non, e, p, q, h, g, hp, hq => by
    cases hp
    cases e with
    | non => cases hq; simp [PyData.eqv]
    | int j => cases hq; simp [PyData.eqv]
    | tup l => simp only [D.toP, Option.map_eq_some_iff] at hq; obtain ⟨_, _, rfl⟩ := hq; simp [PyData.eqv]
    | lst l => simp only [D.toP, Option.map_eq_some_iff] at hq; obtain ⟨_, _, rfl⟩ := hq; simp [PyData.eqv]
    | _ => simp [D.io] at g
  | n, m, .int i, e, p, q, h, g, hp, hq => by
    cases hp
    cases e with
    | non => cases hq; simp [PyData.eqv]
    | int j => cases hq; simp [PyData.eqv]
    | tup l => simp only [D.toP, Option.map_eq_some_iff] at hq; obtain ⟨_, _, rfl⟩ := hq; simp [PyData.eqv]
    | lst l => simp only [D.toP, Option.map_eq_some_iff] at hq; obtain ⟨_, _, rfl⟩ := hq; simp [PyData.eqv]
    | _ => simp [D.io] at g
  | n + 1, m, .tup l, e, p, q, h, g, hp, hq => by
    simp only [D.toP, Option.map_eq_some_iff] at hp
    obtain ⟨ps, e1, rfl⟩ := hp
    cases e with
    | tup l' =>
      simp only [D.toP, Option.map_eq_some_iff] at hq
      obtain ⟨qs, e2, rfl⟩ := hq
      cases m with
      | zero => simp [D.io] at g
      | succ m =>
        have := ios_eqv (by simpa [D.io] using h) (by simpa [D.io] using g) e1 e2
        simp only [PyData.eqv, this, D.tup.injEq]
    | lst l' =>
      simp only [D.toP, Option.map_eq_some_iff] at hq
      obtain ⟨qs, e2, rfl⟩ := hq
      simp [PyData.eqv]
    | non => cases hq; simp [PyData.eqv]
    | int j => cases hq; simp [PyData.eqv]
    | _ => simp [D.io] at g
  | n + 1, m, .lst l, e, p, q, h, g, hp, hq => by
    simp only [D.toP, Option.map_eq_some_iff] at hp
    obtain ⟨ps, e1, rfl⟩ := hp
    cases e with
    | lst l' =>
      simp only [D.toP, Option.map_eq_some_iff] at hq
      obtain ⟨qs, e2, rfl⟩ := hq
      cases m with
      | zero => simp [D.io] at g
      | succ m =>
        have := ios_eqv (by simpa [D.io] using h) (by simpa [D.io] using g) e1 e2
        simp only [PyData.eqv, this, D.lst.injEq]
    | tup l' =>
      simp only [D.toP, Option.map_eq_some_iff] at hq
      obtain ⟨qs, e2, rfl⟩ := hq
      simp [PyData.eqv]
    | non => cases hq; simp [PyData.eqv]
    | int j => cases hq; simp [PyData.eqv]
    | _ => simp [D.io] at g
  | 0, _, .tup _, _, _, _, h, _, _, _ => by simp [D.io] at h
  | 0, _, .lst _, _, _, _, h, _, _, _ => by simp [D.io] at h
  | n, _, .bl _, _, _, _, h, _, _, _ => by simp [D.io] at h
  | n, _, .str _, _, _, _, h, _, _, _ => by simp [D.io] at h
  | n, _, .ty _, _, _, _, h, _, _, _ => by simp [D.io] at h
  | n, _, .cls _, _, _, _, h, _, _, _ => by simp [D.io] at h
  | n, _, .scr _, _, _, _, h, _, _, _ => by simp [D.io] at h
  | n, _, .dic _ _, _, _, _, h, _, _, _ => by simp [D.io] at h
  | n, _, .obj _ _ _, _, _, _, h, _, _, _ => by simp [D.io] at h
theorem ios_eqv : ∀ {n m : Nat} {ds es : List D} {ps qs : List PyData}, D.ios n ds = true → D.ios m es = true → D.toPs ds = some ps → D.toPs es = some qs → (PyData.eqvAll ps qs = true ↔ ds = es)
  | n, m, [], es, ps, qs, h, g, hp, hq => by
    cases hp
    cases es with
    | nil => cases hq; simp [PyData.eqvAll]
    | cons e es =>
      simp only [D.toPs] at hq
      split at hq
      · cases hq; simp [PyData.eqvAll]
      · cases hq
  | n, m, d :: ds, es, ps, qs, h, g, hp, hq => by
    simp only [D.toPs] at hp
    split at hp
    · rename_i p ps' h1 h2
      cases hp
      simp only [D.ios, Bool.and_eq_true] at h
      cases es with
      | nil => cases hq; simp [PyData.eqvAll]
      | cons e es =>
        simp only [D.toPs] at hq
        split at hq
        · rename_i q qs' g1 g2
          cases hq
          simp only [D.ios, Bool.and_eq_true] at g
          have a := io_eqv h.1 g.1 h1 g1
          have b := ios_eqv h.2 g.2 h2 g2
          simp only [PyData.eqvAll, Bool.and_eq_true, a, b, List.cons.injEq]
        · cases hq
    · cases hp
end
/-- == of two data of ints tells whether they are one -/
theorem eqD_io {a b : D} (ha : a.io 60 = true) (hb : b.io 60 = true) : ∃ c, eqD a b = some c ∧ (c = true ↔ a = b) := by
  obtain ⟨p, p1, p2, p3⟩ := io_toP ha
  obtain ⟨q, q1, q2, q3⟩ := io_toP hb
  have s1 : SeqAt.shaped p = true := by unfold SeqAt.shaped; rw [p2, decide_eq_true (by omega)]; rfl
  have s2 : SeqAt.shaped q = true := by unfold SeqAt.shaped; rw [q2, decide_eq_true (by omega)]; rfl
  refine ⟨PyData.eqv p q, ?_, io_eqv ha hb p1 q1⟩
  unfold eqD
  rw [p1, q1, Option.bind_some, Option.bind_some, s1, s2]
  rfl
theorem eqD_refl {a : D} (ha : a.io 60 = true) : eqD a a = some true := by
  obtain ⟨c, e, h⟩ := eqD_io ha ha
  rw [e, h.mpr rfl]
theorem eqD_ne {a b : D} (ha : a.io 60 = true) (hb : b.io 60 = true) (h : a ≠ b) : eqD a b = some false := by
  obtain ⟨c, e, h'⟩ := eqD_io ha hb
  rw [e]
  cases c with
  | true => exact absurd (h'.mp rfl) h
  | false => rfl
theorem ios_map {α : Type} {f : α → D} {n : Nat} (h : ∀ x, (f x).io n = true) : ∀ l : List α, D.ios n (l.map f) = true
  | [] => rfl
  | x :: l => by simp [D.ios, h x, ios_map h l]
/-! ### slices -/
def cutL {α : Type} (xs : List α) (lo hi : Option Int) : List α := (xs.drop (HT.sIx xs.length 0 lo)).take (HT.sIx xs.length xs.length hi - HT.sIx xs.length 0 lo)
theorem cutD_map {α : Type} (f : α → D) (xs : List α) (lo hi : Option Int) : cutD (xs.map f) lo hi = (cutL xs lo hi).map f := by
  unfold cutD cutL
  rw [List.length_map, List.map_take, List.map_drop]
theorem cutL_len {α : Type} (xs : List α) (lo hi : Option Int) : (cutL xs lo hi).length ≤ xs.length := by
  unfold cutL
  rw [List.length_take, List.length_drop]
  omega
theorem cutL_nat {α : Type} (xs : List α) (a b : Nat) : cutL xs (some (a : Int)) (some (b : Int)) = (xs.drop a).take (b - a) := by
  unfold cutL
  rw [HT.sIx_nat, HT.sIx_nat]
  by_cases h : a ≤ xs.length
  · rw [Nat.min_eq_left h]
    by_cases h2 : b ≤ xs.length
    · rw [Nat.min_eq_left h2]
    · rw [Nat.min_eq_right (by omega), List.take_of_length_le (by simp), List.take_of_length_le (by simp; omega)]
  · rw [Nat.min_eq_right (by omega : xs.length ≤ a), List.drop_eq_nil_of_le (Nat.le_refl _), List.drop_eq_nil_of_le (by omega : xs.length ≤ a)]
    simp
theorem cutL_le {α : Type} (xs : List α) (a b : Nat) : (cutL xs (some (a : Int)) (some (b : Int))).length ≤ b - a := by
  rw [cutL_nat, List.length_take]; omega
theorem cutL_mem {α : Type} {xs : List α} {lo hi : Option Int} {x : α} (h : x ∈ cutL xs lo hi) : x ∈ xs := by
  unfold cutL at h
  exact List.mem_of_mem_drop (List.mem_of_mem_take h)
/-! ### rows of pairs -/
def rowD (r : Int × Int) : D := .tup [.int r.1, .int r.2]
def rowsD (rs : List (Int × Int)) : List D := rs.map rowD
theorem rowD_io (r : Int × Int) {n : Nat} : (rowD r).io (n + 1) = true := rfl
theorem rowsD_io (rs : List (Int × Int)) : (D.lst (rowsD rs)).io 60 = true := ios_map (n := 59) (fun r => rowD_io r) rs
theorem ints_io (ns : List Int) : (D.lst (ns.map D.int)).io 60 = true := ios_map (n := 59) (fun _ => rfl) ns
def pairsOf : List D → Option (List (Int × Int))
  | [] => some []
  | .tup [.int p, .int b] :: r => (pairsOf r).map fun rs => (p, b) :: rs
  | _ => none
@[simp] theorem pairsOf_rowsD : ∀ rs : List (Int × Int), pairsOf (rowsD rs) = some rs
  | [] => rfl
  | r :: rs => by
    show (pairsOf (rowsD rs)).map _ = _
    rw [pairsOf_rowsD rs]; rfl
theorem pairsOf_eq : ∀ {l : List D} {rs : List (Int × Int)}, pairsOf l = some rs → l = rowsD rs
  | [], rs, h => by cases h; rfl
  | d :: l, rs, h => by
    unfold pairsOf at h
    split at h
    · rename_i h0; cases h0
    · rename_i p b r h0
      cases h0
      obtain ⟨rs', h1, rfl⟩ := Option.map_eq_some_iff.mp h
      rw [pairsOf_eq h1]; rfl
    · cases h
def intsOf : List D → Option (List Int)
  | [] => some []
  | .int p :: r => (intsOf r).map fun rs => p :: rs
  | _ => none
@[simp] theorem intsOf_map : ∀ rs : List Int, intsOf (rs.map D.int) = some rs
  | [] => rfl
  | r :: rs => by
    show (intsOf (rs.map D.int)).map _ = _
    rw [intsOf_map rs]; rfl
theorem intsOf_eq : ∀ {l : List D} {rs : List Int}, intsOf l = some rs → l = rs.map D.int
  | [], rs, h => by cases h; rfl
  | d :: l, rs, h => by
    unfold intsOf at h
    split at h
    · rename_i h0; cases h0
    · rename_i p r h0
      cases h0
      obtain ⟨rs', h1, rfl⟩ := Option.map_eq_some_iff.mp h
      rw [intsOf_eq h1]; rfl
    · cases h
end KS

namespace KS
open PySem L2
section
variable {K : PySem.W.Frag} {pn : Nat → Bool} {ta tb tc te ti : TE} {tr : TA} {t u : TT} {ts ts' tS : TS} {g : TG} {gs : TGs} {wi : TI}
def isIm : M → Bool
  | .im _ => true
  | _ => false
theorem ownL_set {Hb H : Hp} : ∀ {ms : List M} {vs : List V} {F : List Addr} {j : Nat} {d : D} {v : V}, OwnL K Hb H ms vs F → (ms[j]?).map isIm = some true → rep K Hb d v → OwnL K Hb H (ms.set j (.im d)) (vs.set j v) F
  | [], _, _, j, _, _, h, e, _ => by simp at e
  | m :: ms, vs, F, 0, d, v, h, e, r => by
    obtain ⟨x, rr, F1, F2, rfl, h1, h2, rfl⟩ := h
    simp at e
    cases m with
    | im d0 => exact ⟨v, rr, F1, F2, rfl, ⟨r, h1.2⟩, h2, rfl⟩
    | emp => cases e
    | nd _ _ => cases e
  | m :: ms, vs, F, j + 1, d, v, h, e, r => by
    obtain ⟨x, rr, F1, F2, rfl, h1, h2, rfl⟩ := h
    simp at e
    exact ⟨x, rr.set j v, F1, F2, rfl, h1, ownL_set h2 (by simpa using e) r, rfl⟩
def setC (i : Nat) (d x : Option D) (Γ : List M) : Option M → Option Ct
  | some (.nd .lst cs) => d.bind fun d => match x with
    | some (.int k) => (ixN cs.length k).bind fun j => if (cs[j]?).map isIm = some true then some (.nx (Γ.set i (.nd .lst (cs.set j (.im d))))) else none
    | _ => none
  | _ => none
/-- xs[k] = e, xs a name -/
def sSetL (i : Nat) (p : Pb K te) (q : Ph K ti) : Sx K pn (tAsg te (gSub (tVar i) ti rSetL)) where
  ev := fun Γ => setC i (p.ev Γ) (q.ev Γ) Γ Γ[i]?
  ok := fun {Γ c σ Hb H F E} e w gg => by
    unfold setC at e
    split at e
    · rename_i cs hi
      obtain ⟨d, e1, e⟩ := Option.bind_eq_some_iff.mp e
      split at e
      · rename_i k hk
        obtain ⟨j, e2, e⟩ := Option.bind_eq_some_iff.mp e
        split at e
        · rename_i him
          cases e
          refine p.ok e1 w fun v Hb1 H1 x1 x2 x3 x4 r => ?_
          have w1 := w.pure x1 x2 x3 x4
          obtain ⟨a, dx, vs, Fc, s1, s2, s3, s4, s5, s6, s7⟩ := w1.chg hi
          refine ⟨.ref a, s1, ?_⟩
          refine q.ok hk w1 fun v2 Hb2 H2 y1 y2 y3 y4 r2 => ?_
          have w2 := w1.pure y1 y2 y3 y4
          obtain ⟨a', dx', vs', Fc', t1, t2, t3, t4, t5, t6, t7⟩ := w2.chg hi
          have ea : a' = a := by rw [s1] at t1; cases t1; rfl
          subst ea
          rw [show v2 = V.int k from r2]
          obtain ⟨w3, st3⟩ := t7 .lst (cs.set j (.im d)) (vs'.set j v) True.intro (ownL_set (ownL_upd t5 t6) him (rep_mono y1 r))
          exact ⟨a', vs', k, j, rfl, rfl, t3, by rw [ownL_len t5]; exact e2, gg σ Hb2 _ F w3 (((Step.pure x1 x2 x4).trans (Step.pure y1 y2 y4)).trans st3) Pin.refl⟩
        · cases e
      · cases e
    · cases e
@[simp] theorem sSetL_ev {i : Nat} {p : Pb K te} {q : Ph K ti} {Γ : List M} : (sSetL (pn := pn) i p q).ev Γ = setC i (p.ev Γ) (q.ev Γ) Γ Γ[i]? := rfl
@[simp] theorem setC_l {i : Nat} {d : D} {k : Int} {Γ cs : List M} : setC i (some d) (some (.int k)) Γ (some (.nd .lst cs)) = (ixN cs.length k).bind fun j => if (cs[j]?).map isIm = some true then some (.nx (Γ.set i (.nd .lst (cs.set j (.im d))))) else none := rfl
@[simp] theorem isIm_im {d : D} : isIm (.im d) = true := rfl
/-! ### range with a step -/
def rangeCD (lo c : Int) (n : Nat) : List D := (List.range n).map fun (i : Nat) => D.int (lo + (i : Int) * c)
theorem rangeCD_len (lo c : Int) (n : Nat) : (rangeCD lo c n).length = n := by simp [rangeCD]
theorem walks_rangeC {Hb2 : Hp} (lo c : Int) (n : Nat) : Walks K (Itc lo c n) (rangeCD lo c n) Hb2 := by
  refine ⟨fun i Hb3 H3 y1 y2 hi => ?_, fun Hb3 H3 y1 y2 => ?_⟩
  · rw [rangeCD_len] at hi
    refine ⟨hi, fun x H4 hy => ?_⟩
    obtain ⟨rfl, rfl⟩ := hy
    exact ⟨Hb3, .int (lo + (i : Int) * c), Evl.Ex.refl _, Evl.Ex.refl _, y2, NB.refl, by simp [rangeCD, hi], rfl⟩
  · show n ≤ (rangeCD lo c n).length
    rw [rangeCD_len]; exact Nat.le_refl _
def rg3 : List D → Option (List D)
  | [.int i, .int j, .int c] => if c ≠ 0 ∧ c.natAbs ≤ 1000 ∧ Builtin.Range.small i j c = true ∧ 0 ≤ Builtin.Range.rangeSize i j c then some (rangeCD i c (Builtin.Range.rangeSize i j c).toNat) else none
  | _ => none
def srcR3 (a : Ah K tr) : Src K (iRng3 tr) where
  ev := fun Γ => (a.ev Γ).bind rg3
  ok := fun {Γ ds σ Hb H F R} e w k => by
    obtain ⟨d, e1, e⟩ := Option.bind_eq_some_iff.mp e
    refine a.ok e1 w fun v Hb2 H2 x1 x2 x3 x4 r => ?_
    unfold rg3 at e
    split at e
    · rename_i m n c
      split at e
      · rename_i hn
        cases e
        obtain ⟨x, xs, rfl, h1, y, ys, rfl, h2, z, zs, rfl, h3, h4⟩ := r
        obtain rfl : zs = [] := h4
        obtain rfl : x = .int m := h1
        obtain rfl : y = .int n := h2
        obtain rfl : z = .int c := h3
        exact ⟨m, n, c, _, rfl, ⟨hn.1, by omega, hn.2.2.1, by omega⟩, k _ Hb2 H2 x1 x2 x3 x4 (walks_rangeC m c _)⟩
      · cases e
    · cases e
@[simp] theorem srcR3_ev {a : Ah K tr} {Γ : List M} : (srcR3 a).ev Γ = (a.ev Γ).bind rg3 := rfl
end
/-! ### loops by an invariant -/
def Onw (o : Option Ct) (Γ : List M) : Prop := o = some (.nx Γ) ∨ o = some (.ct Γ)
theorem forRun_onw {asg : List M → D → Option (List M)} {body : List M → Option Ct} {d : D} {ds : List D} {Γ Γ1 Γ2 : List M} (h1 : asg Γ d = some Γ1) (h2 : Onw (body Γ1) Γ2) : forRun asg body (d :: ds) Γ = forRun asg body ds Γ2 := by
  rw [forRun_cons, h1, Option.bind_some]
  rcases h2 with h | h <;> rw [h] <;> rfl
/-- each turn goes on, by a fold -/
theorem forRun_fold {α β : Type} {asg : List M → D → Option (List M)} {body : List M → Option Ct} (f : α → D) (st : β → α → β) (R : β → List M → Prop) : ∀ (l : List α) (b : β) (Γ : List M), R b Γ →
    (∀ a ∈ l, ∀ b Γ, R b Γ → ∃ Γ1 Γ2, asg Γ (f a) = some Γ1 ∧ Onw (body Γ1) Γ2 ∧ R (st b a) Γ2) → ∃ Γ', forRun asg body (l.map f) Γ = some (.nx Γ') ∧ R (l.foldl st b) Γ'
  | [], b, Γ, r, _ => ⟨Γ, rfl, r⟩
  | a :: l, b, Γ, r, h => by
    obtain ⟨Γ1, Γ2, h1, h2, h3⟩ := h a List.mem_cons_self b Γ r
    obtain ⟨Γ', h4, h5⟩ := forRun_fold f st R l (st b a) Γ2 h3 fun x hx => h x (List.mem_cons_of_mem _ hx)
    exact ⟨Γ', (forRun_onw h1 h2).trans h4, h5⟩
/-- .. by the number of turns -/
theorem forRun_inv {asg : List M → D → Option (List M)} {body : List M → Option Ct} (R : Nat → List M → Prop) : ∀ (ds : List D) (n : Nat) (Γ : List M), R n Γ →
    (∀ i Γ d, ds[i]? = some d → R (n + i) Γ → ∃ Γ1 Γ2, asg Γ d = some Γ1 ∧ Onw (body Γ1) Γ2 ∧ R (n + i + 1) Γ2) → ∃ Γ', forRun asg body ds Γ = some (.nx Γ') ∧ R (n + ds.length) Γ'
  | [], n, Γ, r, _ => ⟨Γ, rfl, r⟩
  | d :: ds, n, Γ, r, h => by
    obtain ⟨Γ1, Γ2, h1, h2, h3⟩ := h 0 Γ d rfl r
    obtain ⟨Γ', h4, h5⟩ := forRun_inv R ds (n + 1) Γ2 h3 fun i Γ d' hd hr => by
      have := h (i + 1) Γ d' (by simpa using hd) (by rw [show n + (i + 1) = n + 1 + i by omega]; exact hr)
      rw [show n + (i + 1) + 1 = n + 1 + i + 1 by omega] at this
      exact this
    refine ⟨Γ', (forRun_onw h1 h2).trans h4, ?_⟩
    rw [List.length_cons, show n + (ds.length + 1) = n + 1 + ds.length by omega]
    exact h5
end KS

namespace Law
open PySem PySem.Spec PyProof.Rows L2 KS
def topS (i : Nat) : Stmt := PySem.Challenge.pw_keepsakes_k13_one_number_changed.main.body.getD i (.Pass ⟨0, 0, 0, 0⟩)
abbrev s_turned : Stmt := topS 2
abbrev N_turned : List Str := ["number"]
theorem sc_turned : FnScope N_turned ["number"] (defScope s_turned) := ⟨rfl, rfl, rfl, by decide +kernel, rfl, by decide +kernel, by decide +kernel⟩
abbrev s_check_of : Stmt := topS 3
abbrev N_check_of : List Str := ["start", "day", "rows", "total", "place", "block"]
theorem sc_check_of : FnScope N_check_of ["start", "day", "rows"] (defScope s_check_of) := ⟨rfl, rfl, rfl, by decide +kernel, rfl, by decide +kernel, by decide +kernel⟩
abbrev s__law_cell : Stmt := topS 5
abbrev N__law_cell : List Str := ["_law_script", "_law_k"]
theorem sc__law_cell : FnScope N__law_cell ["_law_script", "_law_k"] (defScope s__law_cell) := ⟨rfl, rfl, rfl, by decide +kernel, rfl, by decide +kernel, by decide +kernel⟩
abbrev s__law_whole : Stmt := topS 6
abbrev N__law_whole : List Str := ["_law_found"]
theorem sc__law_whole : FnScope N__law_whole ["_law_found"] (defScope s__law_whole) := ⟨rfl, rfl, rfl, by decide +kernel, rfl, by decide +kernel, by decide +kernel⟩
abbrev s__law_stir : Stmt := topS 7
abbrev N__law_stir : List Str := ["_law_cell_here", "_law_k", "_law_number"]
theorem sc__law_stir : FnScope N__law_stir ["_law_cell_here", "_law_k"] (defScope s__law_stir) := ⟨rfl, rfl, rfl, by decide +kernel, rfl, by decide +kernel, by decide +kernel⟩
abbrev s__law_block : Stmt := topS 8
abbrev N__law_block : List Str := ["_law_cell_here", "_law_k"]
theorem sc__law_block : FnScope N__law_block ["_law_cell_here", "_law_k"] (defScope s__law_block) := ⟨rfl, rfl, rfl, by decide +kernel, rfl, by decide +kernel, by decide +kernel⟩
abbrev s__law_start : Stmt := topS 9
abbrev N__law_start : List Str := ["_law_cell_here"]
theorem sc__law_start : FnScope N__law_start ["_law_cell_here"] (defScope s__law_start) := ⟨rfl, rfl, rfl, by decide +kernel, rfl, by decide +kernel, by decide +kernel⟩
abbrev s__law_day : Stmt := topS 10
abbrev N__law_day : List Str := ["_law_cell_here"]
theorem sc__law_day : FnScope N__law_day ["_law_cell_here"] (defScope s__law_day) := ⟨rfl, rfl, rfl, by decide +kernel, rfl, by decide +kernel, by decide +kernel⟩
abbrev s__law_other : Stmt := topS 11
abbrev N__law_other : List Str := ["_law_old", "_law_at", "_law_cell_here"]
theorem sc__law_other : FnScope N__law_other ["_law_old", "_law_at", "_law_cell_here"] (defScope s__law_other) := ⟨rfl, rfl, rfl, by decide +kernel, rfl, by decide +kernel, by decide +kernel⟩
abbrev s__law_asked : Stmt := topS 12
abbrev N__law_asked : List Str := ["_law_numbers", "_law_rows", "_law_k"]
theorem sc__law_asked : FnScope N__law_asked ["_law_numbers"] (defScope s__law_asked) := ⟨rfl, rfl, rfl, by decide +kernel, rfl, by decide +kernel, by decide +kernel⟩
abbrev s_law : Stmt := topS 13
abbrev N_law : List Str := ["_law_script", "_law_numbers", "_law_cell_here", "_law_at", "_law_found", "_law_others", "_law_changed", "_law_number"]
theorem sc_law : FnScope N_law ["_law_script"] (defScope s_law) := ⟨rfl, rfl, rfl, by decide +kernel, rfl, by decide +kernel, by decide +kernel⟩
/-- what the top has written -/
structure Txt (K : PySem.W.Frag) (mg : Str → Option Value) (fa : Nat → Addr) (fd : Nat → FuncData) : Prop where
  F_turned : Fun K "turned" "turned" s_turned (fa 2) (fd 2)
  g_turned : mg "turned" = some (.ref (fa 2))
  b_turned : Binds K (fd 2) ["number"] []
  F_check_of : Fun K "check_of" "check_of" s_check_of (fa 3) (fd 3)
  g_check_of : mg "check_of" = some (.ref (fa 3))
  b_check_of : Binds K (fd 3) ["start", "day", "rows"] []
  F__law_cell : Fun K "_law_cell" "_law_cell" s__law_cell (fa 5) (fd 5)
  g__law_cell : mg "_law_cell" = some (.ref (fa 5))
  b__law_cell : Binds K (fd 5) ["_law_script", "_law_k"] []
  F__law_whole : Fun K "_law_whole" "_law_whole" s__law_whole (fa 6) (fd 6)
  g__law_whole : mg "_law_whole" = some (.ref (fa 6))
  b__law_whole : Binds K (fd 6) ["_law_found"] []
  F__law_stir : Fun K "_law_stir" "_law_stir" s__law_stir (fa 7) (fd 7)
  g__law_stir : mg "_law_stir" = some (.ref (fa 7))
  b__law_stir : Binds K (fd 7) ["_law_cell_here", "_law_k"] []
  F__law_block : Fun K "_law_block" "_law_block" s__law_block (fa 8) (fd 8)
  g__law_block : mg "_law_block" = some (.ref (fa 8))
  b__law_block : Binds K (fd 8) ["_law_cell_here", "_law_k"] []
  F__law_start : Fun K "_law_start" "_law_start" s__law_start (fa 9) (fd 9)
  g__law_start : mg "_law_start" = some (.ref (fa 9))
  b__law_start : Binds K (fd 9) ["_law_cell_here"] []
  F__law_day : Fun K "_law_day" "_law_day" s__law_day (fa 10) (fd 10)
  g__law_day : mg "_law_day" = some (.ref (fa 10))
  b__law_day : Binds K (fd 10) ["_law_cell_here"] []
  F__law_other : Fun K "_law_other" "_law_other" s__law_other (fa 11) (fd 11)
  g__law_other : mg "_law_other" = some (.ref (fa 11))
  b__law_other : Binds K (fd 11) ["_law_old", "_law_at", "_law_cell_here"] []
  F__law_asked : Fun K "_law_asked" "_law_asked" s__law_asked (fa 12) (fd 12)
  g__law_asked : mg "_law_asked" = some (.ref (fa 12))
  b__law_asked : Binds K (fd 12) ["_law_numbers"] []
  F_law : Fun K "law" "law" s_law (fa 13) (fd 13)
  g_law : mg "law" = some (.ref (fa 13))
  b_law : Binds K (fd 13) ["_law_script"] []
  z_bool : mg "bool" = none
  z_int : mg "int" = none
  z_isinstance : mg "isinstance" = none
  z_len : mg "len" = none
  z_list : mg "list" = none
  z_range : mg "range" = none
  c_FULL : ∃ t, mg "FULL" = some (.int 18446744073709551615 t)

def b_turned {K : PySem.W.Frag} := ((sRet (b2 (oII Builtin.bitOr) ((b2 (oII Builtin.bitAnd) ((b2 (oIC CPow fun i j => i * 2 ^ j.toNat) ((bVar 0)).h ((bInt 7)).h)).h ((bInt 18446744073709551615)).h)).h ((b2 (oIC (fun _ j => 0 ≤ j) fun i j => i / 2 ^ j.toNat) ((bVar 0)).h ((bInt 57)).h)).h)) : Sx K pn0 _)
def G_turned {K : PySem.W.Frag} (ds : List D) : Option M := runF 1 1 (b_turned (K := K)).ev ds
def turnI (n : Int) : Int := n * 128 % 18446744073709551616 + n / 144115188075855872
theorem bits_turn (n : Int) (h0 : 0 ≤ n) (h1 : n < 18446744073709551616) : Builtin.bitOr (Builtin.bitAnd (n * 128) 18446744073709551615) (n / 144115188075855872) = turnI n := by
  have e1 : Builtin.bitAnd (n * 128) 18446744073709551615 = (n * 128) % 18446744073709551616 := PySem.W.kbt_mask (n * 128) 64
  have e2 : (n * 128) % 18446744073709551616 = (n % 144115188075855872) * 2 ^ 7 := by omega
  rw [e1]
  unfold turnI
  rw [e2]
  exact or_low (by omega) (by omega) (by omega)
theorem turnI_lt (n : Int) (h0 : 0 ≤ n) (h1 : n < 18446744073709551616) : 0 ≤ turnI n ∧ turnI n < 18446744073709551616 := by unfold turnI; omega
theorem t_turned {K : PySem.W.Frag} (n : Int) (h0 : 0 ≤ n) (h1 : n < 18446744073709551616) : G_turned (K := K) [.int n] = some (.im (.int (turnI n))) := by
  have hc : CPow n 7 := ⟨by decide, by decide, by omega⟩
  have e := bits_turn n h0 h1
  unfold G_turned b_turned
  simp [runF, runP, startG, sSeq, sIf, sRet, sRetO, sRetV, sRetN, sNext, sAsg, sAsgO, sApp, sFor, sDrop, sAug, sBrk, sCont, gN, gT, gsCons, gsNil, b2, oIC, oII, oIB, oEq, oNe, bVar, hVar, bInt, bStr, bBl, bNon, bC, bTy, bNeg, bIsN, bNotN, bAnV, bOrV, bNtV, bIf, bChain, Pb.h, Ph.s, Po.b, Po.h, Ab.h, tTst, tBv, tNt, tAn, tO, eqD, D.toP, asB, D.sc, D.isNon, D.asL, D.asS, D.tyn, sh_i, sh_b, oEqS, oNeS, eqS, ev_ii, ev_ss, ev_bb, aNil, aCons, ahCons, oLst, oTup, hTup, hLst, bCB, oLen, oLenS, oIsi, oInt1, oMin2, oMax2, oCBL, oList, o2L, oCat, oSlL, noPart, aPart, oLc, yTst, srcL, srcT, srcR1, srcR2, srcS, srcE, srcZ, bIxL, bIxT, hIxL, oCall, hCall, bCall, noDfl, M.fz, M.fzs, lineD, pn0, outM, kit_ii, kit_ib, kit_bi, kit_bb, kit_ll, kit_tt, kit_ss, hc]
  exact e
def m_turned : List D → Option M
  | [.int n] => if 0 ≤ n ∧ n < 18446744073709551616 then some (.im (.int (turnI n))) else none
  | _ => none
theorem e_turned {K : PySem.W.Frag} (ds : List D) (m : M) (h : m_turned ds = some m) : G_turned (K := K) ds = some m := by
  unfold m_turned at h
  split at h
  · split at h
    · rename_i n hn
      cases h
      exact t_turned n hn.1 hn.2
    · cases h
  · cases h
theorem m_turned_eq (v : Int) (h0 : 0 ≤ v) (h1 : v < 18446744073709551616) : m_turned [.int v] = some (.im (.int (turnI v))) := by
  simp [m_turned, h0, h1]
def TN (m : Nat) : Nat := m * 128 % 18446744073709551616 + m / 144115188075855872
theorem TN_bit (m : Nat) (h : m < 18446744073709551616) (j : Nat) : (TN m).testBit j = (decide (j < 64) && m.testBit ((j + 57) % 64)) := by
  have e : TN m = 2 ^ 7 * (m % 2 ^ 57) + m / 2 ^ 57 := by unfold TN; omega
  rw [e, Nat.testBit_two_pow_mul_add _ (by omega)]
  by_cases h7 : j < 7
  · rw [if_pos h7, Nat.testBit_div_two_pow]
    have : (j + 57) % 64 = 57 + j := by omega
    rw [this]
    simp [show j < 64 by omega]
    rw [Nat.add_comm]
  · rw [if_neg h7, Nat.testBit_mod_two_pow]
    by_cases h64 : j < 64
    · have : (j + 57) % 64 = j - 7 := by omega
      rw [this]
      simp [h64, show j - 7 < 57 by omega]
    · simp [h64, show ¬ (j - 7 < 57) by omega]
theorem TN_lt (m : Nat) (h : m < 18446744073709551616) : TN m < 18446744073709551616 := by unfold TN; omega
theorem TN_xor (a b : Nat) (ha : a < 18446744073709551616) (hb : b < 18446744073709551616) : TN (a ^^^ b) = TN a ^^^ TN b := by
  apply Nat.eq_of_testBit_eq
  intro j
  rw [Nat.testBit_xor, TN_bit a ha, TN_bit b hb, TN_bit _ (Nat.xor_lt_two_pow (n := 64) ha hb), Nat.testBit_xor]
  cases decide (j < 64) <;> simp
theorem turnI_nat (m : Nat) : turnI (m : Int) = (TN m : Int) := by unfold turnI TN; omega
theorem turnI_xor (a b : Int) (a0 : 0 ≤ a) (a1 : a < 18446744073709551616) (b0 : 0 ≤ b) (b1 : b < 18446744073709551616) : turnI (Builtin.bitXor a b) = Builtin.bitXor (turnI a) (turnI b) := by
  obtain ⟨m, rfl⟩ := Int.eq_ofNat_of_zero_le a0
  obtain ⟨n, rfl⟩ := Int.eq_ofNat_of_zero_le b0
  rw [Bits.bitXor_pp (Int.natCast_nonneg _) (Int.natCast_nonneg _), turnI_nat, turnI_nat, turnI_nat, Bits.bitXor_pp (Int.natCast_nonneg _) (Int.natCast_nonneg _)]
  simp only [Int.toNat_natCast]
  rw [TN_xor m n (by omega) (by omega)]
theorem xor_lt (a b : Int) (a0 : 0 ≤ a) (a1 : a < 18446744073709551616) (b0 : 0 ≤ b) (b1 : b < 18446744073709551616) : 0 ≤ Builtin.bitXor a b ∧ Builtin.bitXor a b < 18446744073709551616 := by
  obtain ⟨m, rfl⟩ := Int.eq_ofNat_of_zero_le a0
  obtain ⟨n, rfl⟩ := Int.eq_ofNat_of_zero_le b0
  rw [Bits.bitXor_pp (Int.natCast_nonneg _) (Int.natCast_nonneg _)]
  have : m ^^^ n < 2 ^ 64 := Nat.xor_lt_two_pow (by omega) (by omega)
  simp only [Int.toNat_natCast]
  omega
def TNi : Nat → Nat → Nat
  | 0, m => m
  | k + 1, m => TNi k (TN m)
theorem TNi_bit : ∀ (k m : Nat), m < 18446744073709551616 → ∀ j, j < 64 → (TNi k m).testBit j = m.testBit ((j + 57 * k) % 64)
  | 0, m, h, j, hj => by
    show m.testBit j = _
    rw [show (j + 57 * 0) % 64 = j by omega]
  | k + 1, m, h, j, hj => by
    show (TNi k (TN m)).testBit j = _
    rw [TNi_bit k (TN m) (TN_lt m h) j hj, TN_bit m h]
    rw [show decide ((j + 57 * k) % 64 < 64) = true from decide_eq_true (Nat.mod_lt _ (by omega)), Bool.true_and]
    rw [show ((j + 57 * k) % 64 + 57) % 64 = (j + 57 * (k + 1)) % 64 by omega]
theorem TNi_lt : ∀ (k m : Nat), m < 18446744073709551616 → TNi k m < 18446744073709551616
  | 0, m, h => h
  | k + 1, m, h => TNi_lt k (TN m) (TN_lt m h)
theorem TNi_64 (m : Nat) (h : m < 18446744073709551616) : TNi 64 m = m := by
  apply Nat.eq_of_testBit_eq
  intro j
  by_cases hj : j < 64
  · rw [TNi_bit 64 m h j hj, show (j + 57 * 64) % 64 = j by omega]
  · have h1 : (2 : Nat) ^ 64 ≤ 2 ^ j := Nat.pow_le_pow_right (by omega) (by omega)
    rw [Nat.testBit_lt_two_pow (Nat.lt_of_lt_of_le (TNi_lt 64 m h) h1), Nat.testBit_lt_two_pow (Nat.lt_of_lt_of_le h h1)]

theorem ok_turned {P : Program} {w : World} {K : PySem.W.Frag} {mg : Str → Option Value} {base : Heap} {fa : Nat → Addr} {fd : Nat → FuncData} (Z : Txt K mg fa fd) : FnOk P w K mg base CX0 1 (fa 2) (fd 2) ["number"] (spP K m_turned) := by
  obtain ⟨t_FULL, c_FULL⟩ := Z.c_FULL
  refine FnOk.imp (sp := spP K (G_turned (K := K))) ?_ (spP_imp fun ds m hm => e_turned ds m hm)
  refine Z.F_turned.ok sc_turned (spP_len runF_len) (fun cdv A outer s H vs Q E hr h => ?_)
  refine ⟨_, (pss_one (ps_ret (pe_op op_or (pe_op op_and (pe_op op_shl (pv 0) pe_int) (pe_glob (v := .int 18446744073709551615) rfl c_FULL ⟨_, rfl⟩)) (pe_op op_shr (pv 0) pe_int)))), ?_⟩
  exact pure_bodyF b_turned h
def lb_check_of_1 {K : PySem.W.Frag} := ((sSeq (sAsg (b2 (oII Builtin.bitXor) ((oCall m_turned noDfl (aCons (bVar 3) aNil))).h ((bVar 4)).h) (gN 3))
    (sAsg (b2 (oII Builtin.bitXor) ((oCall m_turned noDfl (aCons (bVar 3) aNil))).h ((bVar 5)).h) (gN 3))) : Sx K pn0 _)
def b_check_of {K : PySem.W.Frag} := ((sSeq (sAsg (b2 (oII Builtin.bitXor) ((oCall m_turned noDfl (aCons (b2 (oII fun i j => i + j) ((bVar 0)).h ((bInt 1)).h) aNil))).h ((bVar 1)).h) (gN 3))
    (sSeq (sFor (srcA (bVar 2)) (gT 2 (gsCons (gN 4) (gsCons (gN 5) gsNil))) (lb_check_of_1 (K := K)))
    (sRet (bVar 3)))) : Sx K pn0 _)
def G_check_of {K : PySem.W.Frag} (ds : List D) : Option M := runF 3 6 (b_check_of (K := K)).ev ds
def stepI (t n : Int) : Int := Builtin.bitXor (turnI t) n
def okN (n : Int) : Bool := decide (0 ≤ n ∧ n < 18446744073709551616)
theorem okN_iff {n : Int} : okN n = true ↔ 0 ≤ n ∧ n < 18446744073709551616 := decide_eq_true_iff
theorem stepI_ok {t n : Int} (h : okN t = true) (g : okN n = true) : okN (stepI t n) = true := by
  have a := okN_iff.mp h
  have b := okN_iff.mp g
  have c := turnI_lt t a.1 a.2
  exact okN_iff.mpr (xor_lt _ _ c.1 c.2 b.1 b.2)
def okR (rs : List (Int × Int)) : Bool := rs.all fun r => okN r.1 && okN r.2
def chkR (t : Int) (rs : List (Int × Int)) : Int := rs.foldl (fun t r => stepI (stepI t r.1) r.2) t
theorem chkR_ok : ∀ {rs : List (Int × Int)} {t : Int}, okN t = true → okR rs = true → okN (chkR t rs) = true
  | [], t, h, _ => h
  | r :: rs, t, h, g => by
    simp only [okR, List.all_cons, Bool.and_eq_true] at g
    show okN (chkR (stepI (stepI t r.1) r.2) rs) = true
    exact chkR_ok (stepI_ok (stepI_ok h g.1.1) g.1.2) g.2
def m_chk (o : D → Option (List D)) : List D → Option M
  | [.int s, .int d, X] => ((o X).bind pairsOf).bind fun rs => if okN (s + 1) = true ∧ okN d = true ∧ okR rs = true ∧ rs.length ≤ 1000 then some (.im (.int (chkR (stepI (s + 1) d) rs))) else none
  | _ => none
def m_check_of := m_chk D.asS
theorem t_turned_ok {v : Int} (h : okN v = true) : m_turned [.int v] = some (.im (.int (turnI v))) := m_turned_eq v (okN_iff.mp h).1 (okN_iff.mp h).2
theorem chk_step {K : PySem.W.Frag} (a b c d e : M) (t p q tt tu : Int) (h1 : m_turned [.int t] = some (.im (.int tt))) (h2 : m_turned [.int (Builtin.bitXor tt p)] = some (.im (.int tu))) :
    (lb_check_of_1 (K := K)).ev [a, b, c, .im (.int t), .im (.int p), .im (.int q)] = some (.nx [a, b, c, .im (.int (Builtin.bitXor tu q)), .im (.int p), .im (.int q)]) := by
  unfold lb_check_of_1
  simp [h1, h2]
theorem chk_run {K : PySem.W.Frag} (a b c : M) : ∀ (rs : List (Int × Int)) (t : Int) (d e : M), okN t = true → okR rs = true → ∃ d' e', forRun (gT (K := K) (pn := pn0) 2 (gsCons (gN 4) (gsCons (gN 5) gsNil))).asg (lb_check_of_1 (K := K)).ev (rowsD rs) [a, b, c, .im (.int t), d, e] = some (.nx [a, b, c, .im (.int (chkR t rs)), d', e'])
  | [], t, d, e, _, _ => ⟨d, e, rfl⟩
  | (p, q) :: rs, t, d, e, h, g => by
    simp only [okR, List.all_cons, Bool.and_eq_true] at g
    obtain ⟨d', e', ih⟩ := chk_run (K := K) a b c rs (stepI (stepI t p) q) (.im (.int p)) (.im (.int q)) (stepI_ok (stepI_ok h g.1.1) g.1.2) g.2
    refine ⟨d', e', (forRun_step (Γ1 := [a, b, c, .im (.int t), .im (.int p), .im (.int q)]) (Γ2 := [a, b, c, .im (.int (stepI (stepI t p) q)), .im (.int p), .im (.int q)]) ?_ ?_).trans ih⟩
    · simp [rowD]
    · exact chk_step a b c d e t p q _ _ (t_turned_ok h) (t_turned_ok (stepI_ok h g.1.1))
theorem check_core {K : PySem.W.Frag} (s d t x : Int) (X d' e' : D) (l : List D) (hX : X.asS = some l) (h1 : m_turned [.int (s + 1)] = some (.im (.int t))) (f' g' : M) (e : forRun (gT (K := K) (pn := pn0) 2 (gsCons (gN 4) (gsCons (gN 5) gsNil))).asg (lb_check_of_1 (K := K)).ev l [.im (.int s), .im (.int d), .im X, .im (.int (Builtin.bitXor t d)), .emp, .emp] = some (.nx [.im (.int s), .im (.int d), .im X, .im (.int x), f', g'])) :
    G_check_of (K := K) [.int s, .int d, X] = some (.im (.int x)) := by
  unfold G_check_of b_check_of
  simp [startG, h1, hX, e]
theorem m_chk_inv {o : D → Option (List D)} {ds : List D} {m : M} (h : m_chk o ds = some m) : ∃ s d X rs, ds = [.int s, .int d, X] ∧ o X = some (rowsD rs) ∧ okN (s + 1) = true ∧ okN d = true ∧ okR rs = true ∧ rs.length ≤ 1000 ∧ m = .im (.int (chkR (stepI (s + 1) d) rs)) := by
  unfold m_chk at h
  split at h
  · rename_i s d X
    obtain ⟨rs, h1, h⟩ := Option.bind_eq_some_iff.mp h
    obtain ⟨l, h2, h3⟩ := Option.bind_eq_some_iff.mp h1
    split at h
    · rename_i hc
      cases h
      exact ⟨s, d, X, rs, rfl, by rw [h2, pairsOf_eq h3], hc.1, hc.2.1, hc.2.2.1, hc.2.2.2, rfl⟩
    · cases h
  · cases h
theorem e_check_of {K : PySem.W.Frag} (ds : List D) (m : M) (h : m_check_of ds = some m) : G_check_of (K := K) ds = some m := by
  obtain ⟨s, d, X, rs, rfl, hX, h1, h2, h3, h4, rfl⟩ := m_chk_inv h
  obtain ⟨d', e', e⟩ := chk_run (K := K) (.im (.int s)) (.im (.int d)) (.im X) rs (stepI (s + 1) d) .emp .emp (stepI_ok h1 h2) h3
  exact check_core s d _ _ X .non .non _ hX (t_turned_ok h1) d' e' e

theorem ok_check_of {P : Program} {w : World} {K : PySem.W.Frag} {mg : Str → Option Value} {base : Heap} {fa : Nat → Addr} {fd : Nat → FuncData} (Z : Txt K mg fa fd) : FnOk P w K mg base CX0 2 (fa 3) (fd 3) ["start", "day", "rows"] (spP K m_check_of) := by
  refine FnOk.imp (sp := spP K (G_check_of (K := K))) ?_ (spP_imp fun ds m hm => e_check_of ds m hm)
  refine Z.F_check_of.ok sc_check_of (spP_len runF_len) (fun cdv A outer s H vs Q E hr h => ?_)
  refine ⟨_, (pss_cons (ps_set (i := 3) sc_check_of.nd rfl (Or.inl rfl) (pe_op op_xor (pe_call (ok_turned Z) (hr.mono (by decide)) (by rfl) Z.g_turned Z.F_turned.kp Z.b_turned .nil pass0 (pa_cons (pe_op op_add (pv 0) pe_int) pa_nil)) (pv 1)))
      (pss_cons (ps_for PassesOwn.never rfl (pi_seq (pv 2)) (pg_tup rfl (pgs_cons (pg_name (i := 4) sc_check_of.nd rfl (Or.inl rfl)) (pgs_cons (pg_name (i := 5) sc_check_of.nd rfl (Or.inl rfl)) pgs_nil))) (pss_cons (ps_set (i := 3) sc_check_of.nd rfl (Or.inl rfl) (pe_op op_xor (pe_call (ok_turned Z) (hr.mono (by decide)) (by rfl) Z.g_turned Z.F_turned.kp Z.b_turned .nil pass0 (pa_cons (pv 3) pa_nil)) (pv 4)))
      (pss_one (ps_set (i := 3) sc_check_of.nd rfl (Or.inl rfl) (pe_op op_xor (pe_call (ok_turned Z) (hr.mono (by decide)) (by rfl) Z.g_turned Z.F_turned.kp Z.b_turned .nil pass0 (pa_cons (pv 3) pa_nil)) (pv 5))))))
      (pss_one (ps_ret (pv 3))))), ?_⟩
  exact pure_bodyF b_check_of h
def b__law_cell {K : PySem.W.Frag} := ((sSeq (sIf (tTst (b2 (oIB fun i j => decide (i < j)) ((bVar 1)).h ((bCB oLen (ahCons ((bVar 0)).h aNil.h))).h).h) (sRet (bIxL (bVar 0) ((bVar 1)).h)) sNext)
    (sRet (b2 (oII fun i j => i + j) ((b2 (oIC CMul fun i j => i * j) ((bInt 37)).h ((bVar 1)).h)).h ((bInt 11)).h))) : Sx K pn0 _)
def G__law_cell {K : PySem.W.Frag} (ds : List D) : Option M := runF 2 2 (b__law_cell (K := K)).ev ds
def m_cell : List D → Option M
  | [.scr l, .int k] => if 0 ≤ k then (if k < (l.length : Int) then (l[k.toNat]?).map M.im else some (.im (.int (37 * k + 11)))) else none
  | _ => none
theorem e__law_cell {K : PySem.W.Frag} (ds : List D) (m : M) (h : m_cell ds = some m) : G__law_cell (K := K) ds = some m := by
  unfold m_cell at h
  split at h
  · rename_i l k
    split at h
    · rename_i h0
      have hc : CMul 37 k := .inl ⟨by decide, by decide⟩
      split at h
      · rename_i h1
        obtain ⟨d, e1, rfl⟩ := Option.map_eq_some_iff.mp h
        have e2 : atD l k = some d := by
          unfold atD atI ixN
          rw [if_pos h0, if_pos h1]
          exact e1
        unfold G__law_cell b__law_cell
        simp [runF, runP, startG, sSeq, sIf, sRet, sRetO, sRetV, sRetN, sNext, sAsg, sAsgO, sApp, sFor, sDrop, sAug, sBrk, sCont, gN, gT, gsCons, gsNil, b2, oIC, oII, oIB, oEq, oNe, bVar, hVar, bInt, bStr, bBl, bNon, bC, bTy, bNeg, bIsN, bNotN, bAnV, bOrV, bNtV, bIf, bChain, Pb.h, Ph.s, Po.b, Po.h, Ab.h, tTst, tBv, tNt, tAn, tO, eqD, D.toP, asB, D.sc, D.isNon, D.asL, D.asS, D.tyn, sh_i, sh_b, oEqS, oNeS, eqS, ev_ii, ev_ss, ev_bb, aNil, aCons, ahCons, oLst, oTup, hTup, hLst, bCB, oLen, oLenS, oIsi, oInt1, oMin2, oMax2, oCBL, oList, o2L, oCat, oSlL, noPart, aPart, oLc, yTst, srcL, srcT, srcR1, srcR2, srcS, srcE, srcZ, bIxL, bIxT, hIxL, oCall, hCall, bCall, noDfl, M.fz, M.fzs, lineD, pn0, outM, kit_ii, kit_ib, kit_bi, kit_bb, kit_ll, kit_tt, kit_ss, h1, e2]
      · rename_i h1
        cases h
        unfold G__law_cell b__law_cell
        simp [runF, runP, startG, sSeq, sIf, sRet, sRetO, sRetV, sRetN, sNext, sAsg, sAsgO, sApp, sFor, sDrop, sAug, sBrk, sCont, gN, gT, gsCons, gsNil, b2, oIC, oII, oIB, oEq, oNe, bVar, hVar, bInt, bStr, bBl, bNon, bC, bTy, bNeg, bIsN, bNotN, bAnV, bOrV, bNtV, bIf, bChain, Pb.h, Ph.s, Po.b, Po.h, Ab.h, tTst, tBv, tNt, tAn, tO, eqD, D.toP, asB, D.sc, D.isNon, D.asL, D.asS, D.tyn, sh_i, sh_b, oEqS, oNeS, eqS, ev_ii, ev_ss, ev_bb, aNil, aCons, ahCons, oLst, oTup, hTup, hLst, bCB, oLen, oLenS, oIsi, oInt1, oMin2, oMax2, oCBL, oList, o2L, oCat, oSlL, noPart, aPart, oLc, yTst, srcL, srcT, srcR1, srcR2, srcS, srcE, srcZ, bIxL, bIxT, hIxL, oCall, hCall, bCall, noDfl, M.fz, M.fzs, lineD, pn0, outM, kit_ii, kit_ib, kit_bi, kit_bb, kit_ll, kit_tt, kit_ss, h1, hc]
    · cases h
  · cases h

theorem ok__law_cell {P : Program} {w : World} {K : PySem.W.Frag} {mg : Str → Option Value} {base : Heap} {fa : Nat → Addr} {fd : Nat → FuncData} (Z : Txt K mg fa fd) : FnOk P w K mg base CX0 1 (fa 5) (fd 5) ["_law_script", "_law_k"] (spP K m_cell) := by
  refine FnOk.imp (sp := spP K (G__law_cell (K := K))) ?_ (spP_imp fun ds m hm => e__law_cell ds m hm)
  refine Z.F__law_cell.ok sc__law_cell (spP_len runF_len) (fun cdv A outer s H vs Q E hr h => ?_)
  refine ⟨_, (pss_cons (ps_if (pt_cmpR op_lt (pv 1) (pe_callB call_len_seq (by rfl) Z.z_len (by decide +kernel) (pa_cons (pv 0) pa_nil)) (nomark _)) (pss_one (ps_ret (pe_ix ix_list (pv 0) (pv 1) (fun _ _ => rfl)))) pss_nil)
      (pss_one (ps_ret (pe_op op_add (pe_op op_mul pe_int (pv 1)) pe_int)))), ?_⟩
  exact pure_bodyF b__law_cell h
def b__law_whole {K : PySem.W.Frag} := ((sRet (bAnV ((bCB oIsi (ahCons ((bVar 0)).h (ahCons ((bTy "int")).h aNil.h)))).h ((bNtV ((bCB oIsi (ahCons ((bVar 0)).h (ahCons ((bTy "bool")).h aNil.h)))).h)).h)) : Sx K pn0 _)
def G__law_whole {K : PySem.W.Frag} (ds : List D) : Option M := runF 1 1 (b__law_whole (K := K)).ev ds
def m_whole : List D → Option M
  | [.int _] => some (.im (.bl true))
  | _ => none
theorem e__law_whole {K : PySem.W.Frag} (ds : List D) (m : M) (h : m_whole ds = some m) : G__law_whole (K := K) ds = some m := by
  unfold m_whole at h
  split at h
  · cases h
    unfold G__law_whole b__law_whole
    simp [runF, runP, startG, sSeq, sIf, sRet, sRetO, sRetV, sRetN, sNext, sAsg, sAsgO, sApp, sFor, sDrop, sAug, sBrk, sCont, gN, gT, gsCons, gsNil, b2, oIC, oII, oIB, oEq, oNe, bVar, hVar, bInt, bStr, bBl, bNon, bC, bTy, bNeg, bIsN, bNotN, bAnV, bOrV, bNtV, bIf, bChain, Pb.h, Ph.s, Po.b, Po.h, Ab.h, tTst, tBv, tNt, tAn, tO, eqD, D.toP, asB, D.sc, D.isNon, D.asL, D.asS, D.tyn, sh_i, sh_b, oEqS, oNeS, eqS, ev_ii, ev_ss, ev_bb, aNil, aCons, ahCons, oLst, oTup, hTup, hLst, bCB, oLen, oLenS, oIsi, oInt1, oMin2, oMax2, oCBL, oList, o2L, oCat, oSlL, noPart, aPart, oLc, yTst, srcL, srcT, srcR1, srcR2, srcS, srcE, srcZ, bIxL, bIxT, hIxL, oCall, hCall, bCall, noDfl, M.fz, M.fzs, lineD, pn0, outM, kit_ii, kit_ib, kit_bi, kit_bb, kit_ll, kit_tt, kit_ss]
  · cases h

theorem ok__law_whole {P : Program} {w : World} {K : PySem.W.Frag} {mg : Str → Option Value} {base : Heap} {fa : Nat → Addr} {fd : Nat → FuncData} (Z : Txt K mg fa fd) : FnOk P w K mg base CX0 1 (fa 6) (fd 6) ["_law_found"] (spP K m_whole) := by
  refine FnOk.imp (sp := spP K (G__law_whole (K := K))) ?_ (spP_imp fun ds m hm => e__law_whole ds m hm)
  refine Z.F__law_whole.ok sc__law_whole (spP_len runF_len) (fun cdv A outer s H vs Q E hr h => ?_)
  refine ⟨_, (pss_one (ps_ret (pe_and (pe_callB call_isi (by rfl) Z.z_isinstance (by decide +kernel) (pa_cons (pv 0) (pa_cons (pe_bltn (v := .ty "int") (u := .type "int") (by rfl) Z.z_int (by decide +kernel) rfl) pa_nil))) (pe_one (pe_not (pe_callB call_isi (by rfl) Z.z_isinstance (by decide +kernel) (pa_cons (pv 0) (pa_cons (pe_bltn (v := .ty "bool") (u := .type "bool") (by rfl) Z.z_bool (by decide +kernel) rfl) pa_nil)))))))), ?_⟩
  exact pure_bodyF b__law_whole h
def b__law_stir {K : PySem.W.Frag} := ((sSeq (sAsg (b2 (oIC (fun _ j => 0 < j) fun i j => i % j) ((b2 (oIC CMul fun i j => i * j) ((b2 (oII fun i j => i + j) ((bVar 0)).h ((b2 (oIC CMul fun i j => i * j) ((bInt 7919)).h ((bVar 1)).h)).h)).h ((bInt 48271)).h)).h ((bInt 2147483647)).h) (gN 2))
    (sRet (b2 (oIC (fun _ j => 0 < j) fun i j => i % j) ((b2 (oIC CMul fun i j => i * j) ((bVar 2)).h ((bVar 2)).h)).h ((bInt 2147483629)).h))) : Sx K pn0 _)
def G__law_stir {K : PySem.W.Frag} (ds : List D) : Option M := runF 2 3 (b__law_stir (K := K)).ev ds
def stirI (c k : Int) : Int := ((c + 7919 * k) * 48271 % 2147483647) * ((c + 7919 * k) * 48271 % 2147483647) % 2147483629
theorem stirI_lt (c k : Int) : 0 ≤ stirI c k ∧ stirI c k < 2147483629 := by unfold stirI; omega
def m_stir : List D → Option M
  | [.int c, .int k] => some (.im (.int (stirI c k)))
  | _ => none
theorem e__law_stir {K : PySem.W.Frag} (ds : List D) (m : M) (h : m_stir ds = some m) : G__law_stir (K := K) ds = some m := by
  unfold m_stir at h
  split at h
  · rename_i c k
    cases h
    have h1 : CMul 7919 k := .inl ⟨by decide, by decide⟩
    have h2 : CMul (c + 7919 * k) 48271 := .inr ⟨by decide, by decide⟩
    have h3 : CMul ((c + 7919 * k) * 48271 % 2147483647) ((c + 7919 * k) * 48271 % 2147483647) := .inl ⟨by omega, by omega⟩
    unfold G__law_stir b__law_stir
    simp [runF, runP, startG, sSeq, sIf, sRet, sRetO, sRetV, sRetN, sNext, sAsg, sAsgO, sApp, sFor, sDrop, sAug, sBrk, sCont, gN, gT, gsCons, gsNil, b2, oIC, oII, oIB, oEq, oNe, bVar, hVar, bInt, bStr, bBl, bNon, bC, bTy, bNeg, bIsN, bNotN, bAnV, bOrV, bNtV, bIf, bChain, Pb.h, Ph.s, Po.b, Po.h, Ab.h, tTst, tBv, tNt, tAn, tO, eqD, D.toP, asB, D.sc, D.isNon, D.asL, D.asS, D.tyn, sh_i, sh_b, oEqS, oNeS, eqS, ev_ii, ev_ss, ev_bb, aNil, aCons, ahCons, oLst, oTup, hTup, hLst, bCB, oLen, oLenS, oIsi, oInt1, oMin2, oMax2, oCBL, oList, o2L, oCat, oSlL, noPart, aPart, oLc, yTst, srcL, srcT, srcR1, srcR2, srcS, srcE, srcZ, bIxL, bIxT, hIxL, oCall, hCall, bCall, noDfl, M.fz, M.fzs, lineD, pn0, outM, kit_ii, kit_ib, kit_bi, kit_bb, kit_ll, kit_tt, kit_ss, h1, h2, h3, stirI]
  · cases h

theorem ok__law_stir {P : Program} {w : World} {K : PySem.W.Frag} {mg : Str → Option Value} {base : Heap} {fa : Nat → Addr} {fd : Nat → FuncData} (Z : Txt K mg fa fd) : FnOk P w K mg base CX0 1 (fa 7) (fd 7) ["_law_cell_here", "_law_k"] (spP K m_stir) := by
  refine FnOk.imp (sp := spP K (G__law_stir (K := K))) ?_ (spP_imp fun ds m hm => e__law_stir ds m hm)
  refine Z.F__law_stir.ok sc__law_stir (spP_len runF_len) (fun cdv A outer s H vs Q E hr h => ?_)
  refine ⟨_, (pss_cons (ps_set (i := 2) sc__law_stir.nd rfl (Or.inl rfl) (pe_op op_mod (pe_op op_mul (pe_op op_add (pv 0) (pe_op op_mul pe_int (pv 1))) pe_int) pe_int))
      (pss_one (ps_ret (pe_op op_mod (pe_op op_mul (pv 2) (pv 2)) pe_int)))), ?_⟩
  exact pure_bodyF b__law_stir h
def b__law_block {K : PySem.W.Frag} := ((sSeq (sIf (tTst (b2 oEqS ((b2 (oIC (fun _ j => 0 < j) fun i j => i % j) ((b2 (oII fun i j => i + j) ((bVar 0)).h ((bVar 1)).h)).h ((bInt 4)).h)).h ((bInt 0)).h).h) (sRet (b2 (oIC (fun _ j => 0 < j) fun i j => i % j) ((b2 (oII fun i j => i + j) ((b2 (oIC CDiv fun i j => i / j) ((bVar 0)).h ((bInt 4)).h)).h ((bVar 1)).h)).h ((bInt 3)).h)) sNext)
    (sSeq (sIf (tTst (b2 oEqS ((b2 (oIC (fun _ j => 0 < j) fun i j => i % j) ((b2 (oII fun i j => i + j) ((bVar 0)).h ((bVar 1)).h)).h ((bInt 4)).h)).h ((bInt 1)).h).h) (sRet (b2 (oII fun i j => i - j) ((b2 (oII fun i j => i - j) ((b2 (oIC CPow fun i j => i ^ j.toNat) ((bInt 2)).h ((bInt 64)).h)).h ((bInt 1)).h)).h ((b2 (oIC (fun _ j => 0 < j) fun i j => i % j) ((b2 (oII fun i j => i + j) ((b2 (oIC CDiv fun i j => i / j) ((bVar 0)).h ((bInt 4)).h)).h ((bVar 1)).h)).h ((bInt 3)).h)).h)) sNext)
    (sSeq (sIf (tTst (b2 oEqS ((b2 (oIC (fun _ j => 0 < j) fun i j => i % j) ((b2 (oII fun i j => i + j) ((bVar 0)).h ((bVar 1)).h)).h ((bInt 4)).h)).h ((bInt 2)).h).h) (sRet (b2 (oIC (fun _ j => 0 < j) fun i j => i % j) ((bVar 0)).h ((b2 (oIC CPow fun i j => i ^ j.toNat) ((bInt 2)).h ((bInt 64)).h)).h)) sNext)
    (sRet (b2 (oIC (fun _ j => 0 < j) fun i j => i % j) ((b2 (oII fun i j => i + j) ((b2 (oIC CMul fun i j => i * j) ((oCall m_stir noDfl (aCons (bVar 0) (aCons (bVar 1) aNil)))).h ((b2 (oIC CPow fun i j => i ^ j.toNat) ((bInt 2)).h ((bInt 33)).h)).h)).h ((oCall m_stir noDfl (aCons (bVar 0) (aCons (b2 (oII fun i j => i + j) ((bVar 1)).h ((bInt 50)).h) aNil)))).h)).h ((b2 (oIC CPow fun i j => i ^ j.toNat) ((bInt 2)).h ((bInt 64)).h)).h))))) : Sx K pn0 _)
def G__law_block {K : PySem.W.Frag} (ds : List D) : Option M := runF 2 2 (b__law_block (K := K)).ev ds
def blockI (c k : Int) : Int := if (c + k) % 4 = 0 then (c / 4 + k) % 3 else if (c + k) % 4 = 1 then 18446744073709551615 - (c / 4 + k) % 3 else if (c + k) % 4 = 2 then c % 18446744073709551616 else (stirI c k * 8589934592 + stirI c (k + 50)) % 18446744073709551616
theorem blockI_lt (c k : Int) : 0 ≤ blockI c k ∧ blockI c k < 18446744073709551616 := by
  unfold blockI
  split
  · omega
  · split
    · omega
    · split <;> omega
def m_block : List D → Option M
  | [.int c, .int k] => some (.im (.int (blockI c k)))
  | _ => none
theorem e__law_block {K : PySem.W.Frag} (ds : List D) (m : M) (h : m_block ds = some m) : G__law_block (K := K) ds = some m := by
  unfold m_block at h
  split at h
  · rename_i c k
    cases h
    have h1 : ∀ x : Int, CMul x 8589934592 := fun x => .inr ⟨by decide, by decide⟩
    have s : ∀ x y : Int, m_stir [.int x, .int y] = some (.im (.int (stirI x y))) := fun _ _ => rfl
    unfold G__law_block b__law_block blockI
    by_cases g0 : (c + k) % 4 = 0
    · simp [runF, runP, startG, sSeq, sIf, sRet, sRetO, sRetV, sRetN, sNext, sAsg, sAsgO, sApp, sFor, sDrop, sAug, sBrk, sCont, gN, gT, gsCons, gsNil, b2, oIC, oII, oIB, oEq, oNe, bVar, hVar, bInt, bStr, bBl, bNon, bC, bTy, bNeg, bIsN, bNotN, bAnV, bOrV, bNtV, bIf, bChain, Pb.h, Ph.s, Po.b, Po.h, Ab.h, tTst, tBv, tNt, tAn, tO, eqD, D.toP, asB, D.sc, D.isNon, D.asL, D.asS, D.tyn, sh_i, sh_b, oEqS, oNeS, eqS, ev_ii, ev_ss, ev_bb, aNil, aCons, ahCons, oLst, oTup, hTup, hLst, bCB, oLen, oLenS, oIsi, oInt1, oMin2, oMax2, oCBL, oList, o2L, oCat, oSlL, noPart, aPart, oLc, yTst, srcL, srcT, srcR1, srcR2, srcS, srcE, srcZ, bIxL, bIxT, hIxL, oCall, hCall, bCall, noDfl, M.fz, M.fzs, lineD, pn0, outM, kit_ii, kit_ib, kit_bi, kit_bb, kit_ll, kit_tt, kit_ss, g0, CDiv]
    · by_cases g1 : (c + k) % 4 = 1
      · simp [runF, runP, startG, sSeq, sIf, sRet, sRetO, sRetV, sRetN, sNext, sAsg, sAsgO, sApp, sFor, sDrop, sAug, sBrk, sCont, gN, gT, gsCons, gsNil, b2, oIC, oII, oIB, oEq, oNe, bVar, hVar, bInt, bStr, bBl, bNon, bC, bTy, bNeg, bIsN, bNotN, bAnV, bOrV, bNtV, bIf, bChain, Pb.h, Ph.s, Po.b, Po.h, Ab.h, tTst, tBv, tNt, tAn, tO, eqD, D.toP, asB, D.sc, D.isNon, D.asL, D.asS, D.tyn, sh_i, sh_b, oEqS, oNeS, eqS, ev_ii, ev_ss, ev_bb, aNil, aCons, ahCons, oLst, oTup, hTup, hLst, bCB, oLen, oLenS, oIsi, oInt1, oMin2, oMax2, oCBL, oList, o2L, oCat, oSlL, noPart, aPart, oLc, yTst, srcL, srcT, srcR1, srcR2, srcS, srcE, srcZ, bIxL, bIxT, hIxL, oCall, hCall, bCall, noDfl, M.fz, M.fzs, lineD, pn0, outM, kit_ii, kit_ib, kit_bi, kit_bb, kit_ll, kit_tt, kit_ss, g0, g1, CDiv, CPow]
      · by_cases g2 : (c + k) % 4 = 2
        · simp [runF, runP, startG, sSeq, sIf, sRet, sRetO, sRetV, sRetN, sNext, sAsg, sAsgO, sApp, sFor, sDrop, sAug, sBrk, sCont, gN, gT, gsCons, gsNil, b2, oIC, oII, oIB, oEq, oNe, bVar, hVar, bInt, bStr, bBl, bNon, bC, bTy, bNeg, bIsN, bNotN, bAnV, bOrV, bNtV, bIf, bChain, Pb.h, Ph.s, Po.b, Po.h, Ab.h, tTst, tBv, tNt, tAn, tO, eqD, D.toP, asB, D.sc, D.isNon, D.asL, D.asS, D.tyn, sh_i, sh_b, oEqS, oNeS, eqS, ev_ii, ev_ss, ev_bb, aNil, aCons, ahCons, oLst, oTup, hTup, hLst, bCB, oLen, oLenS, oIsi, oInt1, oMin2, oMax2, oCBL, oList, o2L, oCat, oSlL, noPart, aPart, oLc, yTst, srcL, srcT, srcR1, srcR2, srcS, srcE, srcZ, bIxL, bIxT, hIxL, oCall, hCall, bCall, noDfl, M.fz, M.fzs, lineD, pn0, outM, kit_ii, kit_ib, kit_bi, kit_bb, kit_ll, kit_tt, kit_ss, g0, g1, g2, CPow]
        · simp [runF, runP, startG, sSeq, sIf, sRet, sRetO, sRetV, sRetN, sNext, sAsg, sAsgO, sApp, sFor, sDrop, sAug, sBrk, sCont, gN, gT, gsCons, gsNil, b2, oIC, oII, oIB, oEq, oNe, bVar, hVar, bInt, bStr, bBl, bNon, bC, bTy, bNeg, bIsN, bNotN, bAnV, bOrV, bNtV, bIf, bChain, Pb.h, Ph.s, Po.b, Po.h, Ab.h, tTst, tBv, tNt, tAn, tO, eqD, D.toP, asB, D.sc, D.isNon, D.asL, D.asS, D.tyn, sh_i, sh_b, oEqS, oNeS, eqS, ev_ii, ev_ss, ev_bb, aNil, aCons, ahCons, oLst, oTup, hTup, hLst, bCB, oLen, oLenS, oIsi, oInt1, oMin2, oMax2, oCBL, oList, o2L, oCat, oSlL, noPart, aPart, oLc, yTst, srcL, srcT, srcR1, srcR2, srcS, srcE, srcZ, bIxL, bIxT, hIxL, oCall, hCall, bCall, noDfl, M.fz, M.fzs, lineD, pn0, outM, kit_ii, kit_ib, kit_bi, kit_bb, kit_ll, kit_tt, kit_ss, g0, g1, g2, CPow, h1, s]
  · cases h

theorem ok__law_block {P : Program} {w : World} {K : PySem.W.Frag} {mg : Str → Option Value} {base : Heap} {fa : Nat → Addr} {fd : Nat → FuncData} (Z : Txt K mg fa fd) : FnOk P w K mg base CX0 2 (fa 8) (fd 8) ["_law_cell_here", "_law_k"] (spP K m_block) := by
  refine FnOk.imp (sp := spP K (G__law_block (K := K))) ?_ (spP_imp fun ds m hm => e__law_block ds m hm)
  refine Z.F__law_block.ok sc__law_block (spP_len runF_len) (fun cdv A outer s H vs Q E hr h => ?_)
  refine ⟨_, (pss_cons (ps_if (pt_cmpR op_eq (pe_op op_mod (pe_op op_add (pv 0) (pv 1)) pe_int) pe_int (nomark _)) (pss_one (ps_ret (pe_op op_mod (pe_op op_add (pe_op op_fdiv (pv 0) pe_int) (pv 1)) pe_int))) pss_nil)
      (pss_cons (ps_if (pt_cmpR op_eq (pe_op op_mod (pe_op op_add (pv 0) (pv 1)) pe_int) pe_int (nomark _)) (pss_one (ps_ret (pe_op op_sub (pe_op op_sub (pe_op op_pow pe_int pe_int) pe_int) (pe_op op_mod (pe_op op_add (pe_op op_fdiv (pv 0) pe_int) (pv 1)) pe_int)))) pss_nil)
      (pss_cons (ps_if (pt_cmpR op_eq (pe_op op_mod (pe_op op_add (pv 0) (pv 1)) pe_int) pe_int (nomark _)) (pss_one (ps_ret (pe_op op_mod (pv 0) (pe_op op_pow pe_int pe_int)))) pss_nil)
      (pss_one (ps_ret (pe_op op_mod (pe_op op_add (pe_op op_mul (pe_call (ok__law_stir Z) (hr.mono (by decide)) (by rfl) Z.g__law_stir Z.F__law_stir.kp Z.b__law_stir .nil pass0 (pa_cons (pv 0) (pa_cons (pv 1) pa_nil))) (pe_op op_pow pe_int pe_int)) (pe_call (ok__law_stir Z) (hr.mono (by decide)) (by rfl) Z.g__law_stir Z.F__law_stir.kp Z.b__law_stir .nil pass0 (pa_cons (pv 0) (pa_cons (pe_op op_add (pv 1) pe_int) pa_nil)))) (pe_op op_pow pe_int pe_int))))))), ?_⟩
  exact pure_bodyF b__law_block h
def b__law_start {K : PySem.W.Frag} := ((sRet (bIxL ((oLst (aCons (bNeg ((bInt 1)).h) (aCons (b2 (oIC (fun _ j => 0 < j) fun i j => i % j) ((b2 (oIC CDiv fun i j => i / j) ((bVar 0)).h ((bInt 3)).h)).h ((bInt 12)).h) (aCons (b2 (oIC (fun _ j => 0 < j) fun i j => i % j) ((b2 (oIC CDiv fun i j => i / j) ((bVar 0)).h ((bInt 3)).h)).h ((b2 (oII fun i j => i + j) ((b2 (oIC CPow fun i j => i ^ j.toNat) ((bInt 10)).h ((bInt 9)).h)).h ((bInt 1)).h)).h) aNil))))).b ((b2 (oIC (fun _ j => 0 < j) fun i j => i % j) ((bVar 0)).h ((bInt 3)).h)).h)) : Sx K pn0 _)
def G__law_start {K : PySem.W.Frag} (ds : List D) : Option M := runF 1 1 (b__law_start (K := K)).ev ds
def startI (c : Int) : Int := if c % 3 = 0 then -1 else if c % 3 = 1 then c / 3 % 12 else c / 3 % 1000000001
theorem startI_lt (c : Int) : -1 ≤ startI c ∧ startI c ≤ 1000000000 := by unfold startI; split <;> (try split) <;> omega
def m_start : List D → Option M
  | [.int c] => some (.im (.int (startI c)))
  | _ => none
theorem mod3 (c : Int) : c % 3 = 0 ∨ c % 3 = 1 ∨ c % 3 = 2 := by omega
theorem e__law_start {K : PySem.W.Frag} (ds : List D) (m : M) (h : m_start ds = some m) : G__law_start (K := K) ds = some m := by
  unfold m_start at h
  split at h
  · rename_i c
    cases h
    unfold G__law_start b__law_start startI
    rcases mod3 c with g | g | g
    · simp [runF, runP, startG, sSeq, sIf, sRet, sRetO, sRetV, sRetN, sNext, sAsg, sAsgO, sApp, sFor, sDrop, sAug, sBrk, sCont, gN, gT, gsCons, gsNil, b2, oIC, oII, oIB, oEq, oNe, bVar, hVar, bInt, bStr, bBl, bNon, bC, bTy, bNeg, bIsN, bNotN, bAnV, bOrV, bNtV, bIf, bChain, Pb.h, Ph.s, Po.b, Po.h, Ab.h, tTst, tBv, tNt, tAn, tO, eqD, D.toP, asB, D.sc, D.isNon, D.asL, D.asS, D.tyn, sh_i, sh_b, oEqS, oNeS, eqS, ev_ii, ev_ss, ev_bb, aNil, aCons, ahCons, oLst, oTup, hTup, hLst, bCB, oLen, oLenS, oIsi, oInt1, oMin2, oMax2, oCBL, oList, o2L, oCat, oSlL, noPart, aPart, oLc, yTst, srcL, srcT, srcR1, srcR2, srcS, srcE, srcZ, bIxL, bIxT, hIxL, oCall, hCall, bCall, noDfl, M.fz, M.fzs, lineD, pn0, outM, kit_ii, kit_ib, kit_bi, kit_bb, kit_ll, kit_tt, kit_ss, g, CDiv, CPow]
    · simp [runF, runP, startG, sSeq, sIf, sRet, sRetO, sRetV, sRetN, sNext, sAsg, sAsgO, sApp, sFor, sDrop, sAug, sBrk, sCont, gN, gT, gsCons, gsNil, b2, oIC, oII, oIB, oEq, oNe, bVar, hVar, bInt, bStr, bBl, bNon, bC, bTy, bNeg, bIsN, bNotN, bAnV, bOrV, bNtV, bIf, bChain, Pb.h, Ph.s, Po.b, Po.h, Ab.h, tTst, tBv, tNt, tAn, tO, eqD, D.toP, asB, D.sc, D.isNon, D.asL, D.asS, D.tyn, sh_i, sh_b, oEqS, oNeS, eqS, ev_ii, ev_ss, ev_bb, aNil, aCons, ahCons, oLst, oTup, hTup, hLst, bCB, oLen, oLenS, oIsi, oInt1, oMin2, oMax2, oCBL, oList, o2L, oCat, oSlL, noPart, aPart, oLc, yTst, srcL, srcT, srcR1, srcR2, srcS, srcE, srcZ, bIxL, bIxT, hIxL, oCall, hCall, bCall, noDfl, M.fz, M.fzs, lineD, pn0, outM, kit_ii, kit_ib, kit_bi, kit_bb, kit_ll, kit_tt, kit_ss, g, CDiv, CPow]
    · simp [runF, runP, startG, sSeq, sIf, sRet, sRetO, sRetV, sRetN, sNext, sAsg, sAsgO, sApp, sFor, sDrop, sAug, sBrk, sCont, gN, gT, gsCons, gsNil, b2, oIC, oII, oIB, oEq, oNe, bVar, hVar, bInt, bStr, bBl, bNon, bC, bTy, bNeg, bIsN, bNotN, bAnV, bOrV, bNtV, bIf, bChain, Pb.h, Ph.s, Po.b, Po.h, Ab.h, tTst, tBv, tNt, tAn, tO, eqD, D.toP, asB, D.sc, D.isNon, D.asL, D.asS, D.tyn, sh_i, sh_b, oEqS, oNeS, eqS, ev_ii, ev_ss, ev_bb, aNil, aCons, ahCons, oLst, oTup, hTup, hLst, bCB, oLen, oLenS, oIsi, oInt1, oMin2, oMax2, oCBL, oList, o2L, oCat, oSlL, noPart, aPart, oLc, yTst, srcL, srcT, srcR1, srcR2, srcS, srcE, srcZ, bIxL, bIxT, hIxL, oCall, hCall, bCall, noDfl, M.fz, M.fzs, lineD, pn0, outM, kit_ii, kit_ib, kit_bi, kit_bb, kit_ll, kit_tt, kit_ss, g, CDiv, CPow]
  · cases h

theorem ok__law_start {P : Program} {w : World} {K : PySem.W.Frag} {mg : Str → Option Value} {base : Heap} {fa : Nat → Addr} {fd : Nat → FuncData} (Z : Txt K mg fa fd) : FnOk P w K mg base CX0 1 (fa 9) (fd 9) ["_law_cell_here"] (spP K m_start) := by
  refine FnOk.imp (sp := spP K (G__law_start (K := K))) ?_ (spP_imp fun ds m hm => e__law_start ds m hm)
  refine Z.F__law_start.ok sc__law_start (spP_len runF_len) (fun cdv A outer s H vs Q E hr h => ?_)
  refine ⟨_, (pss_one (ps_ret (pe_ix ix_list (pe_lst (pa_cons (pe_un un_neg pe_int) (pa_cons (pe_op op_mod (pe_op op_fdiv (pv 0) pe_int) pe_int) (pa_cons (pe_op op_mod (pe_op op_fdiv (pv 0) pe_int) (pe_op op_add (pe_op op_pow pe_int pe_int) pe_int)) pa_nil)))) (pe_op op_mod (pv 0) pe_int) (fun _ _ => rfl)))), ?_⟩
  exact pure_bodyF b__law_start h
def b__law_day {K : PySem.W.Frag} := ((sRet (bIxL ((oLst (aCons (b2 (oIC (fun _ j => 0 < j) fun i j => i % j) ((b2 (oIC CDiv fun i j => i / j) ((bVar 0)).h ((bInt 3)).h)).h ((bInt 12)).h) (aCons (b2 (oII fun i j => i - j) ((b2 (oIC CPow fun i j => i ^ j.toNat) ((bInt 10)).h ((bInt 9)).h)).h ((b2 (oIC (fun _ j => 0 < j) fun i j => i % j) ((b2 (oIC CDiv fun i j => i / j) ((bVar 0)).h ((bInt 3)).h)).h ((bInt 3)).h)).h) (aCons (b2 (oIC (fun _ j => 0 < j) fun i j => i % j) ((b2 (oIC CDiv fun i j => i / j) ((bVar 0)).h ((bInt 3)).h)).h ((b2 (oII fun i j => i + j) ((b2 (oIC CPow fun i j => i ^ j.toNat) ((bInt 10)).h ((bInt 9)).h)).h ((bInt 1)).h)).h) aNil))))).b ((b2 (oIC (fun _ j => 0 < j) fun i j => i % j) ((bVar 0)).h ((bInt 3)).h)).h)) : Sx K pn0 _)
def G__law_day {K : PySem.W.Frag} (ds : List D) : Option M := runF 1 1 (b__law_day (K := K)).ev ds
def dayI (c : Int) : Int := if c % 3 = 0 then c / 3 % 12 else if c % 3 = 1 then 1000000000 - c / 3 % 3 else c / 3 % 1000000001
theorem dayI_lt (c : Int) : 0 ≤ dayI c ∧ dayI c ≤ 1000000000 := by unfold dayI; split <;> (try split) <;> omega
def m_day : List D → Option M
  | [.int c] => some (.im (.int (dayI c)))
  | _ => none
theorem e__law_day {K : PySem.W.Frag} (ds : List D) (m : M) (h : m_day ds = some m) : G__law_day (K := K) ds = some m := by
  unfold m_day at h
  split at h
  · rename_i c
    cases h
    unfold G__law_day b__law_day dayI
    rcases mod3 c with g | g | g
    · simp [runF, runP, startG, sSeq, sIf, sRet, sRetO, sRetV, sRetN, sNext, sAsg, sAsgO, sApp, sFor, sDrop, sAug, sBrk, sCont, gN, gT, gsCons, gsNil, b2, oIC, oII, oIB, oEq, oNe, bVar, hVar, bInt, bStr, bBl, bNon, bC, bTy, bNeg, bIsN, bNotN, bAnV, bOrV, bNtV, bIf, bChain, Pb.h, Ph.s, Po.b, Po.h, Ab.h, tTst, tBv, tNt, tAn, tO, eqD, D.toP, asB, D.sc, D.isNon, D.asL, D.asS, D.tyn, sh_i, sh_b, oEqS, oNeS, eqS, ev_ii, ev_ss, ev_bb, aNil, aCons, ahCons, oLst, oTup, hTup, hLst, bCB, oLen, oLenS, oIsi, oInt1, oMin2, oMax2, oCBL, oList, o2L, oCat, oSlL, noPart, aPart, oLc, yTst, srcL, srcT, srcR1, srcR2, srcS, srcE, srcZ, bIxL, bIxT, hIxL, oCall, hCall, bCall, noDfl, M.fz, M.fzs, lineD, pn0, outM, kit_ii, kit_ib, kit_bi, kit_bb, kit_ll, kit_tt, kit_ss, g, CDiv, CPow]
    · simp [runF, runP, startG, sSeq, sIf, sRet, sRetO, sRetV, sRetN, sNext, sAsg, sAsgO, sApp, sFor, sDrop, sAug, sBrk, sCont, gN, gT, gsCons, gsNil, b2, oIC, oII, oIB, oEq, oNe, bVar, hVar, bInt, bStr, bBl, bNon, bC, bTy, bNeg, bIsN, bNotN, bAnV, bOrV, bNtV, bIf, bChain, Pb.h, Ph.s, Po.b, Po.h, Ab.h, tTst, tBv, tNt, tAn, tO, eqD, D.toP, asB, D.sc, D.isNon, D.asL, D.asS, D.tyn, sh_i, sh_b, oEqS, oNeS, eqS, ev_ii, ev_ss, ev_bb, aNil, aCons, ahCons, oLst, oTup, hTup, hLst, bCB, oLen, oLenS, oIsi, oInt1, oMin2, oMax2, oCBL, oList, o2L, oCat, oSlL, noPart, aPart, oLc, yTst, srcL, srcT, srcR1, srcR2, srcS, srcE, srcZ, bIxL, bIxT, hIxL, oCall, hCall, bCall, noDfl, M.fz, M.fzs, lineD, pn0, outM, kit_ii, kit_ib, kit_bi, kit_bb, kit_ll, kit_tt, kit_ss, g, CDiv, CPow]
    · simp [runF, runP, startG, sSeq, sIf, sRet, sRetO, sRetV, sRetN, sNext, sAsg, sAsgO, sApp, sFor, sDrop, sAug, sBrk, sCont, gN, gT, gsCons, gsNil, b2, oIC, oII, oIB, oEq, oNe, bVar, hVar, bInt, bStr, bBl, bNon, bC, bTy, bNeg, bIsN, bNotN, bAnV, bOrV, bNtV, bIf, bChain, Pb.h, Ph.s, Po.b, Po.h, Ab.h, tTst, tBv, tNt, tAn, tO, eqD, D.toP, asB, D.sc, D.isNon, D.asL, D.asS, D.tyn, sh_i, sh_b, oEqS, oNeS, eqS, ev_ii, ev_ss, ev_bb, aNil, aCons, ahCons, oLst, oTup, hTup, hLst, bCB, oLen, oLenS, oIsi, oInt1, oMin2, oMax2, oCBL, oList, o2L, oCat, oSlL, noPart, aPart, oLc, yTst, srcL, srcT, srcR1, srcR2, srcS, srcE, srcZ, bIxL, bIxT, hIxL, oCall, hCall, bCall, noDfl, M.fz, M.fzs, lineD, pn0, outM, kit_ii, kit_ib, kit_bi, kit_bb, kit_ll, kit_tt, kit_ss, g, CDiv, CPow]
  · cases h

theorem ok__law_day {P : Program} {w : World} {K : PySem.W.Frag} {mg : Str → Option Value} {base : Heap} {fa : Nat → Addr} {fd : Nat → FuncData} (Z : Txt K mg fa fd) : FnOk P w K mg base CX0 1 (fa 10) (fd 10) ["_law_cell_here"] (spP K m_day) := by
  refine FnOk.imp (sp := spP K (G__law_day (K := K))) ?_ (spP_imp fun ds m hm => e__law_day ds m hm)
  refine Z.F__law_day.ok sc__law_day (spP_len runF_len) (fun cdv A outer s H vs Q E hr h => ?_)
  refine ⟨_, (pss_one (ps_ret (pe_ix ix_list (pe_lst (pa_cons (pe_op op_mod (pe_op op_fdiv (pv 0) pe_int) pe_int) (pa_cons (pe_op op_sub (pe_op op_pow pe_int pe_int) (pe_op op_mod (pe_op op_fdiv (pv 0) pe_int) pe_int)) (pa_cons (pe_op op_mod (pe_op op_fdiv (pv 0) pe_int) (pe_op op_add (pe_op op_pow pe_int pe_int) pe_int)) pa_nil)))) (pe_op op_mod (pv 0) pe_int) (fun _ _ => rfl)))), ?_⟩
  exact pure_bodyF b__law_day h
def b__law_other {K : PySem.W.Frag} := ((sSeq (sIf (tTst (b2 oEqS ((bVar 1)).h ((bInt 0)).h).h) (sRet (b2 (oII fun i j => i - j) ((b2 (oIC (fun _ j => 0 < j) fun i j => i % j) ((b2 (oII fun i j => i + j) ((b2 (oII fun i j => i + j) ((bVar 0)).h ((bInt 2)).h)).h ((b2 (oIC (fun _ j => 0 < j) fun i j => i % j) ((bVar 2)).h ((b2 (oII fun i j => i + j) ((b2 (oIC CPow fun i j => i ^ j.toNat) ((bInt 10)).h ((bInt 9)).h)).h ((bInt 1)).h)).h)).h)).h ((b2 (oII fun i j => i + j) ((b2 (oIC CPow fun i j => i ^ j.toNat) ((bInt 10)).h ((bInt 9)).h)).h ((bInt 2)).h)).h)).h ((bInt 1)).h)) sNext)
    (sSeq (sIf (tTst (b2 oEqS ((bVar 1)).h ((bInt 1)).h).h) (sRet (b2 (oIC (fun _ j => 0 < j) fun i j => i % j) ((b2 (oII fun i j => i + j) ((b2 (oII fun i j => i + j) ((bVar 0)).h ((bInt 1)).h)).h ((b2 (oIC (fun _ j => 0 < j) fun i j => i % j) ((bVar 2)).h ((b2 (oIC CPow fun i j => i ^ j.toNat) ((bInt 10)).h ((bInt 9)).h)).h)).h)).h ((b2 (oII fun i j => i + j) ((b2 (oIC CPow fun i j => i ^ j.toNat) ((bInt 10)).h ((bInt 9)).h)).h ((bInt 1)).h)).h)) sNext)
    (sSeq (sIf (tTst (b2 oEqS ((b2 (oIC (fun _ j => 0 < j) fun i j => i % j) ((bVar 1)).h ((bInt 2)).h)).h ((bInt 0)).h).h) (sRet (b2 (oIC (fun _ j => 0 < j) fun i j => i % j) ((b2 (oII fun i j => i + j) ((b2 (oII fun i j => i + j) ((bVar 0)).h ((bInt 1)).h)).h ((b2 (oIC (fun _ j => 0 < j) fun i j => i % j) ((bVar 2)).h ((bInt 39)).h)).h)).h ((bInt 40)).h)) sNext)
    (sRet (b2 (oII Builtin.bitXor) ((bVar 0)).h ((bIxL ((oLst (aCons (b2 (oII fun i j => i + j) ((bInt 1)).h ((b2 (oIC (fun _ j => 0 < j) fun i j => i % j) ((b2 (oIC CDiv fun i j => i / j) ((bVar 2)).h ((bInt 3)).h)).h ((b2 (oII fun i j => i - j) ((b2 (oIC CPow fun i j => i ^ j.toNat) ((bInt 2)).h ((bInt 64)).h)).h ((bInt 1)).h)).h)).h) (aCons (b2 (oIC CPow fun i j => i ^ j.toNat) ((bInt 2)).h ((bInt 63)).h) (aCons (bInt 1) aNil))))).b ((b2 (oIC (fun _ j => 0 < j) fun i j => i % j) ((bVar 2)).h ((bInt 3)).h)).h)).h))))) : Sx K pn0 _)
def G__law_other {K : PySem.W.Frag} (ds : List D) : Option M := runF 3 3 (b__law_other (K := K)).ev ds
def maskI (c : Int) : Int := if c % 3 = 0 then 1 + c / 3 % 18446744073709551615 else if c % 3 = 1 then 9223372036854775808 else 1
theorem maskI_lt (c : Int) : 0 < maskI c ∧ maskI c < 18446744073709551616 := by unfold maskI; split <;> (try split) <;> omega
def otherI (o a c : Int) : Int := if a = 0 then (o + 2 + c % 1000000001) % 1000000002 - 1 else if a = 1 then (o + 1 + c % 1000000000) % 1000000001 else if a % 2 = 0 then (o + 1 + c % 39) % 40 else Builtin.bitXor o (maskI c)
def m_other : List D → Option M
  | [.int o, .int a, .int c] => some (.im (.int (otherI o a c)))
  | _ => none
theorem e__law_other {K : PySem.W.Frag} (ds : List D) (m : M) (h : m_other ds = some m) : G__law_other (K := K) ds = some m := by
  unfold m_other at h
  split at h
  · rename_i o a c
    cases h
    unfold G__law_other b__law_other otherI maskI
    by_cases g0 : a = 0
    · simp [runF, runP, startG, sSeq, sIf, sRet, sRetO, sRetV, sRetN, sNext, sAsg, sAsgO, sApp, sFor, sDrop, sAug, sBrk, sCont, gN, gT, gsCons, gsNil, b2, oIC, oII, oIB, oEq, oNe, bVar, hVar, bInt, bStr, bBl, bNon, bC, bTy, bNeg, bIsN, bNotN, bAnV, bOrV, bNtV, bIf, bChain, Pb.h, Ph.s, Po.b, Po.h, Ab.h, tTst, tBv, tNt, tAn, tO, eqD, D.toP, asB, D.sc, D.isNon, D.asL, D.asS, D.tyn, sh_i, sh_b, oEqS, oNeS, eqS, ev_ii, ev_ss, ev_bb, aNil, aCons, ahCons, oLst, oTup, hTup, hLst, bCB, oLen, oLenS, oIsi, oInt1, oMin2, oMax2, oCBL, oList, o2L, oCat, oSlL, noPart, aPart, oLc, yTst, srcL, srcT, srcR1, srcR2, srcS, srcE, srcZ, bIxL, bIxT, hIxL, oCall, hCall, bCall, noDfl, M.fz, M.fzs, lineD, pn0, outM, kit_ii, kit_ib, kit_bi, kit_bb, kit_ll, kit_tt, kit_ss, g0, CPow]
    · by_cases g1 : a = 1
      · simp [runF, runP, startG, sSeq, sIf, sRet, sRetO, sRetV, sRetN, sNext, sAsg, sAsgO, sApp, sFor, sDrop, sAug, sBrk, sCont, gN, gT, gsCons, gsNil, b2, oIC, oII, oIB, oEq, oNe, bVar, hVar, bInt, bStr, bBl, bNon, bC, bTy, bNeg, bIsN, bNotN, bAnV, bOrV, bNtV, bIf, bChain, Pb.h, Ph.s, Po.b, Po.h, Ab.h, tTst, tBv, tNt, tAn, tO, eqD, D.toP, asB, D.sc, D.isNon, D.asL, D.asS, D.tyn, sh_i, sh_b, oEqS, oNeS, eqS, ev_ii, ev_ss, ev_bb, aNil, aCons, ahCons, oLst, oTup, hTup, hLst, bCB, oLen, oLenS, oIsi, oInt1, oMin2, oMax2, oCBL, oList, o2L, oCat, oSlL, noPart, aPart, oLc, yTst, srcL, srcT, srcR1, srcR2, srcS, srcE, srcZ, bIxL, bIxT, hIxL, oCall, hCall, bCall, noDfl, M.fz, M.fzs, lineD, pn0, outM, kit_ii, kit_ib, kit_bi, kit_bb, kit_ll, kit_tt, kit_ss, g1, CPow]
      · by_cases g2 : a % 2 = 0
        · simp [runF, runP, startG, sSeq, sIf, sRet, sRetO, sRetV, sRetN, sNext, sAsg, sAsgO, sApp, sFor, sDrop, sAug, sBrk, sCont, gN, gT, gsCons, gsNil, b2, oIC, oII, oIB, oEq, oNe, bVar, hVar, bInt, bStr, bBl, bNon, bC, bTy, bNeg, bIsN, bNotN, bAnV, bOrV, bNtV, bIf, bChain, Pb.h, Ph.s, Po.b, Po.h, Ab.h, tTst, tBv, tNt, tAn, tO, eqD, D.toP, asB, D.sc, D.isNon, D.asL, D.asS, D.tyn, sh_i, sh_b, oEqS, oNeS, eqS, ev_ii, ev_ss, ev_bb, aNil, aCons, ahCons, oLst, oTup, hTup, hLst, bCB, oLen, oLenS, oIsi, oInt1, oMin2, oMax2, oCBL, oList, o2L, oCat, oSlL, noPart, aPart, oLc, yTst, srcL, srcT, srcR1, srcR2, srcS, srcE, srcZ, bIxL, bIxT, hIxL, oCall, hCall, bCall, noDfl, M.fz, M.fzs, lineD, pn0, outM, kit_ii, kit_ib, kit_bi, kit_bb, kit_ll, kit_tt, kit_ss, g0, g1, g2, CPow]
        · rcases mod3 c with g | g | g
          · simp [runF, runP, startG, sSeq, sIf, sRet, sRetO, sRetV, sRetN, sNext, sAsg, sAsgO, sApp, sFor, sDrop, sAug, sBrk, sCont, gN, gT, gsCons, gsNil, b2, oIC, oII, oIB, oEq, oNe, bVar, hVar, bInt, bStr, bBl, bNon, bC, bTy, bNeg, bIsN, bNotN, bAnV, bOrV, bNtV, bIf, bChain, Pb.h, Ph.s, Po.b, Po.h, Ab.h, tTst, tBv, tNt, tAn, tO, eqD, D.toP, asB, D.sc, D.isNon, D.asL, D.asS, D.tyn, sh_i, sh_b, oEqS, oNeS, eqS, ev_ii, ev_ss, ev_bb, aNil, aCons, ahCons, oLst, oTup, hTup, hLst, bCB, oLen, oLenS, oIsi, oInt1, oMin2, oMax2, oCBL, oList, o2L, oCat, oSlL, noPart, aPart, oLc, yTst, srcL, srcT, srcR1, srcR2, srcS, srcE, srcZ, bIxL, bIxT, hIxL, oCall, hCall, bCall, noDfl, M.fz, M.fzs, lineD, pn0, outM, kit_ii, kit_ib, kit_bi, kit_bb, kit_ll, kit_tt, kit_ss, g0, g1, g2, g, CPow, CDiv]
          · simp [runF, runP, startG, sSeq, sIf, sRet, sRetO, sRetV, sRetN, sNext, sAsg, sAsgO, sApp, sFor, sDrop, sAug, sBrk, sCont, gN, gT, gsCons, gsNil, b2, oIC, oII, oIB, oEq, oNe, bVar, hVar, bInt, bStr, bBl, bNon, bC, bTy, bNeg, bIsN, bNotN, bAnV, bOrV, bNtV, bIf, bChain, Pb.h, Ph.s, Po.b, Po.h, Ab.h, tTst, tBv, tNt, tAn, tO, eqD, D.toP, asB, D.sc, D.isNon, D.asL, D.asS, D.tyn, sh_i, sh_b, oEqS, oNeS, eqS, ev_ii, ev_ss, ev_bb, aNil, aCons, ahCons, oLst, oTup, hTup, hLst, bCB, oLen, oLenS, oIsi, oInt1, oMin2, oMax2, oCBL, oList, o2L, oCat, oSlL, noPart, aPart, oLc, yTst, srcL, srcT, srcR1, srcR2, srcS, srcE, srcZ, bIxL, bIxT, hIxL, oCall, hCall, bCall, noDfl, M.fz, M.fzs, lineD, pn0, outM, kit_ii, kit_ib, kit_bi, kit_bb, kit_ll, kit_tt, kit_ss, g0, g1, g2, g, CPow, CDiv]
          · simp [runF, runP, startG, sSeq, sIf, sRet, sRetO, sRetV, sRetN, sNext, sAsg, sAsgO, sApp, sFor, sDrop, sAug, sBrk, sCont, gN, gT, gsCons, gsNil, b2, oIC, oII, oIB, oEq, oNe, bVar, hVar, bInt, bStr, bBl, bNon, bC, bTy, bNeg, bIsN, bNotN, bAnV, bOrV, bNtV, bIf, bChain, Pb.h, Ph.s, Po.b, Po.h, Ab.h, tTst, tBv, tNt, tAn, tO, eqD, D.toP, asB, D.sc, D.isNon, D.asL, D.asS, D.tyn, sh_i, sh_b, oEqS, oNeS, eqS, ev_ii, ev_ss, ev_bb, aNil, aCons, ahCons, oLst, oTup, hTup, hLst, bCB, oLen, oLenS, oIsi, oInt1, oMin2, oMax2, oCBL, oList, o2L, oCat, oSlL, noPart, aPart, oLc, yTst, srcL, srcT, srcR1, srcR2, srcS, srcE, srcZ, bIxL, bIxT, hIxL, oCall, hCall, bCall, noDfl, M.fz, M.fzs, lineD, pn0, outM, kit_ii, kit_ib, kit_bi, kit_bb, kit_ll, kit_tt, kit_ss, g0, g1, g2, g, CPow, CDiv]
  · cases h

theorem ok__law_other {P : Program} {w : World} {K : PySem.W.Frag} {mg : Str → Option Value} {base : Heap} {fa : Nat → Addr} {fd : Nat → FuncData} (Z : Txt K mg fa fd) : FnOk P w K mg base CX0 1 (fa 11) (fd 11) ["_law_old", "_law_at", "_law_cell_here"] (spP K m_other) := by
  refine FnOk.imp (sp := spP K (G__law_other (K := K))) ?_ (spP_imp fun ds m hm => e__law_other ds m hm)
  refine Z.F__law_other.ok sc__law_other (spP_len runF_len) (fun cdv A outer s H vs Q E hr h => ?_)
  refine ⟨_, (pss_cons (ps_if (pt_cmpR op_eq (pv 1) pe_int (nomark _)) (pss_one (ps_ret (pe_op op_sub (pe_op op_mod (pe_op op_add (pe_op op_add (pv 0) pe_int) (pe_op op_mod (pv 2) (pe_op op_add (pe_op op_pow pe_int pe_int) pe_int))) (pe_op op_add (pe_op op_pow pe_int pe_int) pe_int)) pe_int))) pss_nil)
      (pss_cons (ps_if (pt_cmpR op_eq (pv 1) pe_int (nomark _)) (pss_one (ps_ret (pe_op op_mod (pe_op op_add (pe_op op_add (pv 0) pe_int) (pe_op op_mod (pv 2) (pe_op op_pow pe_int pe_int))) (pe_op op_add (pe_op op_pow pe_int pe_int) pe_int)))) pss_nil)
      (pss_cons (ps_if (pt_cmpR op_eq (pe_op op_mod (pv 1) pe_int) pe_int (nomark _)) (pss_one (ps_ret (pe_op op_mod (pe_op op_add (pe_op op_add (pv 0) pe_int) (pe_op op_mod (pv 2) pe_int)) pe_int))) pss_nil)
      (pss_one (ps_ret (pe_op op_xor (pv 0) (pe_ix ix_list (pe_lst (pa_cons (pe_op op_add pe_int (pe_op op_mod (pe_op op_fdiv (pv 2) pe_int) (pe_op op_sub (pe_op op_pow pe_int pe_int) pe_int))) (pa_cons (pe_op op_pow pe_int pe_int) (pa_cons pe_int pa_nil)))) (pe_op op_mod (pv 2) pe_int) (fun _ _ => rfl)))))))), ?_⟩
  exact pure_bodyF b__law_other h
def lb__law_asked_1 {K : PySem.W.Frag} := ((sApp 1 ((oTup (aCons (bIxL (bVar 0) ((bVar 2)).h) (aCons (bIxL (bVar 0) ((b2 (oII fun i j => i + j) ((bVar 2)).h ((bInt 1)).h)).h) aNil)))).b) : Sx K pn0 _)
def b__law_asked {K : PySem.W.Frag} := ((sSeq (sAsgO 1 (oLst aNil))
    (sSeq (sFor (srcR3 (ahCons ((bInt 2)).h (ahCons ((bCB oLen (ahCons ((bVar 0)).h aNil.h))).h (ahCons ((bInt 2)).h aNil.h)))) (gN 2) (lb__law_asked_1 (K := K)))
    (sRet (hCall m_check_of noDfl (ahCons ((bIxL (bVar 0) ((bInt 0)).h)).h (ahCons ((bIxL (bVar 0) ((bInt 1)).h)).h (ahCons (hVar 1) aNil.h)))).s))) : Sx K pn0 _)
def G__law_asked {K : PySem.W.Frag} (ds : List D) : Option M := runF 1 3 (b__law_asked (K := K)).ev ds
def flatR (rs : List (Int × Int)) : List Int := rs.flatMap fun r => [r.1, r.2]
theorem flat_fold : ∀ (rs : List (Int × Int)) (t : Int), (flatR rs).foldl stepI t = chkR t rs
  | [], _ => rfl
  | r :: rs, t => flat_fold rs (stepI (stepI t r.1) r.2)
theorem flat_get : ∀ (rs : List (Int × Int)) (i : Nat), (flatR rs)[2 * i]? = (rs[i]?).map (·.1) ∧ (flatR rs)[2 * i + 1]? = (rs[i]?).map (·.2)
  | [], i => by simp [flatR]
  | r :: rs, 0 => by simp [flatR]
  | r :: rs, i + 1 => by
    have := flat_get rs i
    rw [show 2 * (i + 1) = 2 * i + 1 + 1 by omega]
    simpa [flatR] using this
theorem flat_len : ∀ (rs : List (Int × Int)), (flatR rs).length = 2 * rs.length
  | [] => rfl
  | r :: rs => by
    have := flat_len rs
    simp [flatR] at this ⊢
    omega
theorem flat_of : ∀ (n : Nat) (l : List Int), l.length = 2 * n → ∃ rs, l = flatR rs ∧ rs.length = n
  | 0, l, h => ⟨[], by rw [List.length_eq_zero_iff.mp (show l.length = 0 by omega)]; rfl, rfl⟩
  | n + 1, a :: b :: l, h => by
    obtain ⟨rs, e, h2⟩ := flat_of n l (by simp at h; omega)
    exact ⟨(a, b) :: rs, by rw [e]; rfl, by simp [h2]⟩
  | n + 1, [a], h => by simp at h; omega
  | n + 1, [], h => by simp at h
theorem flat_ok {rs : List (Int × Int)} (h : (flatR rs).all okN = true) : okR rs = true := by
  unfold okR
  rw [List.all_eq_true] at h ⊢
  intro r hr
  rw [h r.1 (by simp only [flatR, List.mem_flatMap]; exact ⟨r, hr, by simp⟩), h r.2 (by simp only [flatR, List.mem_flatMap]; exact ⟨r, hr, by simp⟩)]
  rfl
def valN : List Int → Int
  | s :: r => r.foldl stepI (s + 1)
  | [] => 0
def okL : List Int → Bool
  | s :: r => okN (s + 1) && r.all okN
  | [] => false
def m_asked : List D → Option M
  | [.lst l] => (intsOf l).bind fun N => if okL N = true ∧ N.length % 2 = 0 ∧ N.length ≤ 1000 then some (.im (.int (valN N))) else none
  | _ => none
theorem small_two (n : Int) (h0 : 0 ≤ n) (h1 : n ≤ 1000) : Builtin.Range.small 2 n 2 = true := by
  unfold Builtin.Range.small Builtin.Range.rangeSize
  simp only [Builtin.Range.rangeFitsLong, Bool.and_eq_true, Bool.or_eq_true, decide_eq_true_eq, beq_iff_eq, show (2 : Int) > 0 by decide, if_true]
  split <;> omega
theorem size_two (n : Nat) : Builtin.Range.rangeSize 2 (2 + 2 * (n : Int)) 2 = (n : Int) := by
  unfold Builtin.Range.rangeSize
  simp only [show (2 : Int) > 0 by decide, if_true]
  split <;> omega
theorem asked_turn {K : PySem.W.Frag} (L : List D) (k : Int) (cs : List D) (p q : Int) (h1 : atD L k = some (.int p)) (h2 : atD L (k + 1) = some (.int q)) (hl : cs.length ≤ 1000) :
    (lb__law_asked_1 (K := K)).ev [.im (.lst L), .nd .lst (cs.map M.im), .im (.int k)] = some (.nx [.im (.lst L), .nd .lst ((cs ++ [rowD (p, q)]).map M.im), .im (.int k)]) := by
  unfold lb__law_asked_1
  have : cs.length + 1 ≤ 100000 := by omega
  simp [h1, h2, lineD, this, rowD]
theorem asked_run {K : PySem.W.Frag} (s d : Int) (rs : List (Int × Int)) (hl : rs.length ≤ 600) :
    ∃ k', forRun (gN (K := K) (pn := pn0) 2).asg (lb__law_asked_1 (K := K)).ev (rangeCD 2 2 rs.length) [.im (.lst ((s :: d :: flatR rs).map D.int)), .nd .lst [], .emp] = some (.nx [.im (.lst ((s :: d :: flatR rs).map D.int)), .nd .lst ((rowsD rs).map M.im), k']) := by
  obtain ⟨Γ', h1, k', h2⟩ := forRun_inv (asg := (gN (K := K) (pn := pn0) 2).asg) (body := (lb__law_asked_1 (K := K)).ev) (fun i Γ => ∃ k, Γ = [.im (.lst ((s :: d :: flatR rs).map D.int)), .nd .lst ((rowsD (rs.take i)).map M.im), k]) (rangeCD 2 2 rs.length) 0 [.im (.lst ((s :: d :: flatR rs).map D.int)), .nd .lst [], .emp] ⟨.emp, rfl⟩ (by
    rintro i Γ x hx ⟨k, rfl⟩
    have hi : i < rs.length := by
      have := (List.getElem?_eq_some_iff.mp hx).1
      rwa [rangeCD_len] at this
    have hx2 : x = .int (2 + (i : Int) * 2) := by
      simp [rangeCD, hi] at hx
      exact hx.symm
    subst hx2
    have hg := flat_get rs i
    rw [List.getElem?_eq_getElem hi] at hg
    refine ⟨[.im (.lst ((s :: d :: flatR rs).map D.int)), .nd .lst ((rowsD (rs.take i)).map M.im), .im (.int (2 + (i : Int) * 2))], [.im (.lst ((s :: d :: flatR rs).map D.int)), .nd .lst ((rowsD (rs.take (i + 1))).map M.im), .im (.int (2 + (i : Int) * 2))], ?_, .inl ?_, ⟨_, by rw [Nat.zero_add]⟩⟩
    · simp
    · refine (asked_turn _ _ _ rs[i].1 rs[i].2 ?_ ?_ ?_).trans ?_
      · rw [show (2 + (i : Int) * 2) = ((2 * i + 2 : Nat) : Int) by omega, atD_nat]
        simp [hg.1]
      · rw [show (2 + (i : Int) * 2 + 1) = ((2 * i + 1 + 2 : Nat) : Int) by omega, atD_nat]
        simp [hg.2]
      · simp [rowsD]; omega
      · have e : rowsD (rs.take i) ++ [rowD (rs[i].1, rs[i].2)] = rowsD (rs.take (i + 1)) := by
          unfold rowsD
          rw [List.take_add_one, List.getElem?_eq_getElem hi]
          simp only [Option.toList, List.map_append, List.map_cons, List.map_nil]
        rw [e])
  subst h2
  rw [Nat.zero_add, rangeCD_len, List.take_length] at h1
  exact ⟨k', h1⟩
theorem asked_s1 {K : PySem.W.Frag} (L : List D) (n : Int) (rs : List (Int × Int)) (hn : (L.length : Int) = n) (r1 : rg3 [.int 2, .int n, .int 2] = some (rangeCD 2 2 rs.length)) :
    (srcR3 (K := K) (ahCons ((bInt 2)).h (ahCons ((bCB oLen (ahCons ((bVar 0)).h aNil.h))).h (ahCons ((bInt 2)).h aNil.h)))).ev [.im (.lst L), .nd .lst [], .emp] = some (rangeCD 2 2 rs.length) := by
  simp [hn, r1]
theorem asked_s2 {K : PySem.W.Frag} (L : List D) : (sAsgO (K := K) (pn := pn0) 1 (oLst aNil)).ev [.im (.lst L), .emp, .emp] = some (.nx [.im (.lst L), .nd .lst [], .emp]) := by
  simp [lineD]
theorem asked_s3 {K : PySem.W.Frag} (L : List D) (s d x : Int) (rs : List (Int × Int)) (k' : M) (h0 : L[0]? = some (.int s)) (h1 : L[1]? = some (.int d)) (hx : m_check_of [.int s, .int d, .lst (rowsD rs)] = some (.im (.int x))) :
    (sRet (K := K) (pn := pn0) (hCall m_check_of noDfl (ahCons ((bIxL (bVar 0) ((bInt 0)).h)).h (ahCons ((bIxL (bVar 0) ((bInt 1)).h)).h (ahCons (hVar 1) aNil.h)))).s).ev [.im (.lst L), .nd .lst ((rowsD rs).map M.im), k'] = some (.rt (.im (.int x)) [.im (.lst L), .nd .lst ((rowsD rs).map M.im), k']) := by
  simp [h0, h1, hx, D.sc]
theorem asked_s4 {K : PySem.W.Frag} (L : List D) (s d x n : Int) (rs : List (Int × Int)) (k' : M) (h0 : L[0]? = some (.int s)) (h1 : L[1]? = some (.int d)) (hn : (L.length : Int) = n) (r1 : rg3 [.int 2, .int n, .int 2] = some (rangeCD 2 2 rs.length))
    (e : forRun (gN (K := K) (pn := pn0) 2).asg (lb__law_asked_1 (K := K)).ev (rangeCD 2 2 rs.length) [.im (.lst L), .nd .lst [], .emp] = some (.nx [.im (.lst L), .nd .lst ((rowsD rs).map M.im), k'])) (hx : m_check_of [.int s, .int d, .lst (rowsD rs)] = some (.im (.int x))) :
    (b__law_asked (K := K)).ev [.im (.lst L), .emp, .emp] = some (.rt (.im (.int x)) [.im (.lst L), .nd .lst ((rowsD rs).map M.im), k']) := by
  unfold b__law_asked
  rw [sSeq_ev, asked_s2, seqC_nx, sSeq_ev, sFor_ev, asked_s1 L n rs hn r1, forC_s, e, seqC_nx]
  exact asked_s3 L s d x rs k' h0 h1 hx
theorem asked_core {K : PySem.W.Frag} (L : List D) (s d x n : Int) (rs : List (Int × Int)) (k' : M) (h0 : L[0]? = some (.int s)) (h1 : L[1]? = some (.int d)) (hn : (L.length : Int) = n) (r1 : rg3 [.int 2, .int n, .int 2] = some (rangeCD 2 2 rs.length))
    (e : forRun (gN (K := K) (pn := pn0) 2).asg (lb__law_asked_1 (K := K)).ev (rangeCD 2 2 rs.length) [.im (.lst L), .nd .lst [], .emp] = some (.nx [.im (.lst L), .nd .lst ((rowsD rs).map M.im), k'])) (hx : m_check_of [.int s, .int d, .lst (rowsD rs)] = some (.im (.int x))) :
    G__law_asked (K := K) [.lst L] = some (.im (.int x)) := by
  unfold G__law_asked
  rw [runF_1]
  show ((b__law_asked (K := K)).ev [.im (.lst L), .emp, .emp]).bind outM = _
  rw [asked_s4 L s d x n rs k' h0 h1 hn r1 e hx]
  rfl
theorem e__law_asked {K : PySem.W.Frag} (ds : List D) (m : M) (h : m_asked ds = some m) : G__law_asked (K := K) ds = some m := by
  unfold m_asked at h
  split at h
  · rename_i l
    obtain ⟨N, h1, h⟩ := Option.bind_eq_some_iff.mp h
    split at h
    · rename_i hc
      cases h
      obtain ⟨c1, c2, c3⟩ := hc
      rw [intsOf_eq h1]
      match N, c1, c2, c3 with
      | [s], c1, c2, c3 => simp at c2
      | s :: d :: r, c1, c2, c3 =>
        simp only [okL, List.all_cons, Bool.and_eq_true] at c1
        simp only [List.length_cons] at c2 c3
        obtain ⟨rs, rfl, hr⟩ := flat_of (r.length / 2) r (by omega)
        have hfl := flat_len rs
        obtain ⟨k', e⟩ := asked_run (K := K) s d rs (by omega)
        refine asked_core _ s d (chkR (stepI (s + 1) d) rs) (2 + 2 * (rs.length : Int)) rs k' rfl rfl ?_ ?_ e ?_ |>.trans ?_
        · simp [hfl]; omega
        · unfold rg3
          simp only [size_two]
          rw [if_pos ⟨by decide, by decide, small_two _ (by omega) (by omega), by omega⟩]
          rfl
        · have := flat_ok c1.2.2
          have hl3 : rs.length ≤ 1000 := by omega
          simp [m_check_of, m_chk, c1.1, c1.2.1, this, hl3]
        · show _ = some (M.im (.int ((flatR rs).foldl stepI (stepI (s + 1) d))))
          rw [flat_fold]
      | [], c1, c2, c3 => simp [okL] at c1
    · cases h
  · cases h

theorem ok__law_asked {P : Program} {w : World} {K : PySem.W.Frag} {mg : Str → Option Value} {base : Heap} {fa : Nat → Addr} {fd : Nat → FuncData} (Z : Txt K mg fa fd) : FnOk P w K mg base CX0 3 (fa 12) (fd 12) ["_law_numbers"] (spP K m_asked) := by
  refine FnOk.imp (sp := spP K (G__law_asked (K := K))) ?_ (spP_imp fun ds m hm => e__law_asked ds m hm)
  refine Z.F__law_asked.ok sc__law_asked (spP_len runF_len) (fun cdv A outer s H vs Q E hr h => ?_)
  refine ⟨_, (pss_cons (ps_set (i := 1) sc__law_asked.nd rfl (Or.inl rfl) (pe_lst pa_nil))
      (pss_cons (ps_for PassesOwn.never rfl (pi_range3 rfl Z.z_range (pa_cons pe_int (pa_cons (pe_callB call_len_seq (by rfl) Z.z_len (by decide +kernel) (pa_cons (pv 0) pa_nil)) (pa_cons pe_int pa_nil)))) (pg_name (i := 2) sc__law_asked.nd rfl (Or.inl rfl)) (pss_one (ps_expr (pe_bm PySem.F.plainAttrs_list PySem.F.slot_list_append PySem.F.type_list_append mt_append (pv 1) (pa_cons (pe_tup (pa_cons (pe_ix ix_list (pv 0) (pv 2) (fun _ _ => rfl)) (pa_cons (pe_ix ix_list (pv 0) (pe_op op_add (pv 2) pe_int) (fun _ _ => rfl)) pa_nil))) pa_nil)))))
      (pss_one (ps_ret (pe_call (ok_check_of Z) (hr.mono (by decide)) (by rfl) Z.g_check_of Z.F_check_of.kp Z.b_check_of .nil pass0 (pa_cons (pe_ix ix_list (pv 0) pe_int (fun _ _ => rfl)) (pa_cons (pe_ix ix_list (pv 0) pe_int (fun _ _ => rfl)) (pa_cons (pv 1) pa_nil)))))))), ?_⟩
  exact pure_bodyF b__law_asked h
def lb_law_1 {K : PySem.W.Frag} := ((sAsg ((o2L oCat (bVar 1) ((oLst (aCons (b2 (oIC (fun _ j => 0 < j) fun i j => i % j) ((oCall m_stir noDfl (aCons (bVar 2) (aCons (bInt 1) aNil)))).h ((bInt 40)).h) (aCons ((oCall m_block noDfl (aCons (bVar 2) (aCons (bInt 2) aNil)))).b aNil)))).b)).b (gN 1)) : Sx K pn0 _)
def lb_law_2 {K : PySem.W.Frag} := ((sIf (tO (tNt (tBv ((oCall m_whole noDfl (aCons (bVar 7) aNil))).h)) (tNt (tTst (bChain (oIB fun i j => decide (i ≤ j)) (oIB fun i j => decide (i ≤ j)) ((bInt 0)).h ((bVar 7)).h ((b2 (oII fun i j => i - j) ((b2 (oIC CPow fun i j => i ^ j.toNat) ((bInt 2)).h ((bInt 64)).h)).h ((bInt 1)).h)).h).h))) (sRet (bBl false)) sNext) : Sx K pn0 _)
def b_law {K : PySem.W.Frag} := ((sSeq (sAsg ((oLst (aCons ((oCall m_start noDfl (aCons ((oCall m_cell noDfl (aCons (bVar 0) (aCons (bInt 0) aNil)))).b aNil))).b (aCons ((oCall m_day noDfl (aCons ((oCall m_cell noDfl (aCons (bVar 0) (aCons (bInt 1) aNil)))).b aNil))).b aNil)))).b (gN 1))
    (sSeq (sFor (srcL ((oSlL (bVar 0) (aPart ((bInt 4)).h) (aPart ((bInt 44)).h))).b) (gN 2) (lb_law_1 (K := K)))
    (sSeq (sAsg (b2 (oIC (fun _ j => 0 < j) fun i j => i % j) ((oCall m_cell noDfl (aCons (bVar 0) (aCons (bInt 2) aNil)))).h ((bCB oLen (ahCons ((bVar 1)).h aNil.h))).h) (gN 3))
    (sSeq (sAsg ((oCall m_asked noDfl (aCons ((oCBL oList (aCons (bVar 1) aNil))).b aNil))).b (gN 4))
    (sSeq (sAsgO 5 (oCBL oList (aCons (bVar 1) aNil)))
    (sSeq (sSetL 5 ((oCall m_other noDfl (aCons (bIxL (bVar 1) ((bVar 3)).h) (aCons (bVar 3) (aCons ((oCall m_cell noDfl (aCons (bVar 0) (aCons (bInt 3) aNil)))).b aNil))))).b ((bVar 3)).h)
    (sSeq (sAsg (hCall m_asked noDfl (ahCons (hVar 5) aNil.h)).s (gN 6))
    (sSeq (sFor (srcL ((oLst (aCons (bVar 4) (aCons (bVar 6) aNil)))).b) (gN 7) (lb_law_2 (K := K)))
    (sRet (bAnV ((b2 oNeS ((bVar 4)).h ((bVar 6)).h)).h ((b2 oEqS ((oCall m_asked noDfl (aCons (bVar 1) aNil))).h ((bVar 4)).h)).h)))))))))) : Sx K pn0 _)
def G_law {K : PySem.W.Frag} (ds : List D) : Option M := runF 1 8 (b_law (K := K)).ev ds
theorem ok_law {P : Program} {w : World} {K : PySem.W.Frag} {mg : Str → Option Value} {base : Heap} {fa : Nat → Addr} {fd : Nat → FuncData} (Z : Txt K mg fa fd) : FnOk P w K mg base CX0 4 (fa 13) (fd 13) ["_law_script"] (spP K (G_law (K := K))) := by
  refine Z.F_law.ok sc_law (spP_len runF_len) (fun cdv A outer s H vs Q E hr h => ?_)
  refine ⟨_, (pss_cons (ps_set (i := 1) sc_law.nd rfl (Or.inl rfl) (pe_lst (pa_cons (pe_call (ok__law_start Z) (hr.mono (by decide)) (by rfl) Z.g__law_start Z.F__law_start.kp Z.b__law_start .nil pass0 (pa_cons (pe_call (ok__law_cell Z) (hr.mono (by decide)) (by rfl) Z.g__law_cell Z.F__law_cell.kp Z.b__law_cell .nil pass0 (pa_cons (pv 0) (pa_cons pe_int pa_nil))) pa_nil)) (pa_cons (pe_call (ok__law_day Z) (hr.mono (by decide)) (by rfl) Z.g__law_day Z.F__law_day.kp Z.b__law_day .nil pass0 (pa_cons (pe_call (ok__law_cell Z) (hr.mono (by decide)) (by rfl) Z.g__law_cell Z.F__law_cell.kp Z.b__law_cell .nil pass0 (pa_cons (pv 0) (pa_cons pe_int pa_nil))) pa_nil)) pa_nil))))
      (pss_cons (ps_for PassesOwn.never rfl (pi_list (pe_slice sl_list (pv 0) (po_some pe_int) (po_some pe_int))) (pg_name (i := 2) sc_law.nd rfl (Or.inl rfl)) (pss_one (ps_set (i := 1) sc_law.nd rfl (Or.inl rfl) (pe_op op_cat (pv 1) (pe_lst (pa_cons (pe_op op_mod (pe_call (ok__law_stir Z) (hr.mono (by decide)) (by rfl) Z.g__law_stir Z.F__law_stir.kp Z.b__law_stir .nil pass0 (pa_cons (pv 2) (pa_cons pe_int pa_nil))) pe_int) (pa_cons (pe_call (ok__law_block Z) (hr.mono (by decide)) (by rfl) Z.g__law_block Z.F__law_block.kp Z.b__law_block .nil pass0 (pa_cons (pv 2) (pa_cons pe_int pa_nil))) pa_nil)))))))
      (pss_cons (ps_set (i := 3) sc_law.nd rfl (Or.inl rfl) (pe_op op_mod (pe_call (ok__law_cell Z) (hr.mono (by decide)) (by rfl) Z.g__law_cell Z.F__law_cell.kp Z.b__law_cell .nil pass0 (pa_cons (pv 0) (pa_cons pe_int pa_nil))) (pe_callB call_len_seq (by rfl) Z.z_len (by decide +kernel) (pa_cons (pv 1) pa_nil))))
      (pss_cons (ps_set (i := 4) sc_law.nd rfl (Or.inl rfl) (pe_call (ok__law_asked Z) (hr.mono (by decide)) (by rfl) Z.g__law_asked Z.F__law_asked.kp Z.b__law_asked .nil pass0 (pa_cons (pe_callTy call_list_of (by rfl) Z.z_list (by decide +kernel) (pa_cons (pv 1) pa_nil)) pa_nil)))
      (pss_cons (ps_set (i := 5) sc_law.nd rfl (Or.inl rfl) (pe_callTy call_list_of (by rfl) Z.z_list (by decide +kernel) (pa_cons (pv 1) pa_nil)))
      (pss_cons (ps_asg (pe_call (ok__law_other Z) (hr.mono (by decide)) (by rfl) Z.g__law_other Z.F__law_other.kp Z.b__law_other .nil pass0 (pa_cons (pe_ix ix_list (pv 1) (pv 3) (fun _ _ => rfl)) (pa_cons (pv 3) (pa_cons (pe_call (ok__law_cell Z) (hr.mono (by decide)) (by rfl) Z.g__law_cell Z.F__law_cell.kp Z.b__law_cell .nil pass0 (pa_cons (pv 0) (pa_cons pe_int pa_nil))) pa_nil)))) (pg_sub (pv 5) (pv 3) set_list))
      (pss_cons (ps_set (i := 6) sc_law.nd rfl (Or.inl rfl) (pe_call (ok__law_asked Z) (hr.mono (by decide)) (by rfl) Z.g__law_asked Z.F__law_asked.kp Z.b__law_asked .nil pass0 (pa_cons (pv 5) pa_nil)))
      (pss_cons (ps_for PassesOwn.never rfl (pi_list (pe_lst (pa_cons (pv 4) (pa_cons (pv 6) pa_nil)))) (pg_name (i := 7) sc_law.nd rfl (Or.inl rfl)) (pss_one (ps_if (PW.pt (pw_or (pt_not (pt_val (pe_call (ok__law_whole Z) (hr.mono (by decide)) (by rfl) Z.g__law_whole Z.F__law_whole.kp Z.b__law_whole .nil pass0 (pa_cons (pv 7) pa_nil)))) (pw_or1 (pt_not (pt_chain op_le op_le pe_int (pv 7) (pe_op op_sub (pe_op op_pow pe_int pe_int) pe_int)))))) (pss_one (ps_ret pe_bl)) pss_nil)))
      (pss_one (ps_ret (pe_and (pe_cmpR op_ne (pv 4) (pv 6) (nomark _)) (pe_one (pe_cmpR op_eq (pe_call (ok__law_asked Z) (hr.mono (by decide)) (by rfl) Z.g__law_asked Z.F__law_asked.kp Z.b__law_asked .nil pass0 (pa_cons (pv 1) pa_nil)) (pv 4) (nomark _)))))))))))))), ?_⟩
  exact pure_bodyF b_law h
theorem cell_int (ns : List Int) (k : Int) (h0 : 0 ≤ k) : ∃ c, m_cell [.scr (ns.map D.int), .int k] = some (.im (.int c)) := by
  simp only [m_cell]
  rw [if_pos h0]
  split
  · rename_i h
    have h' : k.toNat < ns.length := by simp at h; omega
    exact ⟨ns[k.toNat], by simp [h']⟩
  · exact ⟨_, rfl⟩
theorem xorI_inj (a b n : Int) (a0 : 0 ≤ a) (b0 : 0 ≤ b) (n0 : 0 ≤ n) (h : Builtin.bitXor a n = Builtin.bitXor b n) : a = b := by
  obtain ⟨x, rfl⟩ := Int.eq_ofNat_of_zero_le a0
  obtain ⟨y, rfl⟩ := Int.eq_ofNat_of_zero_le b0
  obtain ⟨z, rfl⟩ := Int.eq_ofNat_of_zero_le n0
  rw [Bits.bitXor_pp (Int.natCast_nonneg _) (Int.natCast_nonneg _), Bits.bitXor_pp (Int.natCast_nonneg _) (Int.natCast_nonneg _)] at h
  simp only [Int.toNat_natCast] at h
  have h2 : x ^^^ z = y ^^^ z := by exact_mod_cast h
  have h3 : (x ^^^ z) ^^^ z = (y ^^^ z) ^^^ z := by rw [h2]
  rw [Nat.xor_assoc, Nat.xor_assoc, Nat.xor_self, Nat.xor_zero, Nat.xor_zero] at h3
  rw [h3]
theorem xorI_inj2 (a b n : Int) (a0 : 0 ≤ a) (b0 : 0 ≤ b) (n0 : 0 ≤ n) (h : Builtin.bitXor n a = Builtin.bitXor n b) : a = b := by
  obtain ⟨x, rfl⟩ := Int.eq_ofNat_of_zero_le a0
  obtain ⟨y, rfl⟩ := Int.eq_ofNat_of_zero_le b0
  obtain ⟨z, rfl⟩ := Int.eq_ofNat_of_zero_le n0
  rw [Bits.bitXor_pp (Int.natCast_nonneg _) (Int.natCast_nonneg _), Bits.bitXor_pp (Int.natCast_nonneg _) (Int.natCast_nonneg _)] at h
  simp only [Int.toNat_natCast] at h
  have h2 : z ^^^ x = z ^^^ y := by exact_mod_cast h
  have h3 : z ^^^ (z ^^^ x) = z ^^^ (z ^^^ y) := by rw [h2]
  rw [← Nat.xor_assoc, ← Nat.xor_assoc, Nat.xor_self, Nat.zero_xor, Nat.zero_xor] at h3
  rw [h3]
theorem xorI_ne (a n : Int) (a0 : 0 ≤ a) (n0 : 0 < n) : Builtin.bitXor a n ≠ a := fun h => by
  have e : Builtin.bitXor a 0 = a := by
    obtain ⟨x, rfl⟩ := Int.eq_ofNat_of_zero_le a0
    rw [Bits.bitXor_pp (Int.natCast_nonneg _) (by decide)]
    simp
  have := xorI_inj2 n 0 a (by omega) (by decide) a0 (by rw [h, e])
  omega
theorem turnI_inj (a b : Int) (ha : okN a = true) (hb : okN b = true) (h : turnI a = turnI b) : a = b := by
  have a0 := okN_iff.mp ha
  have b0 := okN_iff.mp hb
  obtain ⟨x, rfl⟩ := Int.eq_ofNat_of_zero_le a0.1
  obtain ⟨y, rfl⟩ := Int.eq_ofNat_of_zero_le b0.1
  rw [turnI_nat, turnI_nat] at h
  have h2 : TN x = TN y := by exact_mod_cast h
  have h3 : TNi 64 x = TNi 64 y := by show TNi 63 (TN x) = TNi 63 (TN y); rw [h2]
  rw [TNi_64 x (by omega), TNi_64 y (by omega)] at h3
  rw [h3]
theorem stepI_inj (t u n : Int) (ht : okN t = true) (hu : okN u = true) (hn : okN n = true) (h : stepI t n = stepI u n) : t = u := by
  have a := okN_iff.mp ht
  have b := okN_iff.mp hu
  exact turnI_inj t u ht hu (xorI_inj _ _ n (turnI_lt t a.1 a.2).1 (turnI_lt u b.1 b.2).1 (okN_iff.mp hn).1 h)
theorem fold_ok : ∀ (l : List Int) (t : Int), okN t = true → l.all okN = true → okN (l.foldl stepI t) = true
  | [], t, h, _ => h
  | n :: l, t, h, g => by
    simp only [List.all_cons, Bool.and_eq_true] at g
    exact fold_ok l _ (stepI_ok h g.1) g.2
theorem fold_inj : ∀ (l : List Int) (t u : Int), okN t = true → okN u = true → l.all okN = true → t ≠ u → l.foldl stepI t ≠ l.foldl stepI u
  | [], t, u, _, _, _, h => h
  | n :: l, t, u, ht, hu, g, h => by
    simp only [List.all_cons, Bool.and_eq_true] at g
    exact fold_inj l _ _ (stepI_ok ht g.1) (stepI_ok hu g.1) g.2 fun z => h (stepI_inj t u n ht hu g.1 z)
theorem fold_set : ∀ (l : List Int) (j : Nat) (t x v : Int), okN t = true → l.all okN = true → okN v = true → l[j]? = some x → v ≠ x → (l.set j v).foldl stepI t ≠ l.foldl stepI t
  | [], j, t, x, v, _, _, _, e, _ => by simp at e
  | n :: l, 0, t, x, v, ht, g, hv, e, h => by
    simp only [List.all_cons, Bool.and_eq_true] at g
    simp at e
    subst e
    have a := okN_iff.mp ht
    exact fold_inj l _ _ (stepI_ok ht hv) (stepI_ok ht g.1) g.2 fun z => h (xorI_inj2 _ _ _ (okN_iff.mp hv).1 (okN_iff.mp g.1).1 (turnI_lt t a.1 a.2).1 z)
  | n :: l, j + 1, t, x, v, ht, g, hv, e, h => by
    simp only [List.all_cons, Bool.and_eq_true] at g
    simp at e
    exact fold_set l j _ x v (stepI_ok ht g.1) g.2 hv e h
theorem all_set {l : List Int} {j : Nat} {v : Int} (h : l.all okN = true) (hv : okN v = true) : (l.set j v).all okN = true := by
  rw [List.all_eq_true] at h ⊢
  intro x hx
  rcases List.mem_or_eq_of_mem_set hx with h1 | h1
  · exact h x h1
  · rw [h1]; exact hv
/-- what the numbers are -/
def rowC (c : Int) : Int × Int := (stirI c 1 % 40, blockI c 2)
def numsC (c0 c1 : Int) (l : List Int) : List Int := startI c0 :: dayI c1 :: flatR (l.map rowC)
theorem rowC_ok (c : Int) : (0 ≤ (rowC c).1 ∧ (rowC c).1 < 40) ∧ 0 ≤ (rowC c).2 ∧ (rowC c).2 < 18446744073709551616 := ⟨by unfold rowC; omega, blockI_lt c 2⟩
theorem nums_ok (c0 c1 : Int) (l : List Int) : okL (numsC c0 c1 l) = true := by
  have hs := startI_lt c0
  have hd := dayI_lt c1
  simp only [numsC, okL, List.all_cons, Bool.and_eq_true]
  refine ⟨okN_iff.mpr ⟨by omega, by omega⟩, okN_iff.mpr ⟨by omega, by omega⟩, ?_⟩
  rw [List.all_eq_true]
  intro x hx
  simp only [flatR, List.mem_flatMap, List.mem_map] at hx
  obtain ⟨r, ⟨c, _, rfl⟩, hx⟩ := hx
  have := rowC_ok c
  simp only [List.mem_cons, List.not_mem_nil, or_false] at hx
  rcases hx with rfl | rfl
  · exact okN_iff.mpr ⟨by omega, by omega⟩
  · exact okN_iff.mpr this.2
theorem other_ok (c0 c1 : Int) (l : List Int) (j : Nat) (x c : Int) (h : (numsC c0 c1 l)[j]? = some x) :
    okL ((numsC c0 c1 l).set j (otherI x (j : Int) c)) = true ∧ valN ((numsC c0 c1 l).set j (otherI x (j : Int) c)) ≠ valN (numsC c0 c1 l) := by
  have ok := nums_ok c0 c1 l
  have hs := startI_lt c0
  have hd := dayI_lt c1
  match j, h with
  | 0, h =>
    simp [numsC] at h
    subst h
    simp only [numsC, okL, Bool.and_eq_true] at ok
    have hv : otherI (startI c0) ((0 : Nat) : Int) c = (startI c0 + 2 + c % 1000000001) % 1000000002 - 1 := by simp [otherI]
    rw [hv]
    have hv1 : okN ((startI c0 + 2 + c % 1000000001) % 1000000002 - 1 + 1) = true := okN_iff.mpr ⟨by omega, by omega⟩
    refine ⟨?_, ?_⟩
    · simp only [numsC, List.set_cons_zero, okL, Bool.and_eq_true]
      exact ⟨hv1, ok.2⟩
    · exact fold_inj _ _ _ hv1 ok.1 ok.2 (by omega)
  | j + 1, h =>
    have ok' := ok
    simp only [numsC, okL, Bool.and_eq_true] at ok
    have hx : (dayI c1 :: flatR (l.map rowC))[j]? = some x := by simpa [numsC] using h
    have hox : okN x = true := List.all_eq_true.mp ok.2 x (List.mem_of_getElem? hx)
    have key : okN (otherI x ((j + 1 : Nat) : Int) c) = true ∧ otherI x ((j + 1 : Nat) : Int) c ≠ x := by
      match j, hx with
      | 0, hx =>
        simp at hx
        subst hx
        have hv : otherI (dayI c1) ((0 + 1 : Nat) : Int) c = (dayI c1 + 1 + c % 1000000000) % 1000000001 := by simp [otherI]
        rw [hv]
        exact ⟨okN_iff.mpr ⟨by omega, by omega⟩, by omega⟩
      | i + 1, hx =>
        have hx2 : (flatR (l.map rowC))[i]? = some x := by simpa using hx
        rcases Nat.mod_two_eq_zero_or_one i with hi | hi
        · have e : i = 2 * (i / 2) := by omega
          rw [e, (flat_get _ _).1] at hx2
          obtain ⟨r, h1, h2⟩ := Option.map_eq_some_iff.mp hx2
          simp only [List.getElem?_map, Option.map_eq_some_iff] at h1
          obtain ⟨c', _, rfl⟩ := h1
          have hr := (rowC_ok c').1
          rw [h2] at hr
          have hv : otherI x ((i + 1 + 1 : Nat) : Int) c = (x + 1 + c % 39) % 40 := by
            unfold otherI
            rw [if_neg (by omega), if_neg (by omega), if_pos (by omega)]
          rw [hv]
          exact ⟨okN_iff.mpr ⟨by omega, by omega⟩, by omega⟩
        · have hv : otherI x ((i + 1 + 1 : Nat) : Int) c = Builtin.bitXor x (maskI c) := by
            unfold otherI
            rw [if_neg (by omega), if_neg (by omega), if_neg (by omega)]
          rw [hv]
          have hm := maskI_lt c
          have ho := okN_iff.mp hox
          exact ⟨okN_iff.mpr (xor_lt _ _ ho.1 ho.2 (by omega) hm.2), xorI_ne _ _ ho.1 hm.1⟩
    refine ⟨?_, ?_⟩
    · simp only [numsC, List.set_cons_succ, okL, Bool.and_eq_true]
      exact ⟨ok.1, all_set ok.2 key.1⟩
    · exact fold_set _ j _ x _ ok.1 ok.2 key.1 hx key.2
theorem grow_turn {K : PySem.W.Frag} (s L d e f g h i : M) (l : List D) (c p q : Int) (h1 : m_stir [.int c, .int 1] = some (.im (.int p))) (h2 : m_block [.int c, .int 2] = some (.im (.int q))) (hl : l.length ≤ 1000) :
    (lb_law_1 (K := K)).ev [s, .im (.lst l), .im (.int c), d, e, f, g, h] = some (.nx [s, .im (.lst (l ++ [.int (p % 40), .int q])), .im (.int c), d, e, f, g, h]) := by
  unfold lb_law_1
  have : l.length + 2 ≤ 100000 := by omega
  simp [h1, h2, lineD, this]
theorem grow_run {K : PySem.W.Frag} (s d e f g h : M) (a b : Int) (cs : List Int) (hc : cs.length ≤ 40) : ∃ k, forRun (gN (K := K) (pn := pn0) 2).asg (lb_law_1 (K := K)).ev (cs.map D.int) [s, .im (.lst [.int a, .int b]), .emp, d, e, f, g, h] = some (.nx [s, .im (.lst ((a :: b :: flatR (cs.map rowC)).map D.int)), k, d, e, f, g, h]) := by
  obtain ⟨Γ', h1, k', h2⟩ := forRun_inv (asg := (gN (K := K) (pn := pn0) 2).asg) (body := (lb_law_1 (K := K)).ev) (fun i Γ => ∃ k, Γ = [s, .im (.lst ((a :: b :: flatR ((cs.take i).map rowC)).map D.int)), k, d, e, f, g, h]) (cs.map D.int) 0 [s, .im (.lst [.int a, .int b]), .emp, d, e, f, g, h] ⟨.emp, by simp [flatR]⟩ (by
    rintro i Γ x hx ⟨k, rfl⟩
    rw [List.getElem?_map, Option.map_eq_some_iff] at hx
    obtain ⟨c, hc1, rfl⟩ := hx
    have hi : i < cs.length := (List.getElem?_eq_some_iff.mp hc1).1
    refine ⟨[s, .im (.lst ((a :: b :: flatR ((cs.take i).map rowC)).map D.int)), .im (.int c), d, e, f, g, h], [s, .im (.lst ((a :: b :: flatR ((cs.take (i + 1)).map rowC)).map D.int)), .im (.int c), d, e, f, g, h], by simp, .inl ?_, ⟨_, by rw [Nat.zero_add]⟩⟩
    refine (grow_turn s .emp d e f g h .emp _ c _ _ rfl rfl ?_).trans ?_
    · simp [flat_len]; omega
    · rw [List.take_add_one, hc1]
      simp [flatR, rowC])
  subst h2
  rw [Nat.zero_add, List.length_map, List.take_length] at h1
  exact ⟨k', h1⟩
theorem law_core {K : PySem.W.Frag} (ns : List Int) (c0 c1 c2 c3 s d x y o at' : Int) (j : Nat) (N N2 : List Int) (k : M) (n : Int)
    (e0 : m_cell [.scr (ns.map D.int), .int 0] = some (.im (.int c0))) (e1 : m_cell [.scr (ns.map D.int), .int 1] = some (.im (.int c1))) (e2 : m_cell [.scr (ns.map D.int), .int 2] = some (.im (.int c2))) (e3 : m_cell [.scr (ns.map D.int), .int 3] = some (.im (.int c3)))
    (n0 : m_start [.int c0] = some (.im (.int s))) (n1 : m_day [.int c1] = some (.im (.int d)))
    (hl : forRun (gN (K := K) (pn := pn0) 2).asg (lb_law_1 (K := K)).ev (cutD (ns.map D.int) (some 4) (some 44)) [.im (.scr (ns.map D.int)), .im (.lst [.int s, .int d]), .emp, .emp, .emp, .emp, .emp, .emp] = some (.nx [.im (.scr (ns.map D.int)), .im (.lst (N.map D.int)), k, .emp, .emp, .emp, .emp, .emp]))
    (hn : (N.length : Int) = n) (hn0 : 0 < n) (hat : c2 % n = at') (hix : ixN N.length at' = some j) (ho : atD (N.map D.int) at' = some (.int o)) (hy : m_other [.int o, .int at', .int c3] = some (.im (.int y))) (hN2 : (N.map D.int).set j (.int y) = N2.map D.int) (hj : j < N.length)
    (k1 : m_asked [.lst (N.map D.int)] = some (.im (.int x))) (z : Int) (k2 : m_asked [.lst (N2.map D.int)] = some (.im (.int z))) (x0 : 0 ≤ x) (x1 : x ≤ 18446744073709551615) (z0 : 0 ≤ z) (z1 : z ≤ 18446744073709551615) (hne : x ≠ z) :
    G_law (K := K) [.scr (ns.map D.int)] = some (.im (.bl true)) := by
  have w0 : ∀ z : Int, m_whole [.int z] = some (.im (.bl true)) := fun z => rfl
  have hN3 : (N.map (M.im ∘ D.int)).set j (.im (.int y)) = N2.map (M.im ∘ D.int) := by
    have := congrArg (List.map M.im) hN2
    simpa [List.map_set] using this
  have hq : (x == z) = false := by simp [hne]
  have hq2 : (x == x) = true := by simp
  have hN4 : M.fzs (N2.map (M.im ∘ D.int)) = some (N2.map D.int) := by
    rw [← List.map_map]; exact fzs_ims _
  have hN5 : (N.map (M.im ∘ D.int))[j]? = some (.im (.int N[j])) := by simp [hj]
  have hN6 : M.fzs (N.map (M.im ∘ D.int)) = some (N.map D.int) := by
    rw [← List.map_map]; exact fzs_ims _
  unfold G_law b_law
  simp [startG, e0, e1, e2, e3, n0, n1, lineD, hl, hn, hn0, hat, hix, ho, hy, hN3, hN4, hN5, hN6, k1, k2, w0, D.sc, forRun_cons, lb_law_2, x0, x1, z0, z1, hq, hq2, CPow]
theorem law_true {K : PySem.W.Frag} (ns : List Int) (h : ns.length ≤ 63) : G_law (K := K) [.scr (ns.map D.int)] = some (.im (.bl true)) := by
  obtain ⟨c0, e0⟩ := cell_int ns 0 (by decide)
  obtain ⟨c1, e1⟩ := cell_int ns 1 (by decide)
  obtain ⟨c2, e2⟩ := cell_int ns 2 (by decide)
  obtain ⟨c3, e3⟩ := cell_int ns 3 (by decide)
  have hlen : (cutL ns (some 4) (some 44)).length ≤ 40 := cutL_le ns 4 44
  obtain ⟨k, hl⟩ := grow_run (K := K) (.im (.scr (ns.map D.int))) .emp .emp .emp .emp .emp (startI c0) (dayI c1) (cutL ns (some 4) (some 44)) hlen
  rw [← cutD_map] at hl
  have hNl : (numsC c0 c1 (cutL ns (some 4) (some 44))).length = 2 + 2 * (cutL ns (some 4) (some 44)).length := by simp [numsC, flat_len]; omega
  have hN : (startI c0 :: dayI c1 :: flatR ((cutL ns (some 4) (some 44)).map rowC)) = numsC c0 c1 (cutL ns (some 4) (some 44)) := rfl
  rw [hN] at hl
  generalize cutL ns (some 4) (some 44) = cs at hlen hl hNl
  have ok := nums_ok c0 c1 cs
  obtain ⟨j, hj⟩ := Int.eq_ofNat_of_zero_le (Int.emod_nonneg c2 (b := ((numsC c0 c1 cs).length : Int)) (by omega))
  have hj2 : j < (numsC c0 c1 cs).length := by
    have := Int.emod_lt_of_pos c2 (b := ((numsC c0 c1 cs).length : Int)) (by omega)
    omega
  have hx := List.getElem?_eq_getElem hj2
  obtain ⟨oo, on⟩ := other_ok c0 c1 cs j _ c3 hx
  generalize hv : otherI ((numsC c0 c1 cs)[j]) (j : Int) c3 = v at oo on
  have hm : ∀ N : List Int, okL N = true → N.length % 2 = 0 → N.length ≤ 1000 → m_asked [.lst (N.map D.int)] = some (.im (.int (valN N))) := by
    intro N a b c
    simp [m_asked, a, b, c]
  have hb : ∀ N : List Int, okL N = true → 0 ≤ valN N ∧ valN N ≤ 18446744073709551615 := by
    intro N a
    match N, a with
    | s :: r, a =>
      simp only [okL, Bool.and_eq_true] at a
      have := okN_iff.mp (fold_ok r (s + 1) a.1 a.2)
      exact ⟨this.1, by have := this.2; show r.foldl stepI (s + 1) ≤ _; omega⟩
  exact law_core ns c0 c1 c2 c3 (startI c0) (dayI c1) _ v _ _ j (numsC c0 c1 cs) ((numsC c0 c1 cs).set j v) k _ e0 e1 e2 e3 rfl rfl hl rfl (by omega) hj
    (by unfold ixN; rw [if_pos (Int.natCast_nonneg _), if_pos (by omega)]; rfl) (by rw [atD_nat, List.getElem?_map, hx]; rfl) (by rw [← hv]; rfl) (by rw [List.map_set]) hj2
    (hm _ ok (by omega) (by omega)) _ (hm _ oo (by rw [List.length_set]; omega) (by rw [List.length_set]; omega)) (hb _ ok).1 (hb _ ok).2 (hb _ oo).1 (hb _ oo).2 (Ne.symm on)


def spLaw (K : PySem.W.Frag) : Sp := fun vs H Q _ => ∃ (a : Addr) (ns : List Int), vs = [.ref a] ∧ SqL K H a (ns.map V.int) ∧ ns.length ≤ 63 ∧ ∀ H', Q (.bl true) H'
theorem ok_end {P : Program} {w : World} {K : PySem.W.Frag} {mg : Str → Option Value} {base : Heap} {fa : Nat → Addr} {fd : Nat → FuncData} (Z : Txt K mg fa fd) : FnOk P w K mg base CX0 4 (fa 13) (fd 13) ["_law_script"] (spLaw K) := by
  refine FnOk.imp (ok_law Z) fun vs H Q E h => ?_
  obtain ⟨a, ns, rfl, hS, hl, q⟩ := h
  exact ⟨H, [.scr (ns.map D.int)], .im (.bl true), Evl.Ex.refl _, ⟨_, [], rfl, ⟨a, ns.map V.int, rfl, hS, reps_of_ints ns⟩, rfl⟩, law_true ns hl, fun v Hb2 H2 Fr _ _ _ _ o _ _ => by
    obtain ⟨o1, _⟩ := o
    rw [show v = V.bl true from o1]
    exact q H2⟩
theorem all_mk {l : PySem.W.OpenLaw} {K : PySem.W.Frag} {h : Heap} {mg : Str → Option Value} {fl : Addr} (X : K.In h) (G : h.Ns mainGlobals mg) (hfa : mg "law" = some (.ref fl))
    {f2 : Addr} {od2 an2 : Option Addr} {sl2 : Array (Option Value)} {oc2 kV2 dc2 pm2 cd2 ct2 : Value}
    (a2 : PySem.W.nsIn K mainGlobals "turned" = some (some (.ref f2))) (l2 : K.lookup f2 = some ⟨oc2, od2, .func (PySem.W.fnOf "turned" "turned" (defArgs s_turned) (defBody s_turned) (defScope s_turned) .none kV2 dc2 pm2 an2 cd2 ct2), sl2⟩) (c2 : PySem.W.codeIn K cd2 "turned" = true) (k2 : PySem.W.keepIn K (.ref f2) = true)
    {f3 : Addr} {od3 an3 : Option Addr} {sl3 : Array (Option Value)} {oc3 kV3 dc3 pm3 cd3 ct3 : Value}
    (a3 : PySem.W.nsIn K mainGlobals "check_of" = some (some (.ref f3))) (l3 : K.lookup f3 = some ⟨oc3, od3, .func (PySem.W.fnOf "check_of" "check_of" (defArgs s_check_of) (defBody s_check_of) (defScope s_check_of) .none kV3 dc3 pm3 an3 cd3 ct3), sl3⟩) (c3 : PySem.W.codeIn K cd3 "check_of" = true) (k3 : PySem.W.keepIn K (.ref f3) = true)
    {f5 : Addr} {od5 an5 : Option Addr} {sl5 : Array (Option Value)} {oc5 kV5 dc5 pm5 cd5 ct5 : Value}
    (a5 : PySem.W.nsIn K mainGlobals "_law_cell" = some (some (.ref f5))) (l5 : K.lookup f5 = some ⟨oc5, od5, .func (PySem.W.fnOf "_law_cell" "_law_cell" (defArgs s__law_cell) (defBody s__law_cell) (defScope s__law_cell) .none kV5 dc5 pm5 an5 cd5 ct5), sl5⟩) (c5 : PySem.W.codeIn K cd5 "_law_cell" = true) (k5 : PySem.W.keepIn K (.ref f5) = true)
    {f6 : Addr} {od6 an6 : Option Addr} {sl6 : Array (Option Value)} {oc6 kV6 dc6 pm6 cd6 ct6 : Value}
    (a6 : PySem.W.nsIn K mainGlobals "_law_whole" = some (some (.ref f6))) (l6 : K.lookup f6 = some ⟨oc6, od6, .func (PySem.W.fnOf "_law_whole" "_law_whole" (defArgs s__law_whole) (defBody s__law_whole) (defScope s__law_whole) .none kV6 dc6 pm6 an6 cd6 ct6), sl6⟩) (c6 : PySem.W.codeIn K cd6 "_law_whole" = true) (k6 : PySem.W.keepIn K (.ref f6) = true)
    {f7 : Addr} {od7 an7 : Option Addr} {sl7 : Array (Option Value)} {oc7 kV7 dc7 pm7 cd7 ct7 : Value}
    (a7 : PySem.W.nsIn K mainGlobals "_law_stir" = some (some (.ref f7))) (l7 : K.lookup f7 = some ⟨oc7, od7, .func (PySem.W.fnOf "_law_stir" "_law_stir" (defArgs s__law_stir) (defBody s__law_stir) (defScope s__law_stir) .none kV7 dc7 pm7 an7 cd7 ct7), sl7⟩) (c7 : PySem.W.codeIn K cd7 "_law_stir" = true) (k7 : PySem.W.keepIn K (.ref f7) = true)
    {f8 : Addr} {od8 an8 : Option Addr} {sl8 : Array (Option Value)} {oc8 kV8 dc8 pm8 cd8 ct8 : Value}
    (a8 : PySem.W.nsIn K mainGlobals "_law_block" = some (some (.ref f8))) (l8 : K.lookup f8 = some ⟨oc8, od8, .func (PySem.W.fnOf "_law_block" "_law_block" (defArgs s__law_block) (defBody s__law_block) (defScope s__law_block) .none kV8 dc8 pm8 an8 cd8 ct8), sl8⟩) (c8 : PySem.W.codeIn K cd8 "_law_block" = true) (k8 : PySem.W.keepIn K (.ref f8) = true)
    {f9 : Addr} {od9 an9 : Option Addr} {sl9 : Array (Option Value)} {oc9 kV9 dc9 pm9 cd9 ct9 : Value}
    (a9 : PySem.W.nsIn K mainGlobals "_law_start" = some (some (.ref f9))) (l9 : K.lookup f9 = some ⟨oc9, od9, .func (PySem.W.fnOf "_law_start" "_law_start" (defArgs s__law_start) (defBody s__law_start) (defScope s__law_start) .none kV9 dc9 pm9 an9 cd9 ct9), sl9⟩) (c9 : PySem.W.codeIn K cd9 "_law_start" = true) (k9 : PySem.W.keepIn K (.ref f9) = true)
    {f10 : Addr} {od10 an10 : Option Addr} {sl10 : Array (Option Value)} {oc10 kV10 dc10 pm10 cd10 ct10 : Value}
    (a10 : PySem.W.nsIn K mainGlobals "_law_day" = some (some (.ref f10))) (l10 : K.lookup f10 = some ⟨oc10, od10, .func (PySem.W.fnOf "_law_day" "_law_day" (defArgs s__law_day) (defBody s__law_day) (defScope s__law_day) .none kV10 dc10 pm10 an10 cd10 ct10), sl10⟩) (c10 : PySem.W.codeIn K cd10 "_law_day" = true) (k10 : PySem.W.keepIn K (.ref f10) = true)
    {f11 : Addr} {od11 an11 : Option Addr} {sl11 : Array (Option Value)} {oc11 kV11 dc11 pm11 cd11 ct11 : Value}
    (a11 : PySem.W.nsIn K mainGlobals "_law_other" = some (some (.ref f11))) (l11 : K.lookup f11 = some ⟨oc11, od11, .func (PySem.W.fnOf "_law_other" "_law_other" (defArgs s__law_other) (defBody s__law_other) (defScope s__law_other) .none kV11 dc11 pm11 an11 cd11 ct11), sl11⟩) (c11 : PySem.W.codeIn K cd11 "_law_other" = true) (k11 : PySem.W.keepIn K (.ref f11) = true)
    {f12 : Addr} {od12 an12 : Option Addr} {sl12 : Array (Option Value)} {oc12 kV12 dc12 pm12 cd12 ct12 : Value}
    (a12 : PySem.W.nsIn K mainGlobals "_law_asked" = some (some (.ref f12))) (l12 : K.lookup f12 = some ⟨oc12, od12, .func (PySem.W.fnOf "_law_asked" "_law_asked" (defArgs s__law_asked) (defBody s__law_asked) (defScope s__law_asked) .none kV12 dc12 pm12 an12 cd12 ct12), sl12⟩) (c12 : PySem.W.codeIn K cd12 "_law_asked" = true) (k12 : PySem.W.keepIn K (.ref f12) = true)
    {f13 : Addr} {od13 an13 : Option Addr} {sl13 : Array (Option Value)} {oc13 kV13 dc13 pm13 cd13 ct13 : Value}
    (a13 : PySem.W.nsIn K mainGlobals "law" = some (some (.ref f13))) (l13 : K.lookup f13 = some ⟨oc13, od13, .func (PySem.W.fnOf "law" "law" (defArgs s_law) (defBody s_law) (defScope s_law) .none kV13 dc13 pm13 an13 cd13 ct13), sl13⟩) (c13 : PySem.W.codeIn K cd13 "law" = true) (k13 : PySem.W.keepIn K (.ref f13) = true)
    (z_bool : PySem.W.nsIn K mainGlobals "bool" = some none)
    (z_int : PySem.W.nsIn K mainGlobals "int" = some none)
    (z_isinstance : PySem.W.nsIn K mainGlobals "isinstance" = some none)
    (z_len : PySem.W.nsIn K mainGlobals "len" = some none)
    (z_list : PySem.W.nsIn K mainGlobals "list" = some none)
    (z_range : PySem.W.nsIn K mainGlobals "range" = some none)
    {t_FULL : Tok} (c_FULL : PySem.W.nsIn K mainGlobals "FULL" = some (some (.int 18446744073709551615 t_FULL)))
    : ∃ fd : FuncData, (∀ (s : Shared) (v : Value), BindsTo s fd ⟨[v], []⟩ [("_law_script", v)]) ∧ ∀ (w : World) (base : Heap), K.In base → base.Ns mainGlobals mg → FnOk l.prog w K mg base CX0 4 fl fd ["_law_script"] (spLaw K) := by
  have e := hfa.symm.trans (PySem.W.mg_of X G a13)
  cases e
  have F2 := fun_mk (st := s_turned) l2 c2 k2
  have b2 := F2.binds (ps := ["number"]) fun _ _ _ _ _ _ us hl => match us, hl with | [_], _ => rfl
  have F3 := fun_mk (st := s_check_of) l3 c3 k3
  have b3 := F3.binds (ps := ["start", "day", "rows"]) fun _ _ _ _ _ _ us hl => match us, hl with | [_, _, _], _ => rfl
  have F5 := fun_mk (st := s__law_cell) l5 c5 k5
  have b5 := F5.binds (ps := ["_law_script", "_law_k"]) fun _ _ _ _ _ _ us hl => match us, hl with | [_, _], _ => rfl
  have F6 := fun_mk (st := s__law_whole) l6 c6 k6
  have b6 := F6.binds (ps := ["_law_found"]) fun _ _ _ _ _ _ us hl => match us, hl with | [_], _ => rfl
  have F7 := fun_mk (st := s__law_stir) l7 c7 k7
  have b7 := F7.binds (ps := ["_law_cell_here", "_law_k"]) fun _ _ _ _ _ _ us hl => match us, hl with | [_, _], _ => rfl
  have F8 := fun_mk (st := s__law_block) l8 c8 k8
  have b8 := F8.binds (ps := ["_law_cell_here", "_law_k"]) fun _ _ _ _ _ _ us hl => match us, hl with | [_, _], _ => rfl
  have F9 := fun_mk (st := s__law_start) l9 c9 k9
  have b9 := F9.binds (ps := ["_law_cell_here"]) fun _ _ _ _ _ _ us hl => match us, hl with | [_], _ => rfl
  have F10 := fun_mk (st := s__law_day) l10 c10 k10
  have b10 := F10.binds (ps := ["_law_cell_here"]) fun _ _ _ _ _ _ us hl => match us, hl with | [_], _ => rfl
  have F11 := fun_mk (st := s__law_other) l11 c11 k11
  have b11 := F11.binds (ps := ["_law_old", "_law_at", "_law_cell_here"]) fun _ _ _ _ _ _ us hl => match us, hl with | [_, _, _], _ => rfl
  have F12 := fun_mk (st := s__law_asked) l12 c12 k12
  have b12 := F12.binds (ps := ["_law_numbers"]) fun _ _ _ _ _ _ us hl => match us, hl with | [_], _ => rfl
  have F13 := fun_mk (st := s_law) l13 c13 k13
  have b13 := F13.binds (ps := ["_law_script"]) fun _ _ _ _ _ _ us hl => match us, hl with | [_], _ => rfl
  let fa : Nat → Addr := fun i => match i with | 2 => f2 | 3 => f3 | 5 => f5 | 6 => f6 | 7 => f7 | 8 => f8 | 9 => f9 | 10 => f10 | 11 => f11 | 12 => f12 | 13 => fl | _ => 0
  let fd : Nat → FuncData := fun i => match i with | 2 => PySem.W.fnOf "turned" "turned" (defArgs s_turned) (defBody s_turned) (defScope s_turned) .none kV2 dc2 pm2 an2 cd2 ct2 | 3 => PySem.W.fnOf "check_of" "check_of" (defArgs s_check_of) (defBody s_check_of) (defScope s_check_of) .none kV3 dc3 pm3 an3 cd3 ct3 | 5 => PySem.W.fnOf "_law_cell" "_law_cell" (defArgs s__law_cell) (defBody s__law_cell) (defScope s__law_cell) .none kV5 dc5 pm5 an5 cd5 ct5 | 6 => PySem.W.fnOf "_law_whole" "_law_whole" (defArgs s__law_whole) (defBody s__law_whole) (defScope s__law_whole) .none kV6 dc6 pm6 an6 cd6 ct6 | 7 => PySem.W.fnOf "_law_stir" "_law_stir" (defArgs s__law_stir) (defBody s__law_stir) (defScope s__law_stir) .none kV7 dc7 pm7 an7 cd7 ct7 | 8 => PySem.W.fnOf "_law_block" "_law_block" (defArgs s__law_block) (defBody s__law_block) (defScope s__law_block) .none kV8 dc8 pm8 an8 cd8 ct8 | 9 => PySem.W.fnOf "_law_start" "_law_start" (defArgs s__law_start) (defBody s__law_start) (defScope s__law_start) .none kV9 dc9 pm9 an9 cd9 ct9 | 10 => PySem.W.fnOf "_law_day" "_law_day" (defArgs s__law_day) (defBody s__law_day) (defScope s__law_day) .none kV10 dc10 pm10 an10 cd10 ct10 | 11 => PySem.W.fnOf "_law_other" "_law_other" (defArgs s__law_other) (defBody s__law_other) (defScope s__law_other) .none kV11 dc11 pm11 an11 cd11 ct11 | 12 => PySem.W.fnOf "_law_asked" "_law_asked" (defArgs s__law_asked) (defBody s__law_asked) (defScope s__law_asked) .none kV12 dc12 pm12 an12 cd12 ct12 | 13 => PySem.W.fnOf "law" "law" (defArgs s_law) (defBody s_law) (defScope s_law) .none kV13 dc13 pm13 an13 cd13 ct13 | _ => PySem.W.fnOf "law" "law" (defArgs s_law) (defBody s_law) (defScope s_law) .none kV13 dc13 pm13 an13 cd13 ct13
  have Z : Txt K mg fa fd := { F_turned := F2, g_turned := PySem.W.mg_of X G a2, b_turned := b2, F_check_of := F3, g_check_of := PySem.W.mg_of X G a3, b_check_of := b3, F__law_cell := F5, g__law_cell := PySem.W.mg_of X G a5, b__law_cell := b5, F__law_whole := F6, g__law_whole := PySem.W.mg_of X G a6, b__law_whole := b6, F__law_stir := F7, g__law_stir := PySem.W.mg_of X G a7, b__law_stir := b7, F__law_block := F8, g__law_block := PySem.W.mg_of X G a8, b__law_block := b8, F__law_start := F9, g__law_start := PySem.W.mg_of X G a9, b__law_start := b9, F__law_day := F10, g__law_day := PySem.W.mg_of X G a10, b__law_day := b10, F__law_other := F11, g__law_other := PySem.W.mg_of X G a11, b__law_other := b11, F__law_asked := F12, g__law_asked := PySem.W.mg_of X G a12, b__law_asked := b12, F_law := F13, g_law := PySem.W.mg_of X G a13, b_law := b13, z_bool := PySem.W.mg_none_of X G z_bool, z_int := PySem.W.mg_none_of X G z_int, z_isinstance := PySem.W.mg_none_of X G z_isinstance, z_len := PySem.W.mg_none_of X G z_len, z_list := PySem.W.mg_none_of X G z_list, z_range := PySem.W.mg_none_of X G z_range, c_FULL := ⟨_, PySem.W.mg_of X G c_FULL⟩ }
  exact ⟨fd 13, fun s v => .of_eq rfl, fun w base _ _ => ok_end Z⟩
theorem fin_w {l : PySem.W.OpenLaw} {K : PySem.W.Frag} {mg : Str → Option Value} {fl : Addr} {k : Nat} (w : World) (z : ∃ fd : FuncData, (∀ (s : Shared) (v : Value), BindsTo s fd ⟨[v], []⟩ [("_law_script", v)]) ∧ ∀ (w : World) (base : Heap), K.In base → base.Ns mainGlobals mg → FnOk l.prog w K mg base CX0 k fl fd ["_law_script"] (spLaw K)) : ∃ fd : FuncData, (∀ (s : Shared) (v : Value), BindsTo s fd ⟨[v], []⟩ [("_law_script", v)]) ∧ ∀ base : Heap, K.In base → base.Ns mainGlobals mg → FnOk l.prog w K mg base CX0 k fl fd ["_law_script"] (spLaw K) := let ⟨fd, h1, h2⟩ := z; ⟨fd, h1, h2 w⟩
end Law
open PySem PySem.W PyProof.Rows
set_option maxHeartbeats 0 in
theorem PySem.Challenge.cw_keepsakes_k13_one_number_changed_holds : PySem.Challenge.rw_keepsakes_k13_one_number_changed.Holds := by
  w_on; o_law; k_head; (case hw => w_witness2)
  k_fill
  refine L2.walk_of (l := PySem.Challenge.rw_keepsakes_k13_one_number_changed) (n := 63) (k := 4) (x := "_law_script") (CX := fun _ => L2.CX0) (sp := fun w => Law.spLaw _) rfl (by decide) rfl ⟨rfl, by decide, by decide⟩ (fun w h Y => PySem.W.kIn_of Y) ?F (fun _ _ a ns hl _ hS => ⟨a, ns, rfl, hS, hl, fun _ => rfl⟩) (fun _ _ _ _ _ h => h)
  case F =>
    intro w mg fa h KX G hmg
    refine' Law.fin_w w (Law.all_mk (l := PySem.Challenge.rw_keepsakes_k13_one_number_changed) KX G hmg ?a2 ?l2 ?c2 ?k2 ?a3 ?l3 ?c3 ?k3 ?a5 ?l5 ?c5 ?k5 ?a6 ?l6 ?c6 ?k6 ?a7 ?l7 ?c7 ?k7 ?a8 ?l8 ?c8 ?k8 ?a9 ?l9 ?c9 ?k9 ?a10 ?l10 ?c10 ?k10 ?a11 ?l11 ?c11 ?k11 ?a12 ?l12 ?c12 ?k12 ?a13 ?l13 ?c13 ?k13 ?z_bool ?z_int ?z_isinstance ?z_len ?z_list ?z_range ?c_FULL)
    (case a2 => k_is)
    (case l2 => k_is)
    (case c2 => k_is)
    (case k2 => k_is)
    (case a3 => k_is)
    (case l3 => k_is)
    (case c3 => k_is)
    (case k3 => k_is)
    (case a5 => k_is)
    (case l5 => k_is)
    (case c5 => k_is)
    (case k5 => k_is)
    (case a6 => k_is)
    (case l6 => k_is)
    (case c6 => k_is)
    (case k6 => k_is)
    (case a7 => k_is)
    (case l7 => k_is)
    (case c7 => k_is)
    (case k7 => k_is)
    (case a8 => k_is)
    (case l8 => k_is)
    (case c8 => k_is)
    (case k8 => k_is)
    (case a9 => k_is)
    (case l9 => k_is)
    (case c9 => k_is)
    (case k9 => k_is)
    (case a10 => k_is)
    (case l10 => k_is)
    (case c10 => k_is)
    (case k10 => k_is)
    (case a11 => k_is)
    (case l11 => k_is)
    (case c11 => k_is)
    (case k11 => k_is)
    (case a12 => k_is)
    (case l12 => k_is)
    (case c12 => k_is)
    (case k12 => k_is)
    (case a13 => k_is)
    (case l13 => k_is)
    (case c13 => k_is)
    (case k13 => k_is)
    (case z_bool => k_is)
    (case z_int => k_is)
    (case z_isinstance => k_is)
    (case z_len => k_is)
    (case z_list => k_is)
    (case z_range => k_is)
    (case c_FULL => k_is)

