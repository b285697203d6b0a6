import PyProof.Rows.All
import Wide.All
import OpenK.AllK
import Wide.FinOn
import HandS.ForMost
import HandS.Wide
import HandS.WideBits
import HandS.Evl
import HandS.IsInst
import HandS.Zip
import HandS.Words
import PySem.Challenge.RW_keepsakes_k07_whole_row_of_days
set_option Elab.async false
set_option linter.all false
set_option maxRecDepth 100000
set_option maxHeartbeats 4000000
namespace KS
open PySem L2
abbrev Ex := Evl.Ex

/-! ### data -/
inductive D where
  | non | bl (b : Bool) | int (i : Int) | str (s : Str) | ty (n : String) | cls (c : String)
  | tup (l : List D) | lst (l : List D) | scr (l : List D) | dic (ks : List Key) (l : List D) | obj (c : String) (ns : List Str) (l : List D)
  deriving Inhabited
/-- where the class of that name stands -/
def clsA (K : PySem.W.Frag) (c : String) : Addr := match PySem.W.nsIn K mainGlobals (Str.ofString c) with | some (some (.ref C)) => C | _ => 0
theorem clsA_of {K : PySem.W.Frag} {c : String} {C : Addr} (h : PySem.W.nsIn K mainGlobals (Str.ofString c) = some (some (.ref C))) : clsA K c = C := by
  unfold clsA; rw [h]
mutual
def rep (K : PySem.W.Frag) (H : Hp) : D → V → Prop
  | .non, v => v = .non
  | .bl b, v => v = .bl b
  | .int i, v => v = .int i
  | .str s, v => v = .str s
  | .ty n, v => v = .ty n
  | .cls c, v => v = .ref (clsA K c)
  | .tup l, v => ∃ a xs, v = .ref a ∧ SqT K H a xs ∧ reps K H l xs
  | .lst l, v => ∃ a xs, v = .ref a ∧ H a = some (.lst xs) ∧ reps K H l xs
  | .scr l, v => ∃ a xs, v = .ref a ∧ SqL K H a xs ∧ reps K H l xs
  | .dic ks l, v => ∃ a xs, v = .ref a ∧ Rd H a (.dK (ks.zip xs)) ∧ xs.length = ks.length ∧ reps K H l xs
  | .obj C ns l, v => ∃ a dx xs, v = .ref a ∧ H a = some (.ins (clsA K C) dx (ns.zip xs)) ∧ xs.length = ns.length ∧ reps K H l xs
def reps (K : PySem.W.Frag) (H : Hp) : List D → List V → Prop
  | [], xs => xs = []
  | d :: ds, xs => ∃ x r, xs = x :: r ∧ rep K H d x ∧ reps K H ds r
end
mutual
theorem rep_mono {K : PySem.W.Frag} {H H' : Hp} (e : Ex H H') : ∀ {d : D} {v : V}, rep K H d v → rep K H' d v
  | .non, _, h => h
  | .bl _, _, h => h
  | .int _, _, h => h
  | .str _, _, h => h
  | .ty _, _, h => h
  | .cls _, _, h => h
  | .tup l, v, h => by
    obtain ⟨a, xs, h1, h2, h3⟩ := h
    exact ⟨a, xs, h1, Evl.ex_t e h2, reps_mono e h3⟩
  | .lst l, v, h => by
    obtain ⟨a, xs, h1, h2, h3⟩ := h
    exact ⟨a, xs, h1, e _ _ h2, reps_mono e h3⟩
  | .scr l, v, h => by
    obtain ⟨a, xs, h1, h2, h3⟩ := h
    exact ⟨a, xs, h1, Evl.ex_l e h2, reps_mono e h3⟩
  | .dic ks l, v, h => by
    obtain ⟨a, xs, h1, h2, h3, h4⟩ := h
    exact ⟨a, xs, h1, Evl.ex_rd e h2, h3, reps_mono e h4⟩
  | .obj C ns l, v, h => by
    obtain ⟨a, dx, xs, h1, h2, h3, h4⟩ := h
    exact ⟨a, dx, xs, h1, e _ _ h2, h3, reps_mono e h4⟩
theorem reps_mono {K : PySem.W.Frag} {H H' : Hp} (e : Ex H H') : ∀ {ds : List D} {xs : List V}, reps K H ds xs → reps K H' ds xs
  | [], _, h => h
  | d :: ds, _, h => by
    obtain ⟨x, r, h1, h2, h3⟩ := h
    exact ⟨x, r, h1, rep_mono e h2, reps_mono e h3⟩
end
theorem reps_len {K : PySem.W.Frag} {H : Hp} : ∀ {ds : List D} {xs : List V}, reps K H ds xs → xs.length = ds.length
  | [], xs, h => by
    have h' : xs = [] := h
    rw [h']; rfl
  | d :: ds, xs, h => by
    obtain ⟨x, r, rfl, h2, h3⟩ := h
    simp [reps_len h3]
theorem reps_get {K : PySem.W.Frag} {H : Hp} : ∀ {ds : List D} {xs : List V} {i : Nat} {x : V}, reps K H ds xs → xs[i]? = some x → ∃ d, ds[i]? = some d ∧ rep K H d x
  | [], xs, i, x, h, e => by
    have h' : xs = [] := h
    rw [h'] at e; simp at e
  | d :: ds, xs, i, x, h, e => by
    obtain ⟨y, r, rfl, h2, h3⟩ := h
    cases i with
    | zero => simp at e; subst e; exact ⟨d, by simp, h2⟩
    | succ i => simp at e; obtain ⟨d', e1, e2⟩ := reps_get h3 e; exact ⟨d', by simpa using e1, e2⟩
theorem reps_get' {K : PySem.W.Frag} {H : Hp} {ds : List D} {xs : List V} {i : Nat} {d : D} (h : reps K H ds xs) (e : ds[i]? = some d) : ∃ x, xs[i]? = some x ∧ rep K H d x := by
  have hl := reps_len h
  have hi : i < ds.length := (List.getElem?_eq_some_iff.mp e).1
  have hx : xs[i]? = some (xs[i]'(by omega)) := List.getElem?_eq_getElem _
  obtain ⟨d', e1, e2⟩ := reps_get h hx
  rw [e] at e1; cases e1
  exact ⟨_, hx, e2⟩
theorem reps_append {K : PySem.W.Frag} {H : Hp} : ∀ {ds es : List D} {xs ys : List V}, reps K H ds xs → reps K H es ys → reps K H (ds ++ es) (xs ++ ys)
  | [], es, xs, ys, h, g => by
    have h' : xs = [] := h
    subst h'; exact g
  | d :: ds, es, xs, ys, h, g => by
    obtain ⟨x, r, rfl, h2, h3⟩ := h
    exact ⟨x, r ++ ys, rfl, h2, reps_append h3 g⟩
theorem reps_drop {K : PySem.W.Frag} {H : Hp} : ∀ (n : Nat) {ds : List D} {xs : List V}, reps K H ds xs → reps K H (ds.drop n) (xs.drop n)
  | 0, _, _, h => by simpa using h
  | n + 1, [], xs, h => by
    have h' : xs = [] := h
    subst h'; simp [reps]
  | n + 1, d :: ds, xs, h => by
    obtain ⟨x, r, rfl, h2, h3⟩ := h
    simpa using reps_drop n h3
theorem reps_take {K : PySem.W.Frag} {H : Hp} : ∀ (n : Nat) {ds : List D} {xs : List V}, reps K H ds xs → reps K H (ds.take n) (xs.take n)
  | 0, _, _, h => by simp [reps]
  | n + 1, [], xs, h => by
    have h' : xs = [] := h
    subst h'; simp [reps]
  | n + 1, d :: ds, xs, h => by
    obtain ⟨x, r, rfl, h2, h3⟩ := h
    exact ⟨x, r.take n, by simp, h2, reps_take n h3⟩
theorem reps_ints {K : PySem.W.Frag} {H : Hp} : ∀ {ns : List Int} {xs : List V}, reps K H (ns.map D.int) xs → xs = ns.map V.int
  | [], xs, h => h
  | n :: ns, xs, h => by
    obtain ⟨x, r, rfl, h2, h3⟩ := h
    have h2' : x = V.int n := h2
    rw [h2', reps_ints h3]; rfl
theorem reps_of_ints {K : PySem.W.Frag} {H : Hp} : ∀ (ns : List Int), reps K H (ns.map D.int) (ns.map V.int)
  | [] => rfl
  | n :: ns => ⟨_, _, rfl, rfl, reps_of_ints ns⟩
/-- a list, however it is held -/
def D.asL : D → Option (List D)
  | .lst l => some l
  | .scr l => some l
  | _ => none
theorem rep_asL {K : PySem.W.Frag} {H : Hp} : ∀ {d : D} {l : List D} {v : V}, d.asL = some l → rep K H d v → ∃ a xs, v = .ref a ∧ SqL K H a xs ∧ reps K H l xs
  | .lst l, _, v, e, h => by
    cases e
    obtain ⟨a, xs, h1, h2, h3⟩ := h
    exact ⟨a, xs, h1, SqL.of h2, h3⟩
  | .scr l, _, v, e, h => by
    cases e
    exact h
/-- a list or a tuple -/
def D.asS : D → Option (List D)
  | .lst l => some l
  | .scr l => some l
  | .tup l => some l
  | _ => none
theorem rep_asS {K : PySem.W.Frag} {H : Hp} : ∀ {d : D} {l : List D} {v : V}, d.asS = some l → rep K H d v → ∃ a xs, v = .ref a ∧ (SqL K H a xs ∨ SqT K H a xs) ∧ reps K H l xs
  | .lst l, _, v, e, h => by
    cases e
    obtain ⟨a, xs, h1, h2, h3⟩ := h
    exact ⟨a, xs, h1, .inl (SqL.of h2), h3⟩
  | .scr l, _, v, e, h => by
    cases e
    obtain ⟨a, xs, h1, h2, h3⟩ := h
    exact ⟨a, xs, h1, .inl h2, h3⟩
  | .tup l, _, v, e, h => by
    cases e
    obtain ⟨a, xs, h1, h2, h3⟩ := h
    exact ⟨a, xs, h1, .inr h2, h3⟩
/-- a datum without parts, as a value -/
def D.sc : D → Option V
  | .non => some .non
  | .bl b => some (.bl b)
  | .int i => some (.int i)
  | .str s => some (.str s)
  | .ty n => some (.ty n)
  | _ => none
theorem rep_sc {K : PySem.W.Frag} {H : Hp} : ∀ {d : D} {v : V}, d.sc = some v → rep K H d v
  | .non, _, h => by cases h; rfl
  | .bl _, _, h => by cases h; rfl
  | .int _, _, h => by cases h; rfl
  | .str _, _, h => by cases h; rfl
  | .ty _, _, h => by cases h; rfl
theorem sc_rep {K : PySem.W.Frag} {H : Hp} : ∀ {d : D} {v w : V}, d.sc = some v → rep K H d w → w = v
  | .non, _, _, h, r => by cases h; exact r
  | .bl _, _, _, h, r => by cases h; exact r
  | .int _, _, _, h, r => by cases h; exact r
  | .str _, _, _, h, r => by cases h; exact r
  | .ty _, _, _, h, r => by cases h; exact r

/-! ### what a name holds: a datum that never changes, or an own thing that may -/
inductive Sh where
  | lst | dic (ks : List Key) | ins (c : String) (ns : List Str) | tup
def Sh.ho (K : PySem.W.Frag) : Sh → Addr → List V → HO
  | .lst, _, vs => .lst vs
  | .dic ks, _, vs => .dK (ks.zip vs)
  | .ins C ns, dx, vs => .ins (clsA K C) dx (ns.zip vs)
  | .tup, _, vs => .tup vs
def Sh.fit : Sh → Nat → Prop
  | .lst, _ => True
  | .dic ks, n => ks.length = n
  | .ins _ ns, n => ns.length = n
  | .tup, _ => True
inductive M where
  | emp | im (d : D) | nd (sh : Sh) (cs : List M)
  deriving Inhabited
mutual
def M.fz : M → Option D
  | .emp => none
  | .im d => some d
  | .nd .lst cs => (M.fzs cs).map D.lst
  | .nd (.dic ks) cs => (M.fzs cs).map (D.dic ks)
  | .nd (.ins C ns) cs => (M.fzs cs).map (D.obj C ns)
  | .nd .tup cs => (M.fzs cs).map D.tup
def M.fzs : List M → Option (List D)
  | [] => some []
  | m :: ms => match M.fz m, M.fzs ms with
    | some d, some ds => some (d :: ds)
    | _, _ => none
end
mutual
def Own (K : PySem.W.Frag) (Hb H : Hp) : M → V → List Addr → Prop
  | .emp, _, F => F = []
  | .im d, v, F => rep K Hb d v ∧ F = []
  | .nd sh cs, v, F => ∃ a dx vs F1, v = .ref a ∧ H a = some (sh.ho K dx vs) ∧ sh.fit vs.length ∧ OwnL K Hb H cs vs F1 ∧ F = a :: F1
def OwnL (K : PySem.W.Frag) (Hb H : Hp) : List M → List V → List Addr → Prop
  | [], vs, F => vs = [] ∧ F = []
  | m :: ms, vs, F => ∃ v r F1 F2, vs = v :: r ∧ Own K Hb H m v F1 ∧ OwnL K Hb H ms r F2 ∧ F = F1 ++ F2
end
mutual
theorem Own.keep {K : PySem.W.Frag} {Hb H Hb2 H2 : Hp} (eb : Ex Hb Hb2) : ∀ {m : M} {v : V} {F : List Addr}, Own K Hb H m v F → (∀ a ∈ F, ∀ o, H a = some o → H2 a = some o) → Own K Hb2 H2 m v F
  | .emp, _, _, h, _ => h
  | .im d, _, _, h, _ => ⟨rep_mono eb h.1, h.2⟩
  | .nd sh cs, _, _, h, k => by
    obtain ⟨a, dx, vs, F1, e1, e2, e3, e4, rfl⟩ := h
    exact ⟨a, dx, vs, F1, e1, k a List.mem_cons_self _ e2, e3, OwnL.keep eb e4 fun b hb => k b (List.mem_cons_of_mem _ hb), rfl⟩
theorem OwnL.keep {K : PySem.W.Frag} {Hb H Hb2 H2 : Hp} (eb : Ex Hb Hb2) : ∀ {ms : List M} {vs : List V} {F : List Addr}, OwnL K Hb H ms vs F → (∀ a ∈ F, ∀ o, H a = some o → H2 a = some o) → OwnL K Hb2 H2 ms vs F
  | [], _, _, h, _ => h
  | m :: ms, _, _, h, k => by
    obtain ⟨v, r, F1, F2, rfl, e1, e2, rfl⟩ := h
    exact ⟨v, r, F1, F2, rfl, Own.keep eb e1 fun a ha => k a (List.mem_append_left _ ha), OwnL.keep eb e2 fun a ha => k a (List.mem_append_right _ ha), rfl⟩
end
mutual
theorem Own.there {K : PySem.W.Frag} {Hb H : Hp} : ∀ {m : M} {v : V} {F : List Addr}, Own K Hb H m v F → ∀ a ∈ F, H a ≠ none
  | .emp, _, _, h, a, ha => by rw [show _ = [] from h] at ha; cases ha
  | .im d, _, _, h, a, ha => by rw [h.2] at ha; cases ha
  | .nd sh cs, _, _, h, a, ha => by
    obtain ⟨b, dx, vs, F1, e1, e2, e3, e4, rfl⟩ := h
    rcases List.mem_cons.mp ha with rfl | ha
    · rw [e2]; simp
    · exact OwnL.there e4 a ha
theorem OwnL.there {K : PySem.W.Frag} {Hb H : Hp} : ∀ {ms : List M} {vs : List V} {F : List Addr}, OwnL K Hb H ms vs F → ∀ a ∈ F, H a ≠ none
  | [], _, _, h, a, ha => by rw [h.2] at ha; cases ha
  | m :: ms, _, _, h, a, ha => by
    obtain ⟨v, r, F1, F2, rfl, e1, e2, rfl⟩ := h
    rcases List.mem_append.mp ha with ha | ha
    · exact Own.there e1 a ha
    · exact OwnL.there e2 a ha
end
/-! frozen: the own things are part of what never changes from now on -/
mutual
theorem Own.fz {K : PySem.W.Frag} {Hb H Hb2 : Hp} (eb : Ex Hb Hb2) : ∀ {m : M} {v : V} {F : List Addr} {d : D}, Own K Hb H m v F → m.fz = some d → (∀ a ∈ F, ∀ o, H a = some o → Hb2 a = some o) → rep K Hb2 d v
  | .emp, _, _, _, _, e, _ => by simp [M.fz] at e
  | .im d, _, _, _, h, e, _ => by
    simp [M.fz] at e; subst e
    exact rep_mono eb h.1
  | .nd .lst cs, v, F, d, h, e, k => by
    obtain ⟨a, dx, vs, F1, e1, e2, e3, e4, rfl⟩ := h
    simp only [M.fz, Option.map_eq_some_iff] at e
    obtain ⟨ds, e5, rfl⟩ := e
    exact ⟨a, vs, e1, k a List.mem_cons_self _ e2, OwnL.fz eb e4 e5 fun b hb => k b (List.mem_cons_of_mem _ hb)⟩
  | .nd .tup cs, v, F, d, h, e, k => by
    obtain ⟨a, dx, vs, F1, e1, e2, e3, e4, rfl⟩ := h
    simp only [M.fz, Option.map_eq_some_iff] at e
    obtain ⟨ds, e5, rfl⟩ := e
    exact ⟨a, vs, e1, SqT.of (k a List.mem_cons_self _ e2), OwnL.fz eb e4 e5 fun b hb => k b (List.mem_cons_of_mem _ hb)⟩
  | .nd (.dic ks) cs, v, F, d, h, e, k => by
    obtain ⟨a, dx, vs, F1, e1, e2, e3, e4, rfl⟩ := h
    simp only [M.fz, Option.map_eq_some_iff] at e
    obtain ⟨ds, e5, rfl⟩ := e
    exact ⟨a, vs, e1, Rd.of (k a List.mem_cons_self _ e2), Eq.symm e3, OwnL.fz eb e4 e5 fun b hb => k b (List.mem_cons_of_mem _ hb)⟩
  | .nd (.ins C ns) cs, v, F, d, h, e, k => by
    obtain ⟨a, dx, vs, F1, e1, e2, e3, e4, rfl⟩ := h
    simp only [M.fz, Option.map_eq_some_iff] at e
    obtain ⟨ds, e5, rfl⟩ := e
    exact ⟨a, dx, vs, e1, k a List.mem_cons_self _ e2, Eq.symm e3, OwnL.fz eb e4 e5 fun b hb => k b (List.mem_cons_of_mem _ hb)⟩
theorem OwnL.fz {K : PySem.W.Frag} {Hb H Hb2 : Hp} (eb : Ex Hb Hb2) : ∀ {ms : List M} {vs : List V} {F : List Addr} {ds : List D}, OwnL K Hb H ms vs F → M.fzs ms = some ds → (∀ a ∈ F, ∀ o, H a = some o → Hb2 a = some o) → reps K Hb2 ds vs
  | [], _, _, _, h, e, _ => by
    simp [M.fzs] at e; subst e
    exact h.1
  | m :: ms, _, _, _, h, e, k => by
    obtain ⟨v, r, F1, F2, rfl, e1, e2, rfl⟩ := h
    simp only [M.fzs] at e
    split at e
    · rename_i d ds h1 h2
      cases e
      exact ⟨v, r, rfl, Own.fz eb e1 h1 fun a ha => k a (List.mem_append_left _ ha), OwnL.fz eb e2 h2 fun a ha => k a (List.mem_append_right _ ha)⟩
    · cases e
end

/-! ### the slots -/
def SlO (K : PySem.W.Frag) (Hb H : Hp) (m : M) (s : Option V) (F : List Addr) : Prop := match m with
  | .emp => F = []
  | m => ∃ v, s = some v ∧ Own K Hb H m v F
def OwnS (K : PySem.W.Frag) (Hb H : Hp) : List M → St → List Addr → Prop
  | [], σ, F => σ = [] ∧ F = []
  | m :: Γ, σ, F => ∃ s r F1 F2, σ = s :: r ∧ SlO K Hb H m s F1 ∧ OwnS K Hb H Γ r F2 ∧ F = F1 ++ F2
theorem SlO.keep {K : PySem.W.Frag} {Hb H Hb2 H2 : Hp} {m : M} {s : Option V} {F : List Addr} (eb : Ex Hb Hb2) (h : SlO K Hb H m s F) (k : ∀ a ∈ F, ∀ o, H a = some o → H2 a = some o) : SlO K Hb2 H2 m s F := by
  cases m with
  | emp => exact h
  | im d => obtain ⟨v, e, o⟩ := h; exact ⟨v, e, o.keep eb k⟩
  | nd sh cs => obtain ⟨v, e, o⟩ := h; exact ⟨v, e, o.keep eb k⟩
theorem OwnS.keep {K : PySem.W.Frag} {Hb H Hb2 H2 : Hp} (eb : Ex Hb Hb2) : ∀ {Γ : List M} {σ : St} {F : List Addr}, OwnS K Hb H Γ σ F → (∀ a ∈ F, ∀ o, H a = some o → H2 a = some o) → OwnS K Hb2 H2 Γ σ F
  | [], _, _, h, _ => h
  | m :: Γ, _, _, h, k => by
    obtain ⟨v, r, F1, F2, rfl, e1, e2, rfl⟩ := h
    exact ⟨v, r, F1, F2, rfl, e1.keep eb fun a ha => k a (List.mem_append_left _ ha), OwnS.keep eb e2 fun a ha => k a (List.mem_append_right _ ha), rfl⟩
theorem SlO.there {K : PySem.W.Frag} {Hb H : Hp} {m : M} {s : Option V} {F : List Addr} (h : SlO K Hb H m s F) : ∀ a ∈ F, H a ≠ none := by
  cases m with
  | emp => intro a ha; rw [show F = [] from h] at ha; cases ha
  | im d => obtain ⟨v, e, o⟩ := h; exact o.there
  | nd sh cs => obtain ⟨v, e, o⟩ := h; exact o.there
theorem OwnS.there {K : PySem.W.Frag} {Hb H : Hp} : ∀ {Γ : List M} {σ : St} {F : List Addr}, OwnS K Hb H Γ σ F → ∀ a ∈ F, H a ≠ none
  | [], _, _, h, a, ha => by rw [h.2] at ha; cases ha
  | m :: ms, _, _, h, a, ha => by
    obtain ⟨v, r, F1, F2, rfl, e1, e2, rfl⟩ := h
    rcases List.mem_append.mp ha with ha | ha
    · exact e1.there a ha
    · exact OwnS.there e2 a ha
theorem OwnS.len {K : PySem.W.Frag} {Hb H : Hp} : ∀ {Γ : List M} {σ : St} {F : List Addr}, OwnS K Hb H Γ σ F → σ.length = Γ.length
  | [], _, _, h => by rw [h.1]; rfl
  | m :: ms, _, _, h => by
    obtain ⟨v, r, F1, F2, rfl, e1, e2, rfl⟩ := h
    simp [OwnS.len e2]
/-- a slot, and what may stand in its place -/
theorem OwnS.at {K : PySem.W.Frag} {Hb H : Hp} : ∀ {Γ : List M} {σ : St} {F : List Addr} {i : Nat} {m : M}, OwnS K Hb H Γ σ F → Γ[i]? = some m →
    ∃ s A B Fi, σ[i]? = some s ∧ SlO K Hb H m s Fi ∧ F = A ++ (Fi ++ B) ∧
      ∀ (Hb2 H2 : Hp) (m2 : M) (s2 : Option V) (F2 : List Addr), Ex Hb Hb2 → (∀ a ∈ A ++ B, ∀ o, H a = some o → H2 a = some o) → SlO K Hb2 H2 m2 s2 F2 → OwnS K Hb2 H2 (Γ.set i m2) (σ.set i s2) (A ++ (F2 ++ B))
  | [], _, _, i, m, h, e => by simp at e
  | m0 :: Γ, _, _, 0, m, h, e => by
    obtain ⟨s, r, F1, F2, rfl, e1, e2, rfl⟩ := h
    simp at e; subst e
    refine ⟨s, [], F2, F1, by simp, e1, by simp, fun Hb2 H2 m2 s2 G eb k h2 => ?_⟩
    exact ⟨s2, r, G, F2, by simp, h2, OwnS.keep eb e2 fun a ha => k a (by simpa using ha), by simp⟩
  | m0 :: Γ, _, _, i + 1, m, h, e => by
    obtain ⟨s, r, F1, F2, rfl, e1, e2, rfl⟩ := h
    simp at e
    obtain ⟨s', A, B, Fi, h1, h2, h3, h4⟩ := OwnS.at e2 e
    refine ⟨s', F1 ++ A, B, Fi, by simpa using h1, h2, by rw [h3]; simp, fun Hb2 H2 m2 s2 G eb k g => ?_⟩
    refine ⟨s, r.set i s2, F1, A ++ (G ++ B), by simp, e1.keep eb fun a ha => k a ?_, h4 Hb2 H2 m2 s2 G eb (fun a ha => k a ?_) g, by simp⟩
    · simp [ha]
    · rcases List.mem_append.mp ha with ha | ha <;> simp [ha]

structure WF (K : PySem.W.Frag) (Γ : List M) (σ : St) (Hb H : Hp) (F : List Addr) : Prop where
  ex : Ex Hb H
  own : OwnS K Hb H Γ σ F
  nd : F.Nodup
  fh : ∀ a ∈ F, Hb a = none
/-- from one state to a later one -/
structure Step (Hb H : Hp) (F : List Addr) (Hb2 H2 : Hp) (F2 : List Addr) : Prop where
  eb : Ex Hb Hb2
  fr : ∀ a o, H a = some o → a ∉ F → H2 a = some o
  fp : ∀ a ∈ F2, a ∈ F ∨ H a = none
  nb : ∀ a, Hb2 a ≠ none → Hb a ≠ none ∨ a ∈ F ∨ H a = none
theorem Step.refl {Hb H : Hp} {F : List Addr} : Step Hb H F Hb H F := ⟨Evl.Ex.refl _, fun _ _ h _ => h, fun _ h => .inl h, fun _ h => .inl h⟩
theorem Step.trans {Hb H Hb1 H1 Hb2 H2 : Hp} {F F1 F2 : List Addr} (a : Step Hb H F Hb1 H1 F1) (b : Step Hb1 H1 F1 Hb2 H2 F2) : Step Hb H F Hb2 H2 F2 := by
  have out : ∀ x, H x ≠ none → x ∉ F → x ∉ F1 ∧ H1 x ≠ none := fun x hx hf => by
    obtain ⟨o, ho⟩ : ∃ o, H x = some o := by
      cases e : H x with
      | none => exact absurd e hx
      | some o => exact ⟨o, rfl⟩
    refine ⟨fun z => ?_, by rw [a.fr x o ho hf]; simp⟩
    rcases a.fp x z with z | z
    · exact hf z
    · exact hx z
  have back : ∀ x, H1 x = none → x ∈ F ∨ H x = none := fun x hx => by
    by_cases hf : x ∈ F
    · exact .inl hf
    · refine .inr ?_
      cases e : H x with
      | none => rfl
      | some o => exact absurd hx (out x (by rw [e]; simp) hf).2
  refine ⟨Evl.Ex.trans a.eb b.eb, fun x o h hf => b.fr x o (a.fr x o h hf) (out x (by rw [h]; simp) hf).1, fun x hx => ?_, fun x hx => ?_⟩
  · rcases b.fp x hx with z | z
    · exact a.fp x z
    · exact back x z
  · rcases b.nb x hx with z | z | z
    · exact a.nb x z
    · exact .inr (a.fp x z)
    · exact .inr (back x z)
/-- new things of the fixed part are new in the heap -/
def NB (Hb Hb2 H : Hp) : Prop := ∀ a, Hb2 a ≠ none → Hb a ≠ none ∨ H a = none
theorem NB.refl {Hb H : Hp} : NB Hb Hb H := fun _ h => .inl h
theorem none_of_ex {H H2 : Hp} (e : Ex H H2) {a : Addr} (h : H2 a = none) : H a = none := Evl.fresh_back e h
theorem NB.trans {Hb Hb1 Hb2 H H1 : Hp} (a : NB Hb Hb1 H) (b : NB Hb1 Hb2 H1) (e : Ex H H1) : NB Hb Hb2 H := fun x hx => by
  rcases b x hx with z | z
  · exact a x z
  · exact .inr (none_of_ex e z)
/-- a pure step keeps the slots -/
theorem WF.pure {K : PySem.W.Frag} {Γ : List M} {σ : St} {Hb H Hb2 H2 : Hp} {F : List Addr} (w : WF K Γ σ Hb H F) (eb : Ex Hb Hb2) (e : Ex H H2) (e2 : Ex Hb2 H2) (n : NB Hb Hb2 H) : WF K Γ σ Hb2 H2 F :=
  ⟨e2, w.own.keep eb fun a _ o h => e a o h, w.nd, fun a ha => by
    cases h : Hb2 a with
    | none => rfl
    | some o =>
      rcases n a (by rw [h]; simp) with z | z
      · exact absurd (w.fh a ha) z
      · exact absurd z (w.own.there a ha)⟩
theorem Step.pure {Hb H Hb2 H2 : Hp} {F : List Addr} (eb : Ex Hb Hb2) (e : Ex H H2) (n : NB Hb Hb2 H) : Step Hb H F Hb2 H2 F :=
  ⟨eb, fun a o h _ => e a o h, fun a h => .inl h, fun a h => (n a h).elim .inl fun z => .inr (.inr z)⟩
theorem WF.slot {K : PySem.W.Frag} {Γ : List M} {σ : St} {Hb H : Hp} {F : List Addr} {i : Nat} {d : D} (w : WF K Γ σ Hb H F) (e : Γ[i]? = some (.im d)) : ∃ v, σ[i]? = some (some v) ∧ rep K Hb d v := by
  obtain ⟨s, A, B, Fi, h1, ⟨v, rfl, h2⟩, _⟩ := w.own.at e
  exact ⟨v, h1, h2.1⟩
/-- any name's value, as the heap stands -/
theorem WF.slotH {K : PySem.W.Frag} {Γ : List M} {σ : St} {Hb H : Hp} {F : List Addr} {i : Nat} {m : M} {d : D} (w : WF K Γ σ Hb H F) (e : Γ[i]? = some m) (ez : m.fz = some d) : ∃ v, σ[i]? = some (some v) ∧ rep K H d v := by
  obtain ⟨s, A, B, Fi, h1, h2, _⟩ := w.own.at e
  cases m with
  | emp => simp [M.fz] at ez
  | im d' =>
    obtain ⟨v, rfl, h3⟩ := h2
    exact ⟨v, h1, Own.fz w.ex h3 ez fun a _ o h => h⟩
  | nd sh cs =>
    obtain ⟨v, rfl, h3⟩ := h2
    exact ⟨v, h1, Own.fz w.ex h3 ez fun a _ o h => h⟩
end KS

namespace KS
open PySem L2

/-! ### the classes of pure expressions -/
/-- its value is a datum of the fixed part -/
structure Pb (K : PySem.W.Frag) (t : TE) where
  ev : List M → Option D
  ok : ∀ {Γ : List M} {d : D} {σ : St} {Hb H : Hp} {F : List Addr} {Q : VK}, ev Γ = some d → WF K Γ σ Hb H F →
    (∀ v Hb2 H2, Ex Hb Hb2 → Ex H H2 → Ex Hb2 H2 → NB Hb Hb2 H → rep K Hb2 d v → Q v H2) → t σ H Q
/-- its value is told by the heap as it stands -/
structure Ph (K : PySem.W.Frag) (t : TE) where
  ev : List M → Option D
  ok : ∀ {Γ : List M} {d : D} {σ : St} {Hb H : Hp} {F : List Addr} {Q : VK}, ev Γ = some d → WF K Γ σ Hb H F →
    (∀ v Hb2 H2, Ex Hb Hb2 → Ex H H2 → Ex Hb2 H2 → NB Hb Hb2 H → rep K H2 d v → Q v H2) → t σ H Q
/-- its value is a new thing of one's own -/
structure Po (K : PySem.W.Frag) (t : TE) where
  ev : List M → Option M
  ok : ∀ {Γ : List M} {m : M} {σ : St} {Hb H : Hp} {F : List Addr} {Q : VK}, ev Γ = some m → WF K Γ σ Hb H F →
    (∀ v Hb2 H2 Fr, Ex Hb Hb2 → Ex H H2 → Ex Hb2 H2 → NB Hb Hb2 H → Own K Hb2 H2 m v Fr → Fr.Nodup → (∀ a ∈ Fr, Hb2 a = none ∧ H a = none) → Q v H2) → t σ H Q
/-- argument lists -/
structure Ab (K : PySem.W.Frag) (t : TA) where
  ev : List M → Option (List D)
  ok : ∀ {Γ : List M} {ds : List D} {σ : St} {Hb H : Hp} {F : List Addr} {Q : List V → Hp → Prop}, ev Γ = some ds → WF K Γ σ Hb H F →
    (∀ vs Hb2 H2, Ex Hb Hb2 → Ex H H2 → Ex Hb2 H2 → NB Hb Hb2 H → reps K Hb2 ds vs → Q vs H2) → t σ H Q
structure Ah (K : PySem.W.Frag) (t : TA) where
  ev : List M → Option (List D)
  ok : ∀ {Γ : List M} {ds : List D} {σ : St} {Hb H : Hp} {F : List Addr} {Q : List V → Hp → Prop}, ev Γ = some ds → WF K Γ σ Hb H F →
    (∀ vs Hb2 H2, Ex Hb Hb2 → Ex H H2 → Ex Hb2 H2 → NB Hb Hb2 H → reps K H2 ds vs → Q vs H2) → t σ H Q
/-- tests -/
structure Tt (K : PySem.W.Frag) (t : TT) where
  ev : List M → Option Bool
  ok : ∀ {Γ : List M} {b : Bool} {σ : St} {Hb H : Hp} {F : List Addr} {Q : Bool → Hp → Prop}, ev Γ = some b → WF K Γ σ Hb H F →
    (∀ Hb2 H2, Ex Hb Hb2 → Ex H H2 → Ex Hb2 H2 → NB Hb Hb2 H → Q b H2) → t σ H Q

section
variable {K : PySem.W.Frag} {ta tb tc : TE} {tr : TA} {t u : TT} {r r' : R2}
def Pb.h (p : Pb K ta) : Ph K ta := ⟨p.ev, fun e w k => p.ok e w fun v Hb2 H2 e1 e2 e3 e4 q => k v Hb2 H2 e1 e2 e3 e4 (rep_mono e3 q)⟩
def Ab.h (p : Ab K tr) : Ah K tr := ⟨p.ev, fun e w k => p.ok e w fun v Hb2 H2 e1 e2 e3 e4 q => k v Hb2 H2 e1 e2 e3 e4 (reps_mono e3 q)⟩
/-- a new thing, frozen at once -/
def Po.b (p : Po K ta) : Pb K ta where
  ev := fun Γ => (p.ev Γ).bind M.fz
  ok := fun {Γ d σ Hb H F Q} e w k => by
    obtain ⟨m, e1, e2⟩ := Option.bind_eq_some_iff.mp e
    refine p.ok e1 w fun v Hb2 H2 Fr x1 x2 x3 x4 o nd fr => ?_
    have y1 : Ex Hb2 (fun a => if a ∈ Fr then H2 a else Hb2 a) := fun a ob ha => by
      by_cases hf : a ∈ Fr
      · rw [(fr a hf).1] at ha; cases ha
      · show (if a ∈ Fr then H2 a else Hb2 a) = some ob
        rw [if_neg hf]; exact ha
    refine k v (fun a => if a ∈ Fr then H2 a else Hb2 a) H2 (Evl.Ex.trans x1 y1) x2 (fun a ob ha => ?_) (fun a ha => ?_) (Own.fz y1 o e2 fun a hf ob ha => ?_)
    · by_cases hf : a ∈ Fr
      · simpa [hf] using ha
      · exact x3 a ob (by simpa [hf] using ha)
    · by_cases hf : a ∈ Fr
      · exact .inr (fr a hf).2
      · exact x4 a (by simpa [hf] using ha)
    · show (if a ∈ Fr then H2 a else Hb2 a) = some ob
      rw [if_pos hf]; exact ha
def Po.h (p : Po K ta) : Ph K ta := p.b.h
/-- scalars need no heap -/
def Ph.s (p : Ph K ta) : Pb K ta where
  ev := fun Γ => (p.ev Γ).bind fun d => if d.sc.isSome then some d else none
  ok := fun {Γ d σ Hb H F Q} e w k => by
    obtain ⟨d', e1, e2⟩ := Option.bind_eq_some_iff.mp e
    refine p.ok e1 w fun v Hb2 H2 x1 x2 x3 x4 o => ?_
    by_cases hs : d'.sc.isSome = true
    · simp [hs] at e2; subst e2
      obtain ⟨z, hz⟩ := Option.isSome_iff_exists.mp hs
      rw [sc_rep hz o]
      exact k _ Hb2 H2 x1 x2 x3 x4 (rep_sc hz)
    · simp [hs] at e2

def bVar (i : Nat) : Pb K (tVar i) where
  ev := fun Γ => match Γ[i]? with | some (.im d) => some d | _ => none
  ok := fun {Γ d σ Hb H F Q} e w k => by
    split at e
    · rename_i d' h
      cases e
      obtain ⟨v, e1, e2⟩ := w.slot h
      exact ⟨v, e1, k v Hb H (Evl.Ex.refl _) (Evl.Ex.refl _) w.ex NB.refl e2⟩
    · cases e
def hVar (i : Nat) : Ph K (tVar i) where
  ev := fun Γ => (Γ[i]?).bind M.fz
  ok := fun {Γ d σ Hb H F Q} e w k => by
    obtain ⟨m, e1, e2⟩ := Option.bind_eq_some_iff.mp e
    obtain ⟨v, e3, e4⟩ := w.slotH e1 e2
    exact ⟨v, e3, k v Hb H (Evl.Ex.refl _) (Evl.Ex.refl _) w.ex NB.refl e4⟩
def bC (d : D) {v : V} (h : d.sc = some v) : Pb K (tC v) where
  ev := fun _ => some d
  ok := fun {Γ d σ Hb H F Q} e w k => by
    cases e
    exact k v Hb H (Evl.Ex.refl _) (Evl.Ex.refl _) w.ex NB.refl (rep_sc h)
def bInt (i : Int) : Pb K (tC (.int i)) := bC (.int i) rfl
def bStr (s : Str) : Pb K (tC (.str s)) := bC (.str s) rfl
def bBl (b : Bool) : Pb K (tC (.bl b)) := bC (.bl b) rfl
def bTy (n : String) : Pb K (tC (.ty n)) := bC (.ty n) rfl
def bCls (c : String) : Pb K (tC (.ref (clsA K c))) where
  ev := fun _ => some (.cls c)
  ok := fun {Γ d σ Hb H F Q} e w k => by
    cases e
    exact k _ Hb H (Evl.Ex.refl _) (Evl.Ex.refl _) w.ex NB.refl rfl
def bNon : Pb K (tC .non) := bC .non rfl

/-! ### two operands, a scalar out -/
structure Op2 (K : PySem.W.Frag) (r : R2) where
  g : D → D → Option D
  ok : ∀ {H : Hp} {x y : V} {a b z : D}, g a b = some z → rep K H a x → rep K H b y → ∃ v, z.sc = some v ∧ ∀ Q : VK, Q v H → r x y H Q
def b2 (o : Op2 K r) (a : Ph K ta) (b : Ph K tb) : Pb K (tOp r ta tb) where
  ev := fun Γ => (a.ev Γ).bind fun x => (b.ev Γ).bind fun y => o.g x y
  ok := fun {Γ d σ Hb H F Q} e w k => by
    obtain ⟨x, e1, e⟩ := Option.bind_eq_some_iff.mp e
    obtain ⟨y, e2, e⟩ := Option.bind_eq_some_iff.mp e
    refine a.ok e1 w fun v1 Hb1 H1 x1 x2 x3 x4 r1 => ?_
    refine b.ok e2 (w.pure x1 x2 x3 x4) fun v2 Hb2 H2 y1 y2 y3 y4 r2 => ?_
    obtain ⟨v, hs, hq⟩ := o.ok e (rep_mono y2 r1) r2
    exact hq Q (k v Hb2 H2 (Evl.Ex.trans x1 y1) (Evl.Ex.trans x2 y2) y3 (x4.trans y4 x2) (rep_sc hs))
/-- ints -/
def oII (g : Int → Int → Int) : Op2 K (rI0 fun i j => .int (g i j)) where
  g := fun a b => match a, b with | .int i, .int j => some (.int (g i j)) | _, _ => none
  ok := fun {H x y a b z} e ra rb => by
    split at e
    · cases e
      exact ⟨_, rfl, fun Q q => ⟨_, _, ra, rb, q⟩⟩
    · cases e
def oIB (g : Int → Int → Bool) : Op2 K (rI0 fun i j => .bl (g i j)) where
  g := fun a b => match a, b with | .int i, .int j => some (.bl (g i j)) | _, _ => none
  ok := fun {H x y a b z} e ra rb => by
    split at e
    · cases e
      exact ⟨_, rfl, fun Q q => ⟨_, _, ra, rb, q⟩⟩
    · cases e
def oIC (C : Int → Int → Prop) [DecidableRel C] (g : Int → Int → Int) : Op2 K (rI C fun i j => .int (g i j)) where
  g := fun a b => match a, b with | .int i, .int j => if C i j then some (.int (g i j)) else none | _, _ => none
  ok := fun {H x y a b z} e ra rb => by
    split at e
    · split at e
      · rename_i hc
        cases e
        exact ⟨_, rfl, fun Q q => ⟨_, _, ra, rb, hc, q⟩⟩
      · cases e
    · cases e
instance : DecidableRel CDiv := fun i j => by unfold CDiv; infer_instance
instance : DecidableRel CDivN := fun i j => by unfold CDivN; infer_instance
instance : DecidableRel CPow := fun i j => by unfold CPow; infer_instance
instance : DecidableRel CMul := fun i j => by unfold CMul; infer_instance
instance : DecidableRel CDivW := fun i j => by unfold CDivW; infer_instance
instance : DecidableRel CMulW := fun i j => by unfold CMulW; infer_instance
/-! ### == of data -/
mutual
def D.toP : D → Option PyData
  | .non => some .none
  | .bl b => some (.bool b)
  | .int i => some (.int i)
  | .str s => some (.str s)
  | .ty _ => none
  | .cls _ => none
  | .tup l => (D.toPs l).map .tuple
  | .lst l => (D.toPs l).map .list
  | .scr l => (D.toPs l).map .list
  | .dic _ _ => none
  | .obj _ _ _ => none
def D.toPs : List D → Option (List PyData)
  | [] => some []
  | d :: ds => match D.toP d, D.toPs ds with
    | some p, some ps => some (p :: ps)
    | _, _ => none
end
mutual
theorem rep_dp {H : Hp} : ∀ {d : D} {v : V} {p : PyData}, rep K H d v → d.toP = some p → Dp K H v p
  | .non, _, _, h, e => by
    simp only [D.toP, Option.some.injEq] at e; subst e
    rw [show _ = V.non from h]; exact .non
  | .bl b, _, _, h, e => by
    simp only [D.toP, Option.some.injEq] at e; subst e
    rw [show _ = V.bl b from h]; exact .bl b
  | .int i, _, _, h, e => by
    simp only [D.toP, Option.some.injEq] at e; subst e
    rw [show _ = V.int i from h]; exact .int i
  | .str i, _, _, h, e => by
    simp only [D.toP, Option.some.injEq] at e; subst e
    rw [show _ = V.str i from h]; exact .str i
  | .ty _, _, _, _, e => by simp [D.toP] at e
  | .cls _, _, _, _, e => by simp [D.toP] at e
  | .tup l, _, _, h, e => by
    simp only [D.toP, Option.map_eq_some_iff] at e
    obtain ⟨ps, e, rfl⟩ := e
    obtain ⟨a, xs, rfl, h2, h3⟩ := h
    exact .tup h2 (reps_dp h3 e)
  | .lst l, _, _, h, e => by
    simp only [D.toP, Option.map_eq_some_iff] at e
    obtain ⟨ps, e, rfl⟩ := e
    obtain ⟨a, xs, rfl, h2, h3⟩ := h
    exact .lst (SqL.of h2) (reps_dp h3 e)
  | .scr l, _, _, h, e => by
    simp only [D.toP, Option.map_eq_some_iff] at e
    obtain ⟨ps, e, rfl⟩ := e
    obtain ⟨a, xs, rfl, h2, h3⟩ := h
    exact .lst h2 (reps_dp h3 e)
  | .dic _ _, _, _, _, e => by simp [D.toP] at e
  | .obj _ _ _, _, _, _, e => by simp [D.toP] at e
theorem reps_dp {H : Hp} : ∀ {ds : List D} {vs : List V} {ps : List PyData}, reps K H ds vs → D.toPs ds = some ps → DpAll K H vs ps
  | [], _, _, h, e => by
    simp only [D.toPs, Option.some.injEq] at e; subst e
    rw [show _ = [] from h]; exact .nil
  | d :: ds, _, _, h, e => by
    simp only [D.toPs] at e
    obtain ⟨x, r, rfl, h2, h3⟩ := h
    split at e
    · rename_i p ps h4 h5
      cases e
      exact .cons (rep_dp h2 h4) (reps_dp h3 h5)
    · cases e
end
def eqD (a b : D) : Option Bool := (a.toP).bind fun p => (b.toP).bind fun q => if SeqAt.shaped p && SeqAt.shaped q then some (PyData.eqv p q) else none
def oEq : Op2 K (rEqD K) where
  g := fun a b => (eqD a b).map .bl
  ok := fun {H x y a b z} e ra rb => by
    obtain ⟨c, e0, rfl⟩ := Option.map_eq_some_iff.mp e
    clear e
    have e := e0
    clear e0
    unfold eqD at e
    obtain ⟨p, e1, e⟩ := Option.bind_eq_some_iff.mp e
    obtain ⟨q, e2, e⟩ := Option.bind_eq_some_iff.mp e
    split at e
    · rename_i hs
      cases e
      rw [Bool.and_eq_true] at hs
      exact ⟨_, rfl, fun Q k => ⟨p, q, rep_dp ra e1, rep_dp rb e2, hs.1, hs.2, k⟩⟩
    · cases e
def oNe : Op2 K (rNeD K) where
  g := fun a b => (eqD a b).map fun c => .bl (!c)
  ok := fun {H x y a b z} e ra rb => by
    obtain ⟨c, e0, rfl⟩ := Option.map_eq_some_iff.mp e
    clear e
    have e := e0
    clear e0
    unfold eqD at e
    obtain ⟨p, e1, e⟩ := Option.bind_eq_some_iff.mp e
    obtain ⟨q, e2, e⟩ := Option.bind_eq_some_iff.mp e
    split at e
    · rename_i hs
      cases e
      rw [Bool.and_eq_true] at hs
      exact ⟨_, rfl, fun Q k => ⟨p, q, rep_dp ra e1, rep_dp rb e2, hs.1, hs.2, k⟩⟩
    · cases e
/-- is None, is not None -/
def D.isNon : D → Bool
  | .non => true
  | _ => false
theorem rep_isNon {H : Hp} : ∀ {d : D} {v : V}, rep K H d v → decide (v = .non) = d.isNon
  | .non, _, h => by rw [show _ = V.non from h]; rfl
  | .bl b, _, h => by rw [show _ = V.bl b from h]; rfl
  | .int i, _, h => by rw [show _ = V.int i from h]; rfl
  | .str i, _, h => by rw [show _ = V.str i from h]; rfl
  | .ty i, _, h => by rw [show _ = V.ty i from h]; rfl
  | .cls i, _, h => by rw [show _ = V.ref (clsA K i) from h]; rfl
  | .tup l, _, h => by obtain ⟨a, xs, rfl, _⟩ := h; rfl
  | .lst l, _, h => by obtain ⟨a, xs, rfl, _⟩ := h; rfl
  | .scr l, _, h => by obtain ⟨a, xs, rfl, _⟩ := h; rfl
  | .dic _ _, _, h => by obtain ⟨a, xs, rfl, _⟩ := h; rfl
  | .obj _ _ _, _, h => by obtain ⟨a, dx, xs, rfl, _⟩ := h; rfl
def bIsN (a : Ph K ta) : Pb K (tIsN ta) where
  ev := fun Γ => (a.ev Γ).map fun d => .bl d.isNon
  ok := fun {Γ d σ Hb H F Q} e w k => by
    obtain ⟨x, e1, rfl⟩ := Option.map_eq_some_iff.mp e
    exact a.ok e1 w fun v Hb2 H2 x1 x2 x3 x4 q => k _ Hb2 H2 x1 x2 x3 x4 (by rw [rep_isNon q]; rfl)
def bNotN (a : Ph K ta) : Pb K (tNotN ta) where
  ev := fun Γ => (a.ev Γ).map fun d => .bl (!d.isNon)
  ok := fun {Γ d σ Hb H F Q} e w k => by
    obtain ⟨x, e1, rfl⟩ := Option.map_eq_some_iff.mp e
    exact a.ok e1 w fun v Hb2 H2 x1 x2 x3 x4 q => k _ Hb2 H2 x1 x2 x3 x4 (by rw [rep_isNon q]; rfl)
/-- one operand -/
def bNeg (a : Ph K ta) : Pb K (tUn (rU fun i => .int (-i)) ta) where
  ev := fun Γ => (a.ev Γ).bind fun d => match d with | .int i => some (.int (-i)) | _ => none
  ok := fun {Γ d σ Hb H F Q} e w k => by
    obtain ⟨x, e1, e⟩ := Option.bind_eq_some_iff.mp e
    split at e
    · cases e
      exact a.ok e1 w fun v Hb2 H2 x1 x2 x3 x4 q => ⟨_, q, k _ Hb2 H2 x1 x2 x3 x4 rfl⟩
    · cases e

/-! ### a op b op c -/
def bChain (o : Op2 K r) (o' : Op2 K r') (a : Ph K ta) (b : Ph K tb) (c : Ph K tc) : Pb K (tChain r r' ta tb tc) where
  ev := fun Γ => (a.ev Γ).bind fun x => (b.ev Γ).bind fun y => (o.g x y).bind fun z => match z with
    | .bl true => (c.ev Γ).bind fun q => o'.g y q
    | .bl false => some (.bl false)
    | _ => none
  ok := fun {Γ d σ Hb H F Q} e w k => by
    obtain ⟨x, e1, e⟩ := Option.bind_eq_some_iff.mp e
    obtain ⟨y, e2, e⟩ := Option.bind_eq_some_iff.mp e
    obtain ⟨z, e3, e⟩ := Option.bind_eq_some_iff.mp e
    refine a.ok e1 w fun v1 Hb1 H1 x1 x2 x3 x4 r1 => ?_
    have w1 := w.pure x1 x2 x3 x4
    refine b.ok e2 w1 fun v2 Hb2 H2 y1 y2 y3 y4 r2 => ?_
    have w2 := w1.pure y1 y2 y3 y4
    obtain ⟨v, hs, hq⟩ := o.ok e3 (rep_mono y2 r1) r2
    refine hq _ ?_
    split at e
    · cases hs
      obtain ⟨q, e4, e⟩ := Option.bind_eq_some_iff.mp e
      refine ⟨true, rfl, ?_⟩
      show tc σ H2 _
      refine c.ok e4 w2 fun v3 Hb3 H3 z1 z2 z3 z4 r3 => ?_
      obtain ⟨v', hs', hq'⟩ := o'.ok e (rep_mono z2 r2) r3
      exact hq' Q (k v' Hb3 H3 (Evl.Ex.trans x1 (Evl.Ex.trans y1 z1)) (Evl.Ex.trans x2 (Evl.Ex.trans y2 z2)) z3 ((x4.trans y4 x2).trans z4 (Evl.Ex.trans x2 y2)) (rep_sc hs'))
    · cases hs
      cases e
      refine ⟨false, rfl, ?_⟩
      show Q (.bl false) H2
      exact k _ Hb2 H2 (Evl.Ex.trans x1 y1) (Evl.Ex.trans x2 y2) y3 (x4.trans y4 x2) rfl
    · cases e

/-! ### tests -/
def asB : D → Option Bool
  | .bl b => some b
  | _ => none
theorem asB_eq {d : D} {b : Bool} (h : asB d = some b) : d = .bl b := by
  cases d <;> simp [asB] at h
  subst h; rfl
def tTst (a : Ph K ta) : Tt K (tTest ta) where
  ev := fun Γ => (a.ev Γ).bind asB
  ok := fun {Γ b σ Hb H F Q} e w k => by
    obtain ⟨x, e1, e⟩ := Option.bind_eq_some_iff.mp e
    rw [asB_eq e] at e1
    exact a.ok e1 w fun v Hb2 H2 x1 x2 x3 x4 q => ⟨b, q, k Hb2 H2 x1 x2 x3 x4⟩
def tBv (a : Ph K ta) : Tt K (tB ta) where
  ev := fun Γ => (a.ev Γ).bind asB
  ok := fun {Γ b σ Hb H F Q} e w k => by
    obtain ⟨x, e1, e⟩ := Option.bind_eq_some_iff.mp e
    rw [asB_eq e] at e1
    exact a.ok e1 w fun v Hb2 H2 x1 x2 x3 x4 q => ⟨b, q, k Hb2 H2 x1 x2 x3 x4⟩
def tNt (a : Tt K t) : Tt K (tNot t) where
  ev := fun Γ => (a.ev Γ).map not
  ok := fun {Γ b σ Hb H F Q} e w k => by
    obtain ⟨x, e1, rfl⟩ := Option.map_eq_some_iff.mp e
    exact a.ok e1 w fun Hb2 H2 x1 x2 x3 x4 => k Hb2 H2 x1 x2 x3 x4
def tAn (a : Tt K t) (b : Tt K u) : Tt K (tAnd t u) where
  ev := fun Γ => (a.ev Γ).bind fun x => if x = true then b.ev Γ else some false
  ok := fun {Γ c σ Hb H F Q} e w k => by
    obtain ⟨x, e1, e⟩ := Option.bind_eq_some_iff.mp e
    refine a.ok e1 w fun Hb2 H2 x1 x2 x3 x4 => ?_
    cases x with
    | true => exact b.ok (by simpa using e) (w.pure x1 x2 x3 x4) fun Hb3 H3 y1 y2 y3 y4 => k Hb3 H3 (Evl.Ex.trans x1 y1) (Evl.Ex.trans x2 y2) y3 (x4.trans y4 x2)
    | false => simp at e; subst e; exact k Hb2 H2 x1 x2 x3 x4
def tO (a : Tt K t) (b : Tt K u) : Tt K (tOr t u) where
  ev := fun Γ => (a.ev Γ).bind fun x => if x = true then some true else b.ev Γ
  ok := fun {Γ c σ Hb H F Q} e w k => by
    obtain ⟨x, e1, e⟩ := Option.bind_eq_some_iff.mp e
    refine a.ok e1 w fun Hb2 H2 x1 x2 x3 x4 => ?_
    cases x with
    | false => exact b.ok (by simpa using e) (w.pure x1 x2 x3 x4) fun Hb3 H3 y1 y2 y3 y4 => k Hb3 H3 (Evl.Ex.trans x1 y1) (Evl.Ex.trans x2 y2) y3 (x4.trans y4 x2)
    | true => simp at e; subst e; exact k Hb2 H2 x1 x2 x3 x4
/-- and, or, not as values -/
def bAnV (a : Ph K ta) (b : Ph K tb) : Pb K (tAndV ta tb) where
  ev := fun Γ => (a.ev Γ).bind fun x => (asB x).bind fun c => if c = true then (b.ev Γ).bind fun y => if y.sc.isSome then some y else none else some (.bl false)
  ok := fun {Γ d σ Hb H F Q} e w k => by
    obtain ⟨x, e1, e⟩ := Option.bind_eq_some_iff.mp e
    obtain ⟨c, e2, e⟩ := Option.bind_eq_some_iff.mp e
    rw [asB_eq e2] at e1
    refine a.ok e1 w fun v Hb2 H2 x1 x2 x3 x4 q => ⟨c, q, ?_⟩
    cases c with
    | true =>
      simp only [if_true] at e
      exact b.s.ok e (w.pure x1 x2 x3 x4) fun v3 Hb3 H3 y1 y2 y3 y4 r3 => k v3 Hb3 H3 (Evl.Ex.trans x1 y1) (Evl.Ex.trans x2 y2) y3 (x4.trans y4 x2) r3
    | false => simp at e; subst e; exact k _ Hb2 H2 x1 x2 x3 x4 rfl
def bOrV (a : Ph K ta) (b : Ph K tb) : Pb K (tOrV ta tb) where
  ev := fun Γ => (a.ev Γ).bind fun x => (asB x).bind fun c => if c = true then some (.bl true) else (b.ev Γ).bind fun y => if y.sc.isSome then some y else none
  ok := fun {Γ d σ Hb H F Q} e w k => by
    obtain ⟨x, e1, e⟩ := Option.bind_eq_some_iff.mp e
    obtain ⟨c, e2, e⟩ := Option.bind_eq_some_iff.mp e
    rw [asB_eq e2] at e1
    refine a.ok e1 w fun v Hb2 H2 x1 x2 x3 x4 q => ⟨c, q, ?_⟩
    cases c with
    | false =>
      exact b.s.ok (show b.s.ev Γ = some d from by simpa [Ph.s] using e) (w.pure x1 x2 x3 x4) fun v3 Hb3 H3 y1 y2 y3 y4 r3 => k v3 Hb3 H3 (Evl.Ex.trans x1 y1) (Evl.Ex.trans x2 y2) y3 (x4.trans y4 x2) r3
    | true => simp at e; subst e; exact k _ Hb2 H2 x1 x2 x3 x4 rfl
def bNtV (a : Ph K ta) : Pb K (tNotV ta) where
  ev := fun Γ => (a.ev Γ).bind fun x => (asB x).map fun c => .bl (!c)
  ok := fun {Γ d σ Hb H F Q} e w k => by
    obtain ⟨x, e1, e⟩ := Option.bind_eq_some_iff.mp e
    obtain ⟨c, e2, rfl⟩ := Option.map_eq_some_iff.mp e
    rw [asB_eq e2] at e1
    exact a.ok e1 w fun v Hb2 H2 x1 x2 x3 x4 q => ⟨c, q, k _ Hb2 H2 x1 x2 x3 x4 rfl⟩
def bIf (c : Tt K t) (a : Pb K ta) (b : Pb K tb) : Pb K (tIf t ta tb) where
  ev := fun Γ => (c.ev Γ).bind fun x => if x = true then a.ev Γ else b.ev Γ
  ok := fun {Γ d σ Hb H F Q} e w k => by
    obtain ⟨x, e1, e⟩ := Option.bind_eq_some_iff.mp e
    refine c.ok e1 w fun Hb2 H2 x1 x2 x3 x4 => ?_
    have w2 := w.pure x1 x2 x3 x4
    cases x with
    | true => exact a.ok (by simpa using e) w2 fun v3 Hb3 H3 y1 y2 y3 y4 r3 => k v3 Hb3 H3 (Evl.Ex.trans x1 y1) (Evl.Ex.trans x2 y2) y3 (x4.trans y4 x2) r3
    | false => exact b.ok (by simpa using e) w2 fun v3 Hb3 H3 y1 y2 y3 y4 r3 => k v3 Hb3 H3 (Evl.Ex.trans x1 y1) (Evl.Ex.trans x2 y2) y3 (x4.trans y4 x2) r3

/-! ### argument lists -/
def aNil : Ab K tNil where
  ev := fun _ => some []
  ok := fun {Γ d σ Hb H F Q} e w k => by
    cases e
    exact k [] Hb H (Evl.Ex.refl _) (Evl.Ex.refl _) w.ex NB.refl rfl
def aCons (a : Pb K ta) (b : Ab K tr) : Ab K (tCons ta tr) where
  ev := fun Γ => (a.ev Γ).bind fun x => (b.ev Γ).map fun y => x :: y
  ok := fun {Γ d σ Hb H F Q} e w k => by
    obtain ⟨x, e1, e⟩ := Option.bind_eq_some_iff.mp e
    obtain ⟨y, e2, rfl⟩ := Option.map_eq_some_iff.mp e
    refine a.ok e1 w fun v1 Hb1 H1 x1 x2 x3 x4 r1 => ?_
    refine b.ok e2 (w.pure x1 x2 x3 x4) fun v2 Hb2 H2 y1 y2 y3 y4 r2 => ?_
    exact k _ Hb2 H2 (Evl.Ex.trans x1 y1) (Evl.Ex.trans x2 y2) y3 (x4.trans y4 x2) ⟨v1, v2, rfl, rep_mono y1 r1, r2⟩
def ahCons (a : Ph K ta) (b : Ah K tr) : Ah K (tCons ta tr) where
  ev := fun Γ => (a.ev Γ).bind fun x => (b.ev Γ).map fun y => x :: y
  ok := fun {Γ d σ Hb H F Q} e w k => by
    obtain ⟨x, e1, e⟩ := Option.bind_eq_some_iff.mp e
    obtain ⟨y, e2, rfl⟩ := Option.map_eq_some_iff.mp e
    refine a.ok e1 w fun v1 Hb1 H1 x1 x2 x3 x4 r1 => ?_
    refine b.ok e2 (w.pure x1 x2 x3 x4) fun v2 Hb2 H2 y1 y2 y3 y4 r2 => ?_
    exact k _ Hb2 H2 (Evl.Ex.trans x1 y1) (Evl.Ex.trans x2 y2) y3 (x4.trans y4 x2) ⟨v1, v2, rfl, rep_mono y2 r1, r2⟩

/-! ### displays -/
theorem own_ims {Hb H : Hp} : ∀ {ds : List D} {vs : List V}, reps K Hb ds vs → OwnL K Hb H (ds.map M.im) vs []
  | [], _, h => ⟨h, rfl⟩
  | d :: ds, _, h => by
    obtain ⟨x, r, rfl, h2, h3⟩ := h
    exact ⟨x, r, [], [], rfl, ⟨h2, rfl⟩, own_ims h3, rfl⟩
/-- a new object p, tracked as the node -/
theorem own_new {Hb H2 : Hp} {p dx : Addr} {sh : Sh} {ds : List D} {vs : List V} (hp : H2 p = none) (hf : sh.fit vs.length) (hr : reps K Hb ds vs) : Own K Hb (upd H2 p (sh.ho K dx vs)) (.nd sh (ds.map M.im)) (.ref p) [p] :=
  ⟨p, dx, vs, [], rfl, upd_same, hf, own_ims hr, rfl⟩
def lineD (n : Nat) : Bool := decide (n ≤ 100000)
theorem lineD_ok {n : Nat} (h : lineD n = true) : n ≤ sizeLine := Evl.sz_of (of_decide_eq_true h)
def oLst (a : Ab K tr) : Po K (tLst tr) where
  ev := fun Γ => (a.ev Γ).bind fun ds => if lineD ds.length then some (.nd .lst (ds.map M.im)) else none
  ok := fun {Γ m σ Hb H F Q} e w k => by
    obtain ⟨ds, e1, e⟩ := Option.bind_eq_some_iff.mp e
    split at e
    · rename_i hl
      cases e
      refine a.ok e1 w fun vs Hb2 H2 x1 x2 x3 x4 r => ⟨by rw [reps_len r]; exact lineD_ok hl, fun p hp => ?_⟩
      have ex : Ex H2 (upd H2 p (.lst vs)) := Evl.Ex.new hp
      have pb : Hb2 p = none := none_of_ex x3 hp
      refine k (.ref p) Hb2 _ [p] x1 (Evl.Ex.trans x2 ex) (Evl.Ex.trans x3 ex) x4 (own_new (sh := .lst) (dx := 0) hp True.intro r) (by simp) fun a ha => ?_
      rw [List.mem_singleton.mp ha]
      exact ⟨pb, none_of_ex x2 hp⟩
    · cases e
def oTup (a : Ab K tr) : Po K (tTup tr) where
  ev := fun Γ => (a.ev Γ).bind fun ds => if lineD ds.length then some (.nd .tup (ds.map M.im)) else none
  ok := fun {Γ m σ Hb H F Q} e w k => by
    obtain ⟨ds, e1, e⟩ := Option.bind_eq_some_iff.mp e
    split at e
    · rename_i hl
      cases e
      refine a.ok e1 w fun vs Hb2 H2 x1 x2 x3 x4 r => ⟨by rw [reps_len r]; exact lineD_ok hl, fun p hp => ?_⟩
      have ex : Ex H2 (upd H2 p (.tup vs)) := Evl.Ex.new hp
      have pb : Hb2 p = none := none_of_ex x3 hp
      refine k (.ref p) Hb2 _ [p] x1 (Evl.Ex.trans x2 ex) (Evl.Ex.trans x3 ex) x4 (own_new (sh := .tup) (dx := 0) hp True.intro r) (by simp) fun a ha => ?_
      rw [List.mem_singleton.mp ha]
      exact ⟨pb, none_of_ex x2 hp⟩
    · cases e
/-- a tuple whose parts may be told by the heap alone: for == and in -/
def hTup (a : Ah K tr) : Ph K (tTup tr) where
  ev := fun Γ => (a.ev Γ).bind fun ds => if lineD ds.length then some (.tup ds) else none
  ok := fun {Γ m σ Hb H F Q} e w k => by
    obtain ⟨ds, e1, e⟩ := Option.bind_eq_some_iff.mp e
    split at e
    · rename_i hl
      cases e
      refine a.ok e1 w fun vs Hb2 H2 x1 x2 x3 x4 r => ⟨by rw [reps_len r]; exact lineD_ok hl, fun p hp => ?_⟩
      have ex : Ex H2 (upd H2 p (.tup vs)) := Evl.Ex.new hp
      exact k (.ref p) Hb2 _ x1 (Evl.Ex.trans x2 ex) (Evl.Ex.trans x3 ex) x4 ⟨p, vs, rfl, SqT.of upd_same, reps_mono ex r⟩
    · cases e
def hLst (a : Ah K tr) : Ph K (tLst tr) where
  ev := fun Γ => (a.ev Γ).bind fun ds => if lineD ds.length then some (.lst ds) else none
  ok := fun {Γ m σ Hb H F Q} e w k => by
    obtain ⟨ds, e1, e⟩ := Option.bind_eq_some_iff.mp e
    split at e
    · rename_i hl
      cases e
      refine a.ok e1 w fun vs Hb2 H2 x1 x2 x3 x4 r => ⟨by rw [reps_len r]; exact lineD_ok hl, fun p hp => ?_⟩
      have ex : Ex H2 (upd H2 p (.lst vs)) := Evl.Ex.new hp
      exact k (.ref p) Hb2 _ x1 (Evl.Ex.trans x2 ex) (Evl.Ex.trans x3 ex) x4 ⟨p, vs, rfl, upd_same, reps_mono ex r⟩
    · cases e

/-! ### a built-in called with values, a scalar out -/
structure OpC (K : PySem.W.Frag) (r : List V → Hp → VK → Prop) where
  g : List D → Option D
  ok : ∀ {H : Hp} {xs : List V} {ds : List D} {z : D}, g ds = some z → reps K H ds xs → ∃ v, z.sc = some v ∧ ∀ Q : VK, Q v H → r xs H Q
def bCB {rc : List V → Hp → VK → Prop} (o : OpC K rc) (a : Ah K tr) : Pb K (tCB rc tr) where
  ev := fun Γ => (a.ev Γ).bind o.g
  ok := fun {Γ d σ Hb H F Q} e w k => by
    obtain ⟨x, e1, e⟩ := Option.bind_eq_some_iff.mp e
    refine a.ok e1 w fun v1 Hb1 H1 x1 x2 x3 x4 r1 => ?_
    obtain ⟨v, hs, hq⟩ := o.ok e r1
    exact hq Q (k v Hb1 H1 x1 x2 x3 x4 (rep_sc hs))
/-- an item: of a list or tuple -/
def atD (ds : List D) (i : Int) : Option D := atI ds i
theorem atD_rep {H : Hp} {ds : List D} {xs : List V} {i : Int} {d : D} (h : reps K H ds xs) (e : atD ds i = some d) : ∃ x, atI xs i = some x ∧ rep K H d x := by
  unfold atD atI at e
  obtain ⟨j, e1, e2⟩ := Option.bind_eq_some_iff.mp e
  obtain ⟨x, e3, e4⟩ := reps_get' h e2
  exact ⟨x, by unfold atI; rw [reps_len h, e1]; exact e3, e4⟩
def bIxL (a : Pb K ta) (b : Ph K tb) : Pb K (tOp (rIxL K) ta tb) where
  ev := fun Γ => (a.ev Γ).bind fun x => (b.ev Γ).bind fun y => match x.asL, y with | some l, .int i => atD l i | _, _ => none
  ok := fun {Γ d σ Hb H F Q} e w k => by
    obtain ⟨x, e1, e⟩ := Option.bind_eq_some_iff.mp e
    obtain ⟨y, e2, e⟩ := Option.bind_eq_some_iff.mp e
    refine a.ok e1 w fun v1 Hb1 H1 x1 x2 x3 x4 r1 => ?_
    refine b.ok e2 (w.pure x1 x2 x3 x4) fun v2 Hb2 H2 y1 y2 y3 y4 r2 => ?_
    split at e
    · rename_i hx
      obtain ⟨p, xs, rfl, h1, h2⟩ := rep_asL hx r1
      obtain ⟨z, e3, e4⟩ := atD_rep h2 e
      rw [show v2 = V.int _ from r2]
      exact ⟨p, xs, _, z, rfl, rfl, Evl.ex_l (Evl.Ex.trans y1 y3) h1, e3, k z Hb2 H2 (Evl.Ex.trans x1 y1) (Evl.Ex.trans x2 y2) y3 (x4.trans y4 x2) (rep_mono y1 e4)⟩
    · cases e
def bIxT (a : Pb K ta) (b : Ph K tb) : Pb K (tOp (rIxT K) ta tb) where
  ev := fun Γ => (a.ev Γ).bind fun x => (b.ev Γ).bind fun y => match x, y with | .tup l, .int i => atD l i | _, _ => none
  ok := fun {Γ d σ Hb H F Q} e w k => by
    obtain ⟨x, e1, e⟩ := Option.bind_eq_some_iff.mp e
    obtain ⟨y, e2, e⟩ := Option.bind_eq_some_iff.mp e
    refine a.ok e1 w fun v1 Hb1 H1 x1 x2 x3 x4 r1 => ?_
    refine b.ok e2 (w.pure x1 x2 x3 x4) fun v2 Hb2 H2 y1 y2 y3 y4 r2 => ?_
    split at e
    · obtain ⟨p, xs, rfl, h1, h2⟩ := r1
      obtain ⟨z, e3, e4⟩ := atD_rep h2 e
      rw [show v2 = V.int _ from r2]
      exact ⟨p, xs, _, z, rfl, rfl, Evl.ex_t (Evl.Ex.trans y1 y3) h1, e3, k z Hb2 H2 (Evl.Ex.trans x1 y1) (Evl.Ex.trans x2 y2) y3 (x4.trans y4 x2) (rep_mono y1 e4)⟩
    · cases e
/-- .. of a list that changes -/
def hIxL (a : Ph K ta) (b : Ph K tb) : Ph K (tOp (rIxL K) ta tb) where
  ev := fun Γ => (a.ev Γ).bind fun x => (b.ev Γ).bind fun y => match x.asL, y with | some l, .int i => atD l i | _, _ => none
  ok := fun {Γ d σ Hb H F Q} e w k => by
    obtain ⟨x, e1, e⟩ := Option.bind_eq_some_iff.mp e
    obtain ⟨y, e2, e⟩ := Option.bind_eq_some_iff.mp e
    refine a.ok e1 w fun v1 Hb1 H1 x1 x2 x3 x4 r1 => ?_
    refine b.ok e2 (w.pure x1 x2 x3 x4) fun v2 Hb2 H2 y1 y2 y3 y4 r2 => ?_
    split at e
    · rename_i hx
      obtain ⟨p, xs, rfl, h1, h2⟩ := rep_asL hx r1
      obtain ⟨z, e3, e4⟩ := atD_rep h2 e
      rw [show v2 = V.int _ from r2]
      exact ⟨p, xs, _, z, rfl, rfl, Evl.ex_l y2 h1, e3, k z Hb2 H2 (Evl.Ex.trans x1 y1) (Evl.Ex.trans x2 y2) y3 (x4.trans y4 x2) (rep_mono y2 e4)⟩
    · cases e
end
end KS

namespace KS
open PySem L2

/-! ### statements -/
inductive Ct where
  | nx (Γ : List M) | rt (m : M) (Γ : List M) | bk (Γ : List M) | ct (Γ : List M)
  deriving Inhabited
def Pin (pn : Nat → Bool) (σ σ2 : St) : Prop := ∀ i, pn i = true → σ2[i]? = σ[i]?
theorem Pin.refl {pn : Nat → Bool} {σ : St} : Pin pn σ σ := fun _ _ => rfl
theorem Pin.trans {pn : Nat → Bool} {σ σ1 σ2 : St} (a : Pin pn σ σ1) (b : Pin pn σ1 σ2) : Pin pn σ σ2 := fun i h => (b i h).trans (a i h)
theorem Pin.set {pn : Nat → Bool} {σ : St} {i : Nat} {s : Option V} (h : pn i = false) : Pin pn σ (σ.set i s) := fun j hj => by
  by_cases e : i = j
  · subst e; rw [h] at hj; cases hj
  · rw [List.getElem?_set_ne e]
def Goes (K : PySem.W.Frag) (pn : Nat → Bool) (σ : St) (Hb H : Hp) (F : List Addr) (E : Ends) : Ct → Prop
  | .nx Γ2 => ∀ σ2 Hb2 H2 F2, WF K Γ2 σ2 Hb2 H2 F2 → Step Hb H F Hb2 H2 F2 → Pin pn σ σ2 → E.nx σ2 H2
  | .bk Γ2 => ∀ σ2 Hb2 H2 F2, WF K Γ2 σ2 Hb2 H2 F2 → Step Hb H F Hb2 H2 F2 → Pin pn σ σ2 → E.bk σ2 H2
  | .ct Γ2 => ∀ σ2 Hb2 H2 F2, WF K Γ2 σ2 Hb2 H2 F2 → Step Hb H F Hb2 H2 F2 → Pin pn σ σ2 → E.ct σ2 H2
  | .rt m Γ2 => ∀ v σ2 Hb2 H2 F2 Fr, WF K Γ2 σ2 Hb2 H2 F2 → Step Hb H F Hb2 H2 (F2 ++ Fr) → Pin pn σ σ2 → Own K Hb2 H2 m v Fr → (F2 ++ Fr).Nodup → (∀ a ∈ Fr, Hb2 a = none) → E.rt v H2
/-- a later start -/
theorem Goes.from {K : PySem.W.Frag} {pn : Nat → Bool} {σ σ1 : St} {Hb H Hb1 H1 : Hp} {F F1 : List Addr} {E : Ends} {c : Ct} (g : Goes K pn σ Hb H F E c) (s : Step Hb H F Hb1 H1 F1) (p : Pin pn σ σ1) : Goes K pn σ1 Hb1 H1 F1 E c := by
  cases c with
  | nx Γ2 => exact fun σ2 Hb2 H2 F2 w t q => g σ2 Hb2 H2 F2 w (s.trans t) (p.trans q)
  | bk Γ2 => exact fun σ2 Hb2 H2 F2 w t q => g σ2 Hb2 H2 F2 w (s.trans t) (p.trans q)
  | ct Γ2 => exact fun σ2 Hb2 H2 F2 w t q => g σ2 Hb2 H2 F2 w (s.trans t) (p.trans q)
  | rt m Γ2 => exact fun v σ2 Hb2 H2 F2 Fr w t q => g v σ2 Hb2 H2 F2 Fr w (s.trans t) (p.trans q)
structure Sx (K : PySem.W.Frag) (pn : Nat → Bool) (t : TS) where
  ev : List M → Option Ct
  ok : ∀ {Γ : List M} {c : Ct} {σ : St} {Hb H : Hp} {F : List Addr} {E : Ends}, ev Γ = some c → WF K Γ σ Hb H F → Goes K pn σ Hb H F E c → t E σ H
/-- targets -/
structure Gt (K : PySem.W.Frag) (pn : Nat → Bool) (g : TG) where
  asg : List M → D → Option (List M)
  len : ∀ {Γ Γ2 : List M} {d : D}, asg Γ d = some Γ2 → Γ2.length = Γ.length
  ok : ∀ {Γ Γ2 : List M} {d : D} {v : V} {σ : St} {Hb H : Hp} {F : List Addr} {Q : St → Hp → Prop}, asg Γ d = some Γ2 → WF K Γ σ Hb H F → rep K Hb d v →
    (∀ σ2 F2, WF K Γ2 σ2 Hb H F2 → (∀ a ∈ F2, a ∈ F) → Pin pn σ σ2 → Q σ2 H) → g v σ H Q
structure Gts (K : PySem.W.Frag) (pn : Nat → Bool) (g : TGs) where
  asg : List M → List D → Option (List M)
  len : ∀ {Γ Γ2 : List M} {ds : List D}, asg Γ ds = some Γ2 → Γ2.length = Γ.length
  ok : ∀ {Γ Γ2 : List M} {ds : List D} {vs : List V} {σ : St} {Hb H : Hp} {F : List Addr} {Q : St → Hp → Prop}, asg Γ ds = some Γ2 → WF K Γ σ Hb H F → reps K Hb ds vs →
    (∀ σ2 F2, WF K Γ2 σ2 Hb H F2 → (∀ a ∈ F2, a ∈ F) → Pin pn σ σ2 → Q σ2 H) → g vs σ H Q
theorem Step.sub {Hb H : Hp} {F F2 : List Addr} (h : ∀ a ∈ F2, a ∈ F) : Step Hb H F Hb H F2 := ⟨Evl.Ex.refl _, fun _ _ h _ => h, fun a ha => .inl (h a ha), fun _ h => .inl h⟩

section
variable {K : PySem.W.Frag} {pn : Nat → Bool} {ta tb tc te : TE} {tr : TA} {t u : TT} {ts ts' tS : TS} {g : TG} {gs : TGs}
/-- another thing in a slot -/
theorem WF.put {Γ : List M} {σ : St} {Hb H : Hp} {F Fr : List Addr} {i : Nat} {m : M} {v : V} (w : WF K Γ σ Hb H F) (hi : i < Γ.length) (o : Own K Hb H m v Fr) (nd : Fr.Nodup) (fr : ∀ a ∈ Fr, Hb a = none ∧ a ∉ F) :
    ∃ F2, WF K (Γ.set i m) (σ.set i (some v)) Hb H F2 ∧ ∀ a ∈ F2, a ∈ F ∨ a ∈ Fr := by
  obtain ⟨s, A, B, Fi, h1, h2, h3, h4⟩ := w.own.at (List.getElem?_eq_getElem hi)
  subst h3
  have nA := w.nd
  rw [List.nodup_append] at nA
  obtain ⟨n1, n2, n3⟩ := nA
  rw [List.nodup_append] at n2
  obtain ⟨n4, n5, n6⟩ := n2
  have hs : SlO K Hb H m (some v) Fr ∨ m = .emp := by
    cases m with
    | emp => exact .inr rfl
    | im d => exact .inl ⟨v, rfl, o⟩
    | nd sh cs => exact .inl ⟨v, rfl, o⟩
  have hs2 : SlO K Hb H m (some v) Fr := by
    rcases hs with h | h
    · exact h
    · subst h; exact o
  refine ⟨A ++ (Fr ++ B), ⟨w.ex, h4 Hb H m (some v) Fr (Evl.Ex.refl _) (fun a _ o h => h) hs2, ?_, fun a ha => ?_⟩, fun a ha => ?_⟩
  · rw [List.nodup_append]
    refine ⟨n1, ?_, fun a ha b hb e => ?_⟩
    · rw [List.nodup_append]
      refine ⟨nd, n5, fun a ha b hb e => ?_⟩
      subst e
      exact (fr a ha).2 (by simp [hb])
    · subst e
      rcases List.mem_append.mp hb with hb | hb
      · exact (fr a hb).2 (by simp [ha])
      · exact n3 a ha a (by simp [hb]) rfl
  · rcases List.mem_append.mp ha with ha | ha
    · exact w.fh a (by simp [ha])
    · rcases List.mem_append.mp ha with ha | ha
      · exact (fr a ha).1
      · exact w.fh a (by simp [ha])
  · simp at ha ⊢
    rcases ha with ha | ha | ha
    · exact .inl (.inl ha)
    · exact .inr ha
    · exact .inl (.inr (.inr ha))
/-- a slot forgotten (its thing is let go) -/
theorem WF.wipe1 {Γ : List M} {σ : St} {Hb H : Hp} {F : List Addr} {i : Nat} {s' : Option V} (w : WF K Γ σ Hb H F) (hi : i < Γ.length) : ∃ F2, WF K (Γ.set i .emp) (σ.set i s') Hb H F2 ∧ ∀ a ∈ F2, a ∈ F := by
  obtain ⟨s, A, B, Fi, h1, h2, h3, h4⟩ := w.own.at (List.getElem?_eq_getElem hi)
  subst h3
  have nA := w.nd
  rw [List.nodup_append] at nA
  obtain ⟨n1, n2, n3⟩ := nA
  rw [List.nodup_append] at n2
  obtain ⟨n4, n5, n6⟩ := n2
  refine ⟨A ++ ([] ++ B), ⟨w.ex, h4 Hb H .emp s' [] (Evl.Ex.refl _) (fun a _ o h => h) rfl, ?_, fun a ha => w.fh a ?_⟩, fun a ha => ?_⟩
  · rw [List.nodup_append]
    exact ⟨n1, by simpa using n5, fun a ha b hb e => n3 a ha b (by simp at hb; simp [hb]) e⟩
  · simp at ha ⊢; rcases ha with ha | ha <;> simp [ha]
  · simp at ha ⊢; rcases ha with ha | ha <;> simp [ha]
def gN (i : Nat) : Gt K pn (gName i) where
  asg := fun Γ d => if i < Γ.length ∧ pn i = false then some (Γ.set i (.im d)) else none
  len := fun {Γ Γ2 d} e => by
    split at e
    · cases e; simp
    · cases e
  ok := fun {Γ Γ2 d v σ Hb H F Q} e w r k => by
    split at e
    · rename_i h
      cases e
      obtain ⟨F2, w2, h2⟩ := w.put (m := .im d) (v := v) (Fr := []) h.1 ⟨r, rfl⟩ List.nodup_nil (fun a ha => by cases ha)
      exact k _ F2 w2 (fun a ha => (h2 a ha).elim id fun z => by cases z) (Pin.set h.2)
    · cases e
def gsNil : Gts K pn gNil where
  asg := fun Γ ds => match ds with | [] => some Γ | _ => none
  len := fun {Γ Γ2 ds} e => by
    cases ds with
    | nil => cases e; rfl
    | cons a b => cases e
  ok := fun {Γ Γ2 ds vs σ Hb H F Q} e w r k => by
    cases ds with
    | nil =>
      cases e
      exact ⟨r, k σ F w (fun _ h => h) Pin.refl⟩
    | cons a b => cases e
def gsCons {gr : TGs} (a : Gt K pn g) (b : Gts K pn gr) : Gts K pn (gCons g gr) where
  asg := fun Γ ds => match ds with | d :: ds => (a.asg Γ d).bind fun Γ1 => b.asg Γ1 ds | [] => none
  len := fun {Γ Γ2 ds} e => by
    cases ds with
    | nil => cases e
    | cons d ds =>
      obtain ⟨Γ1, e1, e2⟩ := Option.bind_eq_some_iff.mp e
      rw [b.len e2, a.len e1]
  ok := fun {Γ Γ2 ds vs σ Hb H F Q} e w r k => by
    cases ds with
    | nil => cases e
    | cons d ds =>
      obtain ⟨Γ1, e1, e2⟩ := Option.bind_eq_some_iff.mp e
      obtain ⟨x, xs, rfl, r1, r2⟩ := r
      exact ⟨x, xs, rfl, a.ok e1 w r1 fun σ1 F1 w1 s1 p1 => b.ok e2 w1 r2 fun σ2 F2 w2 s2 p2 => k σ2 F2 w2 (fun a h => s1 a (s2 a h)) (p1.trans p2)⟩
def gT (n : Nat) (b : Gts K pn gs) : Gt K pn (gTup K n gs) where
  asg := fun Γ d => match d with | .tup ds => if ds.length = n then b.asg Γ ds else none | _ => none
  len := fun {Γ Γ2 d} e => by
    split at e
    · split at e
      · exact b.len e
      · cases e
    · cases e
  ok := fun {Γ Γ2 d vs σ Hb H F Q} e w r k => by
    split at e
    · split at e
      · rename_i hl
        obtain ⟨a, xs, rfl, r1, r2⟩ := r
        exact ⟨a, xs, rfl, Evl.ex_t w.ex r1, by rw [reps_len r2]; exact hl, b.ok e w r2 k⟩
      · cases e
    · cases e

/-! ### plain statements -/
def sSeq (a : Sx K pn ts) (b : Sx K pn ts') : Sx K pn (tSeq ts ts') where
  ev := fun Γ => (a.ev Γ).bind fun c => match c with | .nx Γ1 => b.ev Γ1 | c => some c
  ok := fun {Γ c σ Hb H F E} e w gg => by
    obtain ⟨c1, e1, e⟩ := Option.bind_eq_some_iff.mp e
    refine a.ok e1 w ?_
    cases c1 with
    | nx Γ1 => exact fun σ1 Hb1 H1 F1 w1 s1 p1 => b.ok e w1 (gg.from s1 p1)
    | rt m Γ1 => cases e; exact gg
    | bk Γ1 => cases e; exact gg
    | ct Γ1 => cases e; exact gg
def sNext : Sx K pn tNext where
  ev := fun Γ => some (.nx Γ)
  ok := fun {Γ c σ Hb H F E} e w gg => by
    cases e
    exact gg σ Hb H F w Step.refl Pin.refl
def sBrk : Sx K pn tBreak where
  ev := fun Γ => some (.bk Γ)
  ok := fun {Γ c σ Hb H F E} e w gg => by
    cases e
    exact gg σ Hb H F w Step.refl Pin.refl
def sCont : Sx K pn tCont where
  ev := fun Γ => some (.ct Γ)
  ok := fun {Γ c σ Hb H F E} e w gg => by
    cases e
    exact gg σ Hb H F w Step.refl Pin.refl
/-- code that is not come to -/
def sNever : Sx K pn tNever where
  ev := fun _ => none
  ok := fun {Γ c σ Hb H F E} e w gg => by cases e
def sAsg (p : Pb K te) (q : Gt K pn g) : Sx K pn (tAsg te g) where
  ev := fun Γ => (p.ev Γ).bind fun d => (q.asg Γ d).map .nx
  ok := fun {Γ c σ Hb H F E} e w gg => by
    obtain ⟨d, e1, e⟩ := Option.bind_eq_some_iff.mp e
    obtain ⟨Γ2, e2, rfl⟩ := Option.map_eq_some_iff.mp e
    refine p.ok e1 w fun v Hb2 H2 x1 x2 x3 x4 r => ?_
    refine q.ok e2 (w.pure x1 x2 x3 x4) r fun σ2 F2 w2 s2 p2 => ?_
    exact gg σ2 Hb2 H2 F2 w2 ((Step.pure x1 x2 x4).trans (Step.sub s2)) p2
/-- name = a new thing of its own -/
def sAsgO (i : Nat) (p : Po K te) : Sx K pn (tAsg te (gName i)) where
  ev := fun Γ => (p.ev Γ).bind fun m => if i < Γ.length ∧ pn i = false then some (.nx (Γ.set i m)) else none
  ok := fun {Γ c σ Hb H F E} e w gg => by
    obtain ⟨m, e1, e⟩ := Option.bind_eq_some_iff.mp e
    split at e
    · rename_i h
      cases e
      refine p.ok e1 w fun v Hb2 H2 Fr x1 x2 x3 x4 o nd fr => ?_
      have w1 := w.pure x1 x2 x3 x4
      obtain ⟨F2, w2, h2⟩ := w1.put (m := m) (v := v) h.1 o nd (fun a ha => ⟨(fr a ha).1, fun hf => absurd (fr a ha).2 (w.own.there a hf)⟩)
      refine gg _ Hb2 H2 F2 w2 ⟨x1, fun a o h _ => x2 a o h, fun a ha => ?_, fun a ha => (x4 a ha).elim .inl fun z => .inr (.inr z)⟩ (Pin.set h.2)
      rcases h2 a ha with z | z
      · exact .inl z
      · exact .inr (fr a z).2
    · cases e
def sDrop (p : Ph K te) : Sx K pn (tDrop te) where
  ev := fun Γ => (p.ev Γ).map fun _ => .nx Γ
  ok := fun {Γ c σ Hb H F E} e w gg => by
    obtain ⟨d, e1, rfl⟩ := Option.map_eq_some_iff.mp e
    exact p.ok e1 w fun v Hb2 H2 x1 x2 x3 x4 r => gg σ Hb2 H2 F (w.pure x1 x2 x3 x4) (Step.pure x1 x2 x4) Pin.refl
def sRet (p : Pb K te) : Sx K pn (tRet te) where
  ev := fun Γ => (p.ev Γ).map fun d => .rt (.im d) Γ
  ok := fun {Γ c σ Hb H F E} e w gg => by
    obtain ⟨d, e1, rfl⟩ := Option.map_eq_some_iff.mp e
    exact p.ok e1 w fun v Hb2 H2 x1 x2 x3 x4 r => gg v σ Hb2 H2 F [] (w.pure x1 x2 x3 x4) (by rw [List.append_nil]; exact Step.pure x1 x2 x4) Pin.refl ⟨r, rfl⟩ (by rw [List.append_nil]; exact w.nd) (fun a ha => by cases ha)
def sRetO (p : Po K te) : Sx K pn (tRet te) where
  ev := fun Γ => (p.ev Γ).map fun m => .rt m Γ
  ok := fun {Γ c σ Hb H F E} e w gg => by
    obtain ⟨d, e1, rfl⟩ := Option.map_eq_some_iff.mp e
    refine p.ok e1 w fun v Hb2 H2 Fr x1 x2 x3 x4 o nd fr => gg v σ Hb2 H2 F Fr (w.pure x1 x2 x3 x4) ⟨x1, fun a o h _ => x2 a o h, fun a ha => ?_, fun a ha => (x4 a ha).elim .inl fun z => .inr (.inr z)⟩ Pin.refl o ?_ (fun a ha => (fr a ha).1)
    · rcases List.mem_append.mp ha with ha | ha
      · exact .inl ha
      · exact .inr (fr a ha).2
    · rw [List.nodup_append]
      refine ⟨w.nd, nd, fun a ha b hb e => ?_⟩
      subst e
      exact absurd (fr a hb).2 (w.own.there a ha)
def sRetN : Sx K pn tRetN where
  ev := fun Γ => some (.rt (.im .non) Γ)
  ok := fun {Γ c σ Hb H F E} e w gg => by
    cases e
    exact gg .non σ Hb H F [] w (by rw [List.append_nil]; exact Step.refl) Pin.refl ⟨rfl, rfl⟩ (by rw [List.append_nil]; exact w.nd) (fun a ha => by cases ha)
/-- return of a name's own thing -/
def sRetV (i : Nat) : Sx K pn (tRet (tVar i)) where
  ev := fun Γ => match Γ[i]? with | some (.nd sh cs) => some (.rt (.nd sh cs) (Γ.set i .emp)) | _ => none
  ok := fun {Γ c σ Hb H F E} e w gg => by
    split at e
    · rename_i sh cs h
      cases e
      obtain ⟨s, A, B, Fi, h1, h2, h3, h4⟩ := w.own.at h
      obtain ⟨v, rfl, o⟩ := h2
      subst h3
      have nA := w.nd
      rw [List.nodup_append] at nA
      obtain ⟨n1, n2, n3⟩ := nA
      rw [List.nodup_append] at n2
      obtain ⟨n4, n5, n6⟩ := n2
      refine ⟨v, h1, gg v (σ.set i (some v)) Hb H (A ++ ([] ++ B)) Fi ⟨w.ex, h4 Hb H .emp (some v) [] (Evl.Ex.refl _) (fun a _ o h => h) rfl, ?_, fun a ha => w.fh a ?_⟩ (Step.sub fun a ha => ?_) ?_ o ?_ fun a ha => w.fh a ?_⟩
      · rw [List.nodup_append]
        exact ⟨n1, by simpa using n5, fun a ha b hb e => n3 a ha b (by simp at hb; simp [hb]) e⟩
      · simp at ha ⊢; rcases ha with ha | ha <;> simp [ha]
      · simp at ha ⊢; rcases ha with ha | ha | ha <;> simp [ha]
      · intro j hj
        by_cases e : i = j
        · subst e; rw [h1]; simp [List.getElem?_set, (List.getElem?_eq_some_iff.mp h1).1]
        · rw [List.getElem?_set_ne e]
      · have : ((A ++ ([] ++ B)) ++ Fi).Perm (A ++ (Fi ++ B)) := by
          rw [List.nil_append, List.append_assoc]
          exact List.Perm.append_left A List.perm_append_comm
        exact this.nodup_iff.mpr w.nd
      · simp [ha]
    · cases e
def sIf (c : Tt K t) (a : Sx K pn ts) (b : Sx K pn ts') : Sx K pn (tIfS t ts ts') where
  ev := fun Γ => (c.ev Γ).bind fun x => if x = true then a.ev Γ else b.ev Γ
  ok := fun {Γ c1 σ Hb H F E} e w gg => by
    obtain ⟨x, e1, e⟩ := Option.bind_eq_some_iff.mp e
    refine c.ok e1 w fun Hb2 H2 x1 x2 x3 x4 => ?_
    have w2 := w.pure x1 x2 x3 x4
    have g2 := gg.from (Step.pure (F := F) x1 x2 x4) Pin.refl
    cases x with
    | true => exact a.ok (by simpa using e) w2 g2
    | false => exact b.ok (by simpa using e) w2 g2
/-- name op= e -/
def sAug {r : R2} (i : Nat) (o : Op2 K r) (p : Ph K te) : Sx K pn (tAug i te r) where
  ev := fun Γ => match Γ[i]? with | some (.im x) => (p.ev Γ).bind fun y => (o.g x y).bind fun z => if i < Γ.length ∧ pn i = false then some (.nx (Γ.set i (.im z))) else none | _ => none
  ok := fun {Γ c σ Hb H F E} e w gg => by
    split at e
    · rename_i x hx
      obtain ⟨y, e1, e⟩ := Option.bind_eq_some_iff.mp e
      obtain ⟨z, e2, e⟩ := Option.bind_eq_some_iff.mp e
      split at e
      · rename_i h
        cases e
        obtain ⟨v, h1, h2⟩ := w.slot hx
        refine ⟨v, h1, p.ok e1 w fun v1 Hb2 H2 x1 x2 x3 x4 r1 => ?_⟩
        have w2 := w.pure x1 x2 x3 x4
        obtain ⟨q, hs, hq⟩ := o.ok e2 (rep_mono (Evl.Ex.trans x1 x3) h2) r1
        refine hq _ ?_
        obtain ⟨F2, w3, h3⟩ := w2.put (m := .im z) (v := q) (Fr := []) h.1 ⟨rep_sc hs, rfl⟩ List.nodup_nil (fun a ha => by cases ha)
        exact gg _ Hb2 H2 F2 w3 ((Step.pure x1 x2 x4).trans (Step.sub fun a ha => (h3 a ha).elim id fun z => by cases z)) (Pin.set h.2)
      · cases e
    · cases e

/-! ### changing a name's own list -/
/-- the slot's object is changed in place, nothing else -/
theorem WF.chg {Γ : List M} {σ : St} {Hb H : Hp} {F : List Addr} {i : Nat} {sh : Sh} {cs : List M} (w : WF K Γ σ Hb H F) (h : Γ[i]? = some (.nd sh cs)) :
    ∃ a dx vs Fc, σ[i]? = some (some (.ref a)) ∧ a ∈ F ∧ H a = some (sh.ho K dx vs) ∧ sh.fit vs.length ∧ OwnL K Hb H cs vs Fc ∧ a ∉ Fc ∧
      ∀ (sh2 : Sh) (cs2 : List M) (vs2 : List V), sh2.fit vs2.length → OwnL K Hb (upd H a (sh2.ho K dx vs2)) cs2 vs2 Fc → WF K (Γ.set i (.nd sh2 cs2)) σ Hb (upd H a (sh2.ho K dx vs2)) F ∧ Step Hb H F Hb (upd H a (sh2.ho K dx vs2)) F := by
  obtain ⟨s, A, B, Fi, h1, h2, h3, h4⟩ := w.own.at h
  obtain ⟨v, rfl, o⟩ := h2
  obtain ⟨a, dx, vs, Fc, rfl, e2, e3, e4, rfl⟩ := o
  subst h3
  have nA := w.nd
  have ha : a ∈ A ++ (a :: Fc ++ B) := by simp
  refine ⟨a, dx, vs, Fc, h1, ha, e2, e3, e4, ?_, fun sh2 cs2 vs2 f2 o2 => ?_⟩
  · rw [List.nodup_append] at nA
    have := nA.2.1
    rw [List.nodup_append] at this
    exact (List.nodup_cons.mp this.1).1
  rw [List.nodup_append] at nA
  obtain ⟨n1, n2, n3⟩ := nA
  rw [List.nodup_append] at n2
  obtain ⟨n4, n5, n6⟩ := n2
  have ab : Hb a = none := w.fh a ha
  have eσ : σ.set i (some (V.ref a)) = σ := by
    apply List.ext_getElem?
    intro j
    by_cases e : i = j
    · subst e; rw [h1]; simp [List.getElem?_set, (List.getElem?_eq_some_iff.mp h1).1]
    · rw [List.getElem?_set_ne e]
  have ex : Ex Hb (upd H a (sh2.ho K dx vs2)) := fun b o hb => by
    have : b ≠ a := fun z => by rw [z, ab] at hb; cases hb
    rw [upd_ne this]; exact w.ex b o hb
  refine ⟨⟨ex, ?_, w.nd, w.fh⟩, ⟨Evl.Ex.refl _, fun b o hb hf => ?_, fun b hb => .inl hb, fun _ hb => .inl hb⟩⟩
  · have := h4 Hb (upd H a (sh2.ho K dx vs2)) (.nd sh2 cs2) (some (.ref a)) (a :: Fc) (Evl.Ex.refl _) (fun b hb o hH => ?_) ⟨.ref a, rfl, a, dx, vs2, Fc, rfl, upd_same, f2, o2, rfl⟩
    · rw [eσ] at this; exact this
    · have : b ≠ a := fun z => by
        subst z
        rcases List.mem_append.mp hb with hb | hb
        · exact n3 b hb b (by simp) rfl
        · exact n6 b (by simp) b hb rfl
      rw [upd_ne this]; exact hH
  · have : b ≠ a := fun z => hf (by rw [z]; exact ha)
    rw [upd_ne this]; exact hb
theorem ownL_append {Hb H : Hp} : ∀ {ms ns : List M} {vs ws : List V} {F : List Addr}, OwnL K Hb H ms vs F → OwnL K Hb H ns ws [] → OwnL K Hb H (ms ++ ns) (vs ++ ws) F
  | [], ns, vs, ws, F, h, g => by
    obtain ⟨rfl, rfl⟩ := h
    exact g
  | m :: ms, ns, vs, ws, F, h, g => by
    obtain ⟨v, r, F1, F2, rfl, h1, h2, rfl⟩ := h
    exact ⟨v, r ++ ws, F1, F2, rfl, h1, ownL_append h2 g, rfl⟩
theorem ownL_len {Hb H : Hp} : ∀ {ms : List M} {vs : List V} {F : List Addr}, OwnL K Hb H ms vs F → vs.length = ms.length
  | [], _, _, h => by rw [h.1]; rfl
  | m :: ms, _, _, h => by
    obtain ⟨v, r, F1, F2, rfl, h1, h2, rfl⟩ := h
    simp [ownL_len h2]
/-- children at an address that is not theirs keep when that is changed -/
theorem ownL_upd {Hb H : Hp} {ms : List M} {vs : List V} {F : List Addr} {a : Addr} {o : HO} (h : OwnL K Hb H ms vs F) (ha : a ∉ F) : OwnL K Hb (upd H a o) ms vs F :=
  OwnL.keep (Evl.Ex.refl _) h fun b hb u hu => by
    have : b ≠ a := fun z => ha (z ▸ hb)
    rw [upd_ne this]; exact hu
/-- no own children -/
def allIm : List M → Option (List D)
  | [] => some []
  | .im d :: ms => (allIm ms).map fun ds => d :: ds
  | _ :: _ => none
theorem allIm_eq : ∀ {cs : List M} {ds : List D}, allIm cs = some ds → cs = ds.map M.im
  | [], ds, h => by simp [allIm] at h; subst h; rfl
  | .im d :: ms, ds, h => by
    simp only [allIm, Option.map_eq_some_iff] at h
    obtain ⟨ds', h1, rfl⟩ := h
    rw [allIm_eq h1]; rfl
  | .emp :: _, _, h => by simp [allIm] at h
  | .nd _ _ :: _, _, h => by simp [allIm] at h
theorem allIm_map : ∀ (ds : List D), allIm (ds.map M.im) = some ds
  | [] => rfl
  | d :: ds => by simp [allIm, allIm_map ds]
theorem ims_own {Hb H : Hp} : ∀ {ds : List D} {vs : List V} {F : List Addr}, OwnL K Hb H (ds.map M.im) vs F → reps K Hb ds vs ∧ F = []
  | [], _, _, h => h
  | d :: ds, _, _, h => by
    obtain ⟨v, r, F1, F2, rfl, ⟨h1, rfl⟩, h2, rfl⟩ := h
    obtain ⟨h3, rfl⟩ := ims_own h2
    exact ⟨⟨v, r, rfl, h1, h3⟩, rfl⟩
/-- xs.append(e), xs a name -/
def sApp (i : Nat) (p : Pb K te) : Sx K pn (tDrop (tBM K "list" rAppend (tVar i) (tCons te tNil))) where
  ev := fun Γ => match Γ[i]? with
    | some (.nd .lst cs) => (p.ev Γ).bind fun d => if lineD (cs.length + 1) then some (.nx (Γ.set i (.nd .lst (cs ++ [.im d])))) else none
    | _ => none
  ok := fun {Γ c σ Hb H F E} e w gg => by
    split at e
    · rename_i cs hi
      obtain ⟨d, e1, e⟩ := Option.bind_eq_some_iff.mp e
      split at e
      · rename_i hl
        cases e
        obtain ⟨a, dx, vs, Fc, s1, s2, s3, s4, s5, s6, s7⟩ := w.chg hi
        refine ⟨.ref a, s1, Or.inl ⟨rfl, vs, SqL.of s3⟩, ?_⟩
        refine p.ok e1 w fun v Hb2 H2 x1 x2 x3 x4 r => ?_
        have w2 := w.pure x1 x2 x3 x4
        obtain ⟨a', dx', vs', Fc', t1, t2, t3, t4, t5, t6, t7⟩ := w2.chg hi
        have ea : a' = a := by rw [s1] at t1; cases t1; rfl
        subst ea
        have hlen : vs'.length + 1 ≤ 100000 := by rw [ownL_len t5]; exact of_decide_eq_true hl
        refine ⟨a', vs', v, rfl, rfl, t3, Nat.lt_of_lt_of_le (Nat.lt_succ_self _) (Evl.sz_of hlen), ?_⟩
        obtain ⟨w3, st3⟩ := t7 .lst (cs ++ [.im d]) (vs' ++ [v]) True.intro (ownL_append (ownL_upd t5 t6) (own_ims (ds := [d]) ⟨v, [], rfl, r, rfl⟩))
        exact gg σ Hb2 _ F w3 ((Step.pure x1 x2 x4).trans st3) Pin.refl
      · cases e
    · cases e
end
end KS

namespace KS
open PySem L2

/-- J yields just the data ds, one by one -/
def Walks (K : PySem.W.Frag) (J : It) (ds : List D) (Hb2 : Hp) : Prop :=
  (∀ i Hb3 H3, Ex Hb2 Hb3 → Ex Hb3 H3 → i < ds.length → J.go i H3 ∧ ∀ x H4, J.yld i H3 x H4 → ∃ Hb4 d, Ex Hb3 Hb4 ∧ Ex H3 H4 ∧ Ex Hb4 H4 ∧ NB Hb3 Hb4 H3 ∧ ds[i]? = some d ∧ rep K Hb4 d x) ∧
  (∀ Hb3 H3, Ex Hb2 Hb3 → Ex Hb3 H3 → J.stop ds.length H3)
structure Src (K : PySem.W.Frag) (wi : TI) where
  ev : List M → Option (List D)
  ok : ∀ {Γ : List M} {ds : List D} {σ : St} {Hb H : Hp} {F : List Addr} {R : It → Hp → Prop}, ev Γ = some ds → WF K Γ σ Hb H F →
    (∀ J Hb2 H2, Ex Hb Hb2 → Ex H H2 → Ex Hb2 H2 → NB Hb Hb2 H → Walks K J ds Hb2 → R J H2) → wi σ H R
def forRun (asg : List M → D → Option (List M)) (body : List M → Option Ct) : List D → List M → Option Ct
  | [], Γ => some (.nx Γ)
  | d :: ds, Γ => (asg Γ d).bind fun Γ1 => (body Γ1).bind fun c => match c with
    | .nx Γ2 => forRun asg body ds Γ2
    | .ct Γ2 => forRun asg body ds Γ2
    | .bk Γ2 => some (.nx Γ2)
    | .rt m Γ2 => some (.rt m Γ2)
def whileRun (c : List M → Option Bool) (body : List M → Option Ct) : Nat → List M → Option Ct
  | 0, _ => none
  | n + 1, Γ => (c Γ).bind fun b => if b = true then (body Γ).bind fun r => match r with
      | .nx Γ2 => whileRun c body n Γ2
      | .ct Γ2 => whileRun c body n Γ2
      | .bk Γ2 => some (.nx Γ2)
      | .rt m Γ2 => some (.rt m Γ2)
    else some (.nx Γ)
section
variable {K : PySem.W.Frag} {pn : Nat → Bool} {ta tb tc te : TE} {tr : TA} {t u : TT} {ts ts' tS : TS} {g : TG} {gs : TGs} {wi : TI}
def sFor (s : Src K wi) (q : Gt K pn g) (b : Sx K pn tS) : Sx K pn (tFor wi g tS) where
  ev := fun Γ => (s.ev Γ).bind fun ds => forRun q.asg b.ev ds Γ
  ok := fun {Γ c σ Hb H F E} e w gg => by
    obtain ⟨ds, e1, e⟩ := Option.bind_eq_some_iff.mp e
    refine s.ok e1 w fun J Hb1 H1 x1 x2 x3 x4 wk => ?_
    refine ⟨fun i m σ' H' => m = ds.length - i ∧ i ≤ ds.length ∧ ∃ Γ' Hb' F', WF K Γ' σ' Hb' H' F' ∧ Step Hb H F Hb' H' F' ∧ Ex Hb1 Hb' ∧ Pin pn σ σ' ∧ forRun q.asg b.ev (ds.drop i) Γ' = some c,
      ⟨ds.length, by simp, Nat.zero_le _, Γ, Hb1, F, w.pure x1 x2 x3 x4, Step.pure x1 x2 x4, Evl.Ex.refl _, Pin.refl, by simpa using e⟩, ?_⟩
    rintro i m σ' H' ⟨rfl, hi, Γ', Hb', F', w', s', xb, p', run⟩
    by_cases hlt : i < ds.length
    · obtain ⟨go, yl⟩ := wk.1 i Hb' H' xb w'.ex hlt
      refine .inr ⟨go, fun σ'' H'' => i + 1 ≤ ds.length ∧ ∃ Γ' Hb' F', WF K Γ' σ'' Hb' H'' F' ∧ Step Hb H F Hb' H'' F' ∧ Ex Hb1 Hb' ∧ Pin pn σ σ'' ∧ forRun q.asg b.ev (ds.drop (i + 1)) Γ' = some c,
        fun σ'' H'' n => ⟨ds.length - (i + 1), by omega, rfl, n⟩, fun x H4 hy => ?_⟩
      obtain ⟨Hb4, d, y1, y2, y3, y4, hd, r⟩ := yl x H4 hy
      have ed : ds.drop i = d :: ds.drop (i + 1) := by
        rw [List.drop_eq_getElem_cons hlt]
        rw [List.getElem?_eq_getElem hlt] at hd
        cases hd; rfl
      rw [ed] at run
      simp only [forRun] at run
      obtain ⟨Γ1, r1, run⟩ := Option.bind_eq_some_iff.mp run
      obtain ⟨c1, r2, run⟩ := Option.bind_eq_some_iff.mp run
      have w4 := w'.pure y1 y2 y3 y4
      have s4 : Step Hb H F Hb4 H4 F' := s'.trans (Step.pure y1 y2 y4)
      refine q.ok r1 w4 r fun σ5 F5 w5 sub5 p5 => ?_
      have s5 : Step Hb H F Hb4 H4 F5 := s4.trans (Step.sub sub5)
      refine b.ok r2 w5 ?_
      cases c1 with
      | nx Γ2 => exact fun σ6 Hb6 H6 F6 w6 s6 p6 => ⟨hlt, Γ2, Hb6, F6, w6, s5.trans s6, Evl.Ex.trans (Evl.Ex.trans xb y1) s6.eb, (p'.trans p5).trans p6, run⟩
      | ct Γ2 => exact fun σ6 Hb6 H6 F6 w6 s6 p6 => ⟨hlt, Γ2, Hb6, F6, w6, s5.trans s6, Evl.Ex.trans (Evl.Ex.trans xb y1) s6.eb, (p'.trans p5).trans p6, run⟩
      | bk Γ2 =>
        cases run
        exact fun σ6 Hb6 H6 F6 w6 s6 p6 => gg σ6 Hb6 H6 F6 w6 (s5.trans s6) ((p'.trans p5).trans p6)
      | rt m Γ2 =>
        cases run
        exact fun v σ6 Hb6 H6 F6 Fr w6 s6 p6 => gg v σ6 Hb6 H6 F6 Fr w6 (s5.trans s6) ((p'.trans p5).trans p6)
    · have ei : i = ds.length := by omega
      subst ei
      rw [List.drop_length] at run
      simp only [forRun, Option.some.injEq] at run
      subst run
      exact .inl ⟨wk.2 Hb' H' xb w'.ex, gg σ' Hb' H' F' w' s' p'⟩
def sWhile (fuel : List M → Nat) (c : Tt K t) (b : Sx K pn tS) : Sx K pn (tWhile t tS) where
  ev := fun Γ => whileRun c.ev b.ev (fuel Γ) Γ
  ok := fun {Γ r σ Hb H F E} e w gg => by
    refine ⟨fun m σ' H' => ∃ Γ' Hb' F', WF K Γ' σ' Hb' H' F' ∧ Step Hb H F Hb' H' F' ∧ Pin pn σ σ' ∧ whileRun c.ev b.ev m Γ' = some r, ⟨fuel Γ, Γ, Hb, F, w, Step.refl, Pin.refl, e⟩, ?_⟩
    rintro m σ' H' ⟨Γ', Hb', F', w', s', p', run⟩
    cases m with
    | zero => cases run
    | succ m =>
      simp only [whileRun] at run
      obtain ⟨x, e1, run⟩ := Option.bind_eq_some_iff.mp run
      refine c.ok e1 w' fun Hb2 H2 x1 x2 x3 x4 => ?_
      have w2 := w'.pure x1 x2 x3 x4
      have s2 : Step Hb H F Hb2 H2 F' := s'.trans (Step.pure x1 x2 x4)
      cases x with
      | true =>
        simp only [if_true] at run
        obtain ⟨c1, r2, run⟩ := Option.bind_eq_some_iff.mp run
        refine ⟨fun σ'' H'' => ∃ Γ' Hb' F', WF K Γ' σ'' Hb' H'' F' ∧ Step Hb H F Hb' H'' F' ∧ Pin pn σ σ'' ∧ whileRun c.ev b.ev m Γ' = some r, fun σ'' H'' n => ⟨m, Nat.lt_succ_self _, n⟩, ?_⟩
        refine b.ok r2 w2 ?_
        cases c1 with
        | nx Γ2 => exact fun σ6 Hb6 H6 F6 w6 s6 p6 => ⟨Γ2, Hb6, F6, w6, s2.trans s6, p'.trans p6, run⟩
        | ct Γ2 => exact fun σ6 Hb6 H6 F6 w6 s6 p6 => ⟨Γ2, Hb6, F6, w6, s2.trans s6, p'.trans p6, run⟩
        | bk Γ2 =>
          cases run
          exact fun σ6 Hb6 H6 F6 w6 s6 p6 => gg σ6 Hb6 H6 F6 w6 (s2.trans s6) (p'.trans p6)
        | rt m Γ2 =>
          cases run
          exact fun v σ6 Hb6 H6 F6 Fr w6 s6 p6 => gg v σ6 Hb6 H6 F6 Fr w6 (s2.trans s6) (p'.trans p6)
      | false =>
        have run' : some (Ct.nx Γ') = some r := by simpa using run
        cases run'
        exact gg σ' Hb2 H2 F' w2 s2 p'

/-! ### what is walked -/
def srcL (p : Pb K ta) : Src K (iList K ta) where
  ev := fun Γ => (p.ev Γ).bind D.asL
  ok := fun {Γ ds σ Hb H F R} e w k => by
    obtain ⟨d, e1, e⟩ := Option.bind_eq_some_iff.mp e
    refine p.ok e1 w fun v Hb2 H2 x1 x2 x3 x4 r => ?_
    · obtain ⟨a, xs, rfl, h1, h2⟩ := rep_asL e r
      refine ⟨a, rfl, ⟨xs, Evl.ex_l x3 h1⟩, k (Itl K a) Hb2 H2 x1 x2 x3 x4 ⟨fun i Hb3 H3 y1 y2 hi => ?_, fun Hb3 H3 y1 y2 => ⟨xs, Evl.ex_l (Evl.Ex.trans y1 y2) h1, by rw [reps_len h2]; exact Nat.le_refl _⟩⟩⟩
      have hl := reps_len h2
      refine ⟨⟨xs, xs[i]'(by omega), Evl.ex_l (Evl.Ex.trans y1 y2) h1, List.getElem?_eq_getElem _⟩, fun x H4 hy => ?_⟩
      obtain ⟨rfl, hx⟩ := hy
      obtain ⟨d', e2, e3⟩ := reps_get h2 (hx xs (Evl.ex_l (Evl.Ex.trans y1 y2) h1))
      exact ⟨Hb3, d', Evl.Ex.refl _, Evl.Ex.refl _, y2, NB.refl, e2, rep_mono y1 e3⟩
def srcT (p : Pb K ta) : Src K (iTup K ta) where
  ev := fun Γ => (p.ev Γ).bind fun d => match d with | .tup l => some l | _ => none
  ok := fun {Γ ds σ Hb H F R} e w k => by
    obtain ⟨d, e1, e⟩ := Option.bind_eq_some_iff.mp e
    refine p.ok e1 w fun v Hb2 H2 x1 x2 x3 x4 r => ?_
    split at e
    · cases e
      obtain ⟨a, xs, rfl, h1, h2⟩ := r
      refine ⟨a, rfl, ⟨xs, Evl.ex_t x3 h1⟩, k (Itt K a) Hb2 H2 x1 x2 x3 x4 ⟨fun i Hb3 H3 y1 y2 hi => ?_, fun Hb3 H3 y1 y2 => ⟨xs, Evl.ex_t (Evl.Ex.trans y1 y2) h1, by rw [reps_len h2]; exact Nat.le_refl _⟩⟩⟩
      have hl := reps_len h2
      refine ⟨⟨xs, xs[i]'(by omega), Evl.ex_t (Evl.Ex.trans y1 y2) h1, List.getElem?_eq_getElem _⟩, fun x H4 hy => ?_⟩
      obtain ⟨rfl, hx⟩ := hy
      obtain ⟨d', e2, e3⟩ := reps_get h2 (hx xs (Evl.ex_t (Evl.Ex.trans y1 y2) h1))
      exact ⟨Hb3, d', Evl.Ex.refl _, Evl.Ex.refl _, y2, NB.refl, e2, rep_mono y1 e3⟩
    · cases e
/-- lo, lo + 1, .. (n of them) -/
def rangeD (lo : Int) (n : Nat) : List D := (List.range n).map fun (i : Nat) => D.int (lo + (i : Int))
theorem rangeD_len (lo : Int) (n : Nat) : (rangeD lo n).length = n := by simp [rangeD]
theorem walks_range {Hb2 : Hp} (lo : Int) (n : Nat) : Walks K (Itr lo n) (rangeD lo n) Hb2 := by
  refine ⟨fun i Hb3 H3 y1 y2 hi => ?_, fun Hb3 H3 y1 y2 => ?_⟩
  · rw [rangeD_len] at hi
    refine ⟨hi, fun x H4 hy => ?_⟩
    obtain ⟨rfl, rfl⟩ := hy
    exact ⟨Hb3, .int (lo + (i : Int)), Evl.Ex.refl _, Evl.Ex.refl _, y2, NB.refl, by simp [rangeD, hi], rfl⟩
  · show n ≤ (rangeD lo n).length
    rw [rangeD_len]; exact Nat.le_refl _
def srcR1 (a : Ah K tr) : Src K (iRng1 tr) where
  ev := fun Γ => (a.ev Γ).bind fun ds => match ds with | [.int n] => if -(2 ^ 62) ≤ n ∧ n < 2 ^ 62 then some (rangeD 0 n.toNat) else none | _ => none
  ok := fun {Γ ds σ Hb H F R} e w k => by
    obtain ⟨d, e1, e⟩ := Option.bind_eq_some_iff.mp e
    refine a.ok e1 w fun v Hb2 H2 x1 x2 x3 x4 r => ?_
    split at e
    · split at e
      · rename_i n hn
        cases e
        obtain ⟨x, xs, rfl, h1, h2⟩ := r
        obtain rfl : xs = [] := h2
        obtain rfl : x = .int n := h1
        exact ⟨n, rfl, hn.1, hn.2, k _ Hb2 H2 x1 x2 x3 x4 (walks_range 0 n.toNat)⟩
      · cases e
    · cases e
def srcR2 (a : Ah K tr) : Src K (iRng2 tr) where
  ev := fun Γ => (a.ev Γ).bind fun ds => match ds with | [.int m, .int n] => if (-(2 ^ 62) ≤ m ∧ m < 2 ^ 62) ∧ -(2 ^ 62) ≤ n ∧ n < 2 ^ 62 then some (rangeD m (n - m).toNat) else none | _ => none
  ok := fun {Γ ds σ Hb H F R} e w k => by
    obtain ⟨d, e1, e⟩ := Option.bind_eq_some_iff.mp e
    refine a.ok e1 w fun v Hb2 H2 x1 x2 x3 x4 r => ?_
    split at e
    · split at e
      · rename_i m n hn
        cases e
        obtain ⟨x, xs, rfl, h1, y, ys, rfl, h2, h3⟩ := r
        obtain rfl : ys = [] := h3
        obtain rfl : x = .int m := h1
        obtain rfl : y = .int n := h2
        exact ⟨m, n, rfl, ⟨hn.1.1, hn.1.2, hn.2.1, hn.2.2⟩, k _ Hb2 H2 x1 x2 x3 x4 (walks_range m (n - m).toNat)⟩
      · cases e
    · cases e
def srcS (p : Ph K ta) : Src K (iStr ta) where
  ev := fun Γ => (p.ev Γ).bind fun d => match d with | .str s => some (s.cps.toList.map fun c => D.str ⟨#[c]⟩) | _ => none
  ok := fun {Γ ds σ Hb H F R} e w k => by
    obtain ⟨d, e1, e⟩ := Option.bind_eq_some_iff.mp e
    refine p.ok e1 w fun v Hb2 H2 x1 x2 x3 x4 r => ?_
    split at e
    · rename_i s
      cases e
      obtain rfl : v = .str s := r
      refine ⟨s, rfl, k (Its s) Hb2 H2 x1 x2 x3 x4 ⟨fun i Hb3 H3 y1 y2 hi => ?_, fun Hb3 H3 y1 y2 => ?_⟩⟩
      · rw [List.length_map, Array.length_toList] at hi
        refine ⟨hi, fun x H4 hy => ?_⟩
        obtain ⟨rfl, c, hc, rfl⟩ := hy
        exact ⟨Hb3, .str ⟨#[c]⟩, Evl.Ex.refl _, Evl.Ex.refl _, y2, NB.refl, by simp [hc], rfl⟩
      · show s.cps.size ≤ _
        simp
    · cases e
theorem ex_put {Hb H : Hp} {T : Addr} {o : HO} (e : Ex Hb H) (h : H T = none) : Ex Hb (upd Hb T o) ∧ Ex H (upd H T o) ∧ Ex (upd Hb T o) (upd H T o) ∧ NB Hb (upd Hb T o) H := by
  have hb : Hb T = none := none_of_ex e h
  refine ⟨Evl.Ex.new hb, Evl.Ex.new h, fun a u ha => ?_, fun a ha => ?_⟩
  · by_cases z : a = T
    · subst z; rw [upd_same] at ha ⊢; exact ha
    · rw [upd_ne z] at ha ⊢; exact e a u ha
  · by_cases z : a = T
    · subst z; exact .inr h
    · rw [upd_ne z] at ha; exact .inl ha
/-- pairs of a number and an item -/
def enumD : Nat → List D → List D
  | _, [] => []
  | i, d :: ds => .tup [.int (i : Int), d] :: enumD (i + 1) ds
theorem enumD_get : ∀ {ds : List D} {i j : Nat} {d : D}, ds[i]? = some d → (enumD j ds)[i]? = some (.tup [.int ((j + i : Nat) : Int), d])
  | [], _, _, _, h => by simp at h
  | a :: ds, 0, j, d, h => by simp at h; subst h; simp [enumD]
  | a :: ds, i + 1, j, d, h => by
    simp at h
    have := enumD_get (j := j + 1) h
    simp only [enumD, List.getElem?_cons_succ]
    rw [this]
    have : j + 1 + i = j + (i + 1) := by omega
    rw [this]
theorem enumD_len : ∀ (ds : List D) (j : Nat), (enumD j ds).length = ds.length
  | [], _ => rfl
  | d :: ds, j => by simp [enumD, enumD_len ds]
def srcE (a : Ab K tr) : Src K (iEnum K tr) where
  ev := fun Γ => (a.ev Γ).bind fun ds => match ds with | [d] => d.asL.map (enumD 0) | _ => none
  ok := fun {Γ ds σ Hb H F R} e w k => by
    obtain ⟨d, e1, e⟩ := Option.bind_eq_some_iff.mp e
    refine a.ok e1 w fun v Hb2 H2 x1 x2 x3 x4 r => ?_
    split at e
    · rename_i d0
      obtain ⟨l, hl0, rfl⟩ := Option.map_eq_some_iff.mp e
      obtain ⟨x, xs, rfl, h1, h2⟩ := r
      obtain rfl : xs = [] := h2
      obtain ⟨q, ys, rfl, h1, h2⟩ := rep_asL hl0 h1
      refine ⟨q, ys, rfl, Evl.ex_l x3 h1, k (Ite K q) Hb2 H2 x1 x2 x3 x4 ⟨fun i Hb3 H3 y1 y2 hi => ?_, fun Hb3 H3 y1 y2 => ⟨ys, Evl.ex_l (Evl.Ex.trans y1 y2) h1, by rw [enumD_len, reps_len h2]; exact Nat.le_refl _⟩⟩⟩
      rw [enumD_len] at hi
      have hl := reps_len h2
      refine ⟨⟨ys, ys[i]'(by omega), Evl.ex_l (Evl.Ex.trans y1 y2) h1, List.getElem?_eq_getElem _⟩, fun x H4 hy => ?_⟩
      obtain ⟨T, z, rfl, hT, rfl, hz⟩ := hy
      obtain ⟨d', e2, e3⟩ := reps_get h2 (hz ys (Evl.ex_l (Evl.Ex.trans y1 y2) h1))
      obtain ⟨z1, z2, z3, z4⟩ := ex_put (o := .tup [.int (i : Nat), z]) y2 hT
      refine ⟨upd Hb3 T (.tup [.int (i : Nat), z]), .tup [.int (i : Nat), d'], z1, z2, z3, z4, by rw [enumD_get e2, Nat.zero_add], T, _, rfl, SqT.of upd_same, .int (i : Nat), [z], rfl, rfl, z, [], rfl, rep_mono (Evl.Ex.trans y1 z1) e3, rfl⟩
    · cases e
def zipD : List D → List D → List D
  | a :: as, b :: bs => .tup [a, b] :: zipD as bs
  | _, _ => []
theorem zipD_get : ∀ {as bs : List D} {i : Nat} {a b : D}, as[i]? = some a → bs[i]? = some b → (zipD as bs)[i]? = some (.tup [a, b])
  | [], _, _, _, _, h, _ => by simp at h
  | _ :: _, [], _, _, _, _, h => by simp at h
  | a :: as, b :: bs, 0, _, _, h, h' => by simp at h h'; subst h; subst h'; simp [zipD]
  | a :: as, b :: bs, i + 1, _, _, h, h' => by
    simp at h h'
    simpa [zipD] using zipD_get h h'
theorem zipD_len : ∀ (as bs : List D), (zipD as bs).length = min as.length bs.length
  | [], _ => by simp [zipD]
  | _ :: _, [] => by simp [zipD]
  | a :: as, b :: bs => by
    simp only [zipD, List.length_cons, zipD_len as bs]; omega
def srcZ (a : Ab K tr) : Src K (iZip K tr) where
  ev := fun Γ => (a.ev Γ).bind fun ds => match ds with | [d, d'] => d.asL.bind fun l => d'.asL.map fun l' => zipD l l' | _ => none
  ok := fun {Γ ds σ Hb H F R} e w k => by
    obtain ⟨d, e1, e⟩ := Option.bind_eq_some_iff.mp e
    refine a.ok e1 w fun v Hb2 H2 x1 x2 x3 x4 r => ?_
    split at e
    · obtain ⟨l, hl0, e⟩ := Option.bind_eq_some_iff.mp e
      obtain ⟨l', hl1, rfl⟩ := Option.map_eq_some_iff.mp e
      obtain ⟨x, xs, rfl, h1, y, ys, rfl, h2, h3⟩ := r
      obtain rfl : ys = [] := h3
      obtain ⟨q, us, rfl, h1, h1'⟩ := rep_asL hl0 h1
      obtain ⟨q', vs, rfl, h2, h2'⟩ := rep_asL hl1 h2
      have l1 := reps_len h1'
      have l2 := reps_len h2'
      refine ⟨q, q', us, vs, rfl, Evl.ex_l x3 h1, Evl.ex_l x3 h2, k (Itz K q q') Hb2 H2 x1 x2 x3 x4 ⟨fun i Hb3 H3 y1 y2 hi => ?_, fun Hb3 H3 y1 y2 => ⟨us, vs, Evl.ex_l (Evl.Ex.trans y1 y2) h1, Evl.ex_l (Evl.Ex.trans y1 y2) h2, by rw [zipD_len]; omega⟩⟩⟩
      rw [zipD_len] at hi
      refine ⟨⟨us, vs, us[i]'(by omega), vs[i]'(by omega), Evl.ex_l (Evl.Ex.trans y1 y2) h1, Evl.ex_l (Evl.Ex.trans y1 y2) h2, List.getElem?_eq_getElem _, List.getElem?_eq_getElem _⟩, fun x H4 hy => ?_⟩
      obtain ⟨T, z, z', rfl, hT, rfl, hz, hz'⟩ := hy
      obtain ⟨d1, e2, e3⟩ := reps_get h1' (hz us (Evl.ex_l (Evl.Ex.trans y1 y2) h1))
      obtain ⟨d2, e4, e5⟩ := reps_get h2' (hz' vs (Evl.ex_l (Evl.Ex.trans y1 y2) h2))
      obtain ⟨z1, z2, z3, z4⟩ := ex_put (o := .tup [z, z']) y2 hT
      exact ⟨upd Hb3 T (.tup [z, z']), .tup [d1, d2], z1, z2, z3, z4, zipD_get e2 e4, T, _, rfl, SqT.of upd_same, z, [z'], rfl, rep_mono (Evl.Ex.trans y1 z1) e3, z', [], rfl, rep_mono (Evl.Ex.trans y1 z1) e5, rfl⟩
    · cases e

/-! ### comprehensions -/
def wipeG (Γ : List M) : List Nat → List M
  | [] => Γ
  | v :: vs => (wipeG Γ vs).set v .emp
theorem wipeG_len (Γ : List M) : ∀ vs, (wipeG Γ vs).length = Γ.length
  | [] => rfl
  | v :: vs => by simp [wipeG, wipeG_len Γ vs]
theorem WF.wipe {Γ : List M} {σ : St} {Hb H : Hp} {F : List Addr} (w : WF K Γ σ Hb H F) : ∀ vs : List Nat, ∃ F2, WF K (wipeG Γ vs) (wipe σ vs) Hb H F2 ∧ ∀ a ∈ F2, a ∈ F
  | [] => ⟨F, w, fun _ h => h⟩
  | v :: vs => by
    obtain ⟨F1, w1, h1⟩ := w.wipe vs
    by_cases hv : v < (wipeG Γ vs).length
    · obtain ⟨F2, w2, h2⟩ := w1.wipe1 (i := v) (s' := none) hv
      exact ⟨F2, w2, fun a h => h1 a (h2 a h)⟩
    · have e1 : (wipeG Γ vs).set v .emp = wipeG Γ vs := List.set_eq_of_length_le (by omega)
      have e2 : (L2.wipe σ vs).set v none = L2.wipe σ vs := List.set_eq_of_length_le (by rw [wipe_length, w.own.len]; rw [wipeG_len] at hv; omega)
      exact ⟨F1, by show WF K ((wipeG Γ vs).set v .emp) ((L2.wipe σ vs).set v none) Hb H F1; rw [e1, e2]; exact w1, h1⟩
theorem wipe_get {σ : St} : ∀ {vs : List Nat} {i : Nat}, (L2.wipe σ vs)[i]? = if i ∈ vs then (if i < σ.length then some none else none) else σ[i]?
  | [], i => by simp [L2.wipe]
  | v :: vs, i => by
    show ((L2.wipe σ vs).set v none)[i]? = _
    by_cases e : v = i
    · subst e
      rw [if_pos List.mem_cons_self]
      rw [List.getElem?_set_self' ]
      by_cases h : v < σ.length
      · rw [if_pos h]
        rw [List.getElem?_eq_getElem (by rw [wipe_length]; exact h)]
        rfl
      · rw [if_neg h]
        rw [List.getElem?_eq_none (by rw [wipe_length]; omega)]
        rfl
    · rw [List.getElem?_set_ne e, wipe_get]
      have : (i ∈ v :: vs) = (i ∈ vs) := by simp [Ne.symm e]
      simp only [this]
theorem wipe_same {σ σ2 : St} {vs : List Nat} (hl : σ2.length = σ.length) (h : Pin (fun i => !vs.contains i) (L2.wipe σ vs) σ2) : L2.wipe σ2 vs = L2.wipe σ vs := by
  apply List.ext_getElem?
  intro i
  rw [wipe_get, wipe_get]
  by_cases hi : i ∈ vs
  · rw [if_pos hi, if_pos hi, hl]
  · rw [if_neg hi, if_neg hi]
    have := h i (by simpa using hi)
    rw [this, wipe_get, if_neg hi]
def lcRun (asg : List M → D → Option (List M)) (tt : List M → Option Bool) (el : List M → Option D) (Γ : List M) : List D → Option (List D)
  | [] => some []
  | d :: ds => (asg Γ d).bind fun Γ1 => (tt Γ1).bind fun b => if b = true then (el Γ1).bind fun y => (lcRun asg tt el Γ ds).map fun r => y :: r else lcRun asg tt el Γ ds
theorem lcRun_len {asg : List M → D → Option (List M)} {tt : List M → Option Bool} {el : List M → Option D} {Γ : List M} : ∀ {ds r : List D}, lcRun asg tt el Γ ds = some r → r.length ≤ ds.length
  | [], r, h => by simp [lcRun] at h; subst h; simp
  | d :: ds, r, h => by
    simp only [lcRun] at h
    obtain ⟨Γ1, _, h⟩ := Option.bind_eq_some_iff.mp h
    obtain ⟨b, _, h⟩ := Option.bind_eq_some_iff.mp h
    cases b with
    | true =>
      simp only [if_true] at h
      obtain ⟨y, _, h⟩ := Option.bind_eq_some_iff.mp h
      obtain ⟨r', h', rfl⟩ := Option.map_eq_some_iff.mp h
      have := lcRun_len h'
      simp only [List.length_cons]; omega
    | false =>
      have h2 : lcRun asg tt el Γ ds = some r := by simpa using h
      have := lcRun_len h2
      simp only [List.length_cons]; omega
def yTst : Tt K tYes where
  ev := fun _ => some true
  ok := fun {Γ b σ Hb H F Q} e w k => by
    cases e
    exact k Hb H (Evl.Ex.refl _) (Evl.Ex.refl _) w.ex NB.refl
/-- [el for target in source if test] -/
def oLc (vs : List Nat) (s : Src K wi) (q : Gt K (fun i => !vs.contains i) g) (c : Tt K t) (p : Pb K te) : Po K (tLc wi g t te vs) where
  ev := fun Γ => (s.ev Γ).bind fun ds => if lineD ds.length then (lcRun q.asg c.ev p.ev (wipeG Γ vs) ds).map fun r => .nd .lst (r.map M.im) else none
  ok := fun {Γ m σ Hb H F Q} e w k => by
    obtain ⟨ds, e1, e⟩ := Option.bind_eq_some_iff.mp e
    split at e
    · rename_i hline
      obtain ⟨res, e2, rfl⟩ := Option.map_eq_some_iff.mp e
      refine s.ok e1 w fun J Hb1 H1 x1 x2 x3 x4 wk => fun L hL => ?_
      have w1 := w.pure x1 x2 x3 x4
      obtain ⟨F2, w2, sub2⟩ := w1.wipe vs
      have bL : Hb1 L = none := none_of_ex x3 hL
      have dl : ds.length ≤ 100000 := of_decide_eq_true hline
      refine ⟨fun i m H' => m = ds.length - i ∧ i ≤ ds.length ∧ ∃ Hb' acc done rest, Ex Hb1 Hb' ∧ Ex H1 H' ∧ Ex Hb' H' ∧ NB Hb1 Hb' H1 ∧ Hb' L = none ∧ H' L = some (.lst acc) ∧ reps K Hb' done acc ∧ done.length ≤ i ∧ lcRun q.asg c.ev p.ev (wipeG Γ vs) (ds.drop i) = some rest ∧ done ++ rest = res,
        ⟨ds.length, by simp, Nat.zero_le _, Hb1, [], [], res, Evl.Ex.refl _, Evl.Ex.new hL, Evl.Ex.trans x3 (Evl.Ex.new hL), NB.refl, bL, upd_same, rfl, Nat.le_refl _, by simpa using e2, by simp⟩, ?_⟩
      rintro i m H' ⟨rfl, hi, Hb', acc, done, rest, z1, z2, z3, z4, z5, z6, z7, z8, z9, z10⟩
      by_cases hlt : i < ds.length
      · obtain ⟨go, yl⟩ := wk.1 i Hb' H' z1 z3 hlt
        refine .inr ⟨go, fun H'' => i + 1 ≤ ds.length ∧ ∃ Hb' acc done rest, Ex Hb1 Hb' ∧ Ex H1 H'' ∧ Ex Hb' H'' ∧ NB Hb1 Hb' H1 ∧ Hb' L = none ∧ H'' L = some (.lst acc) ∧ reps K Hb' done acc ∧ done.length ≤ i + 1 ∧ lcRun q.asg c.ev p.ev (wipeG Γ vs) (ds.drop (i + 1)) = some rest ∧ done ++ rest = res,
          fun H'' n => ⟨ds.length - (i + 1), by omega, rfl, n⟩, fun x H4 hy => ?_⟩
        obtain ⟨Hb4, d, y1, y2, y3, y4, hd, r⟩ := yl x H4 hy
        have ed : ds.drop i = d :: ds.drop (i + 1) := by
          rw [List.drop_eq_getElem_cons hlt]
          rw [List.getElem?_eq_getElem hlt] at hd
          cases hd; rfl
        rw [ed] at z9
        simp only [lcRun] at z9
        obtain ⟨Γ1, r1, z9⟩ := Option.bind_eq_some_iff.mp z9
        obtain ⟨b, r2, z9⟩ := Option.bind_eq_some_iff.mp z9
        have nL : ∀ {Hb5 H5 : Hp}, NB Hb4 Hb5 H5 → H5 L ≠ none → Hb4 L = none → Hb5 L = none := fun {Hb5 H5} n h1 h2 => by
          cases e : Hb5 L with
          | none => rfl
          | some o =>
            rcases n L (by rw [e]; simp) with z | z
            · exact absurd h2 z
            · exact absurd z h1
        have bL4 : Hb4 L = none := by
          cases e : Hb4 L with
          | none => rfl
          | some o =>
            rcases y4 L (by rw [e]; simp) with z | z
            · exact absurd z5 z
            · rw [z6] at z; cases z
        have w4 : WF K (wipeG Γ vs) (L2.wipe σ vs) Hb4 H4 F2 := w2.pure (Evl.Ex.trans z1 y1) (Evl.Ex.trans z2 y2) y3 (z4.trans y4 z2)
        refine q.ok r1 w4 r fun σ5 F5 w5 sub5 p5 => ⟨wipe_same (by have h1 := w5.own.len; rw [h1, q.len r1, wipeG_len, w.own.len]) p5, ?_⟩
        refine c.ok r2 w5 fun Hb6 H6 u1 u2 u3 u4 => ?_
        have h6L : H6 L = some (.lst acc) := u2 L _ (y2 L _ z6)
        have bL6 : Hb6 L = none := nL u4 (by rw [y2 L _ z6]; simp) bL4
        have w6 := w5.pure u1 u2 u3 u4
        have zz1 : Ex Hb1 Hb6 := Evl.Ex.trans (Evl.Ex.trans z1 y1) u1
        have zz2 : Ex H1 H6 := Evl.Ex.trans (Evl.Ex.trans z2 y2) u2
        have zz4 : NB Hb1 Hb6 H1 := (z4.trans y4 z2).trans u4 (Evl.Ex.trans z2 y2)
        cases b with
        | true =>
          simp only [if_true] at z9 ⊢
          obtain ⟨y, r3, z9⟩ := Option.bind_eq_some_iff.mp z9
          obtain ⟨rest', r4, rfl⟩ := Option.map_eq_some_iff.mp z9
          refine p.ok r3 w6 fun v Hb7 H7 t1 t2 t3 t4 rv => ?_
          have bL7 : Hb7 L = none := by
            cases e : Hb7 L with
            | none => rfl
            | some o =>
              rcases t4 L (by rw [e]; simp) with z | z
              · exact absurd bL6 z
              · rw [h6L] at z; cases z
          refine ⟨acc, t2 L _ h6L, ?_, hlt, Hb7, acc ++ [v], done ++ [y], rest', Evl.Ex.trans zz1 t1, Evl.Ex.mut (Evl.Ex.trans zz2 t2) hL, Evl.Ex.mut t3 bL7, zz4.trans t4 zz2, bL7, upd_same, reps_append (reps_mono (Evl.Ex.trans (Evl.Ex.trans y1 u1) t1) z7) ⟨v, [], rfl, rv, rfl⟩, by simp only [List.length_append, List.length_cons, List.length_nil]; omega, r4, by rw [List.append_assoc]; exact z10⟩
          rw [reps_len z7]
          exact Nat.lt_of_lt_of_le (Nat.lt_succ_self _) (Evl.sz_of (by omega))
        | false =>
          have z9' : lcRun q.asg c.ev p.ev (wipeG Γ vs) (ds.drop (i + 1)) = some rest := by simpa using z9
          show i + 1 ≤ ds.length ∧ _
          exact ⟨hlt, Hb6, acc, done, rest, zz1, zz2, u3, zz4, bL6, h6L, reps_mono (Evl.Ex.trans y1 u1) z7, by omega, z9', z10⟩
      · have ei : i = ds.length := by omega
        subst ei
        rw [List.drop_length] at z9
        simp only [lcRun, Option.some.injEq] at z9
        subst z9
        rw [List.append_nil] at z10
        subst z10
        refine .inl ⟨wk.2 Hb' H' z1 z3, k (.ref L) Hb' H' [L] (Evl.Ex.trans x1 z1) (Evl.Ex.trans x2 z2) z3 (x4.trans z4 x2) ⟨L, 0, acc, [], rfl, z6, True.intro, own_ims z7, rfl⟩ (by simp) fun a ha => ?_⟩
        rw [List.mem_singleton.mp ha]
        exact ⟨z5, none_of_ex x2 hL⟩
    · cases e
end
end KS

namespace KS
open PySem L2

/-! ### pure defs -/
/-- called with values that are the data ds in a fixed part, it hands back G ds; nothing else changes -/
def spP (K : PySem.W.Frag) (G : List D → Option M) : Sp := fun vs H Q _ => ∃ (Hb : Hp) (ds : List D) (m : M), Ex Hb H ∧ reps K Hb ds vs ∧ G ds = some m ∧
  ∀ v Hb2 H2 Fr, Ex Hb Hb2 → Ex H H2 → Ex Hb2 H2 → NB Hb Hb2 H → Own K Hb2 H2 m v Fr → Fr.Nodup → (∀ a ∈ Fr, Hb2 a = none ∧ H a = none) → Q v H2
def outM : Ct → Option M
  | .nx _ => some (.im .non)
  | .rt m _ => some m
  | _ => none
def startG (n : Nat) (ds : List D) : List M := ds.map M.im ++ List.replicate (n - ds.length) .emp
def pn0 : Nat → Bool := fun _ => false
def runP (n : Nat) (ev : List M → Option Ct) (ds : List D) : Option M := (ev (startG n ds)).bind outM
theorem ownS_emp {K : PySem.W.Frag} {Hb H : Hp} : ∀ (n : Nat), OwnS K Hb H (List.replicate n .emp) (List.replicate n none) []
  | 0 => ⟨rfl, rfl⟩
  | n + 1 => ⟨none, List.replicate n none, [], [], rfl, rfl, ownS_emp n, rfl⟩
theorem ownS_start {K : PySem.W.Frag} {Hb H : Hp} (n : Nat) : ∀ {ds : List D} {vs : List V}, reps K Hb ds vs → OwnS K Hb H (ds.map M.im ++ List.replicate n .emp) (vs.map some ++ List.replicate n none) []
  | [], _, h => by
    rw [show _ = [] from h]
    exact ownS_emp n
  | d :: ds, _, h => by
    obtain ⟨x, r, rfl, h1, h2⟩ := h
    exact ⟨some x, _, [], [], rfl, ⟨x, rfl, h1, rfl⟩, ownS_start n h2, rfl⟩
theorem wf_start {K : PySem.W.Frag} {Hb H : Hp} {N : List Str} {ds : List D} {vs : List V} (e : Ex Hb H) (h : reps K Hb ds vs) : WF K (startG N.length ds) (L2.start N vs) Hb H [] := by
  refine ⟨e, ?_, List.nodup_nil, fun a ha => by cases ha⟩
  unfold startG L2.start
  rw [reps_len h]
  exact ownS_start _ h
/-- the reading of a pure def's body -/
theorem pure_body {K : PySem.W.Frag} {t : TS} {N : List Str} {vs : List V} {H : Hp} {Q : VK} {E : XK} (b : Sx K pn0 t) (h : spP K (runP N.length b.ev) vs H Q E) : t { nx := fun _ H' => Q .non H', rt := Q } (L2.start N vs) H := by
  obtain ⟨Hb, ds, m, e, r, run, k⟩ := h
  obtain ⟨c, e1, e2⟩ := Option.bind_eq_some_iff.mp run
  refine b.ok e1 (wf_start e r) ?_
  cases c with
  | nx Γ2 =>
    cases e2
    exact fun σ2 Hb2 H2 F2 w s _ => k .non Hb2 H2 [] s.eb (fun a o h => s.fr a o h (by simp)) w.ex (fun a ha => (s.nb a ha).elim .inl fun z => .inr (z.elim (fun z => by cases z) id)) ⟨rfl, rfl⟩ List.nodup_nil (fun a ha => by cases ha)
  | rt m2 Γ2 =>
    cases e2
    exact fun v σ2 Hb2 H2 F2 Fr w s _ o nd fr => k v Hb2 H2 Fr s.eb (fun a o h => s.fr a o h (by simp)) w.ex (fun a ha => (s.nb a ha).elim .inl fun z => .inr (z.elim (fun z => by cases z) id)) o (List.nodup_append.mp nd).2.1
      (fun a ha => ⟨fr a ha, (s.fp a (List.mem_append_right _ ha)).elim (fun z => by cases z) id⟩)
  | bk Γ2 => cases e2
  | ct Γ2 => cases e2
theorem spP_len {K : PySem.W.Frag} {G : List D → Option M} {n : Nat} (hG : ∀ ds m, G ds = some m → ds.length = n) : ∀ vs H Q E, spP K G vs H Q E → vs.length = n := fun vs H Q E h => by
  obtain ⟨Hb, ds, m, e, r, run, k⟩ := h
  rw [reps_len r, hG ds m run]
/-- a promise by a plain function, shown of the body -/
theorem spP_imp {K : PySem.W.Frag} {G G' : List D → Option M} (h : ∀ ds m, G' ds = some m → G ds = some m) : ∀ vs H Q E, spP K G' vs H Q E → spP K G vs H Q E := fun vs H Q E ⟨Hb, ds, m, e, r, run, k⟩ => ⟨Hb, ds, m, e, r, h ds m run, k⟩

/-- np parameters, n names -/
def runF (np n : Nat) (ev : List M → Option Ct) (ds : List D) : Option M := if ds.length = np then runP n ev ds else none
theorem runF_len {np n : Nat} {ev : List M → Option Ct} : ∀ ds m, runF np n ev ds = some m → ds.length = np := fun ds m h => by
  unfold runF at h
  split at h
  · assumption
  · cases h
theorem pure_bodyF {K : PySem.W.Frag} {t : TS} {N : List Str} {vs : List V} {H : Hp} {Q : VK} {E : XK} {np n : Nat} (b : Sx K pn0 t) (h : spP K (runF np n b.ev) vs H Q E) (hn : N.length = n := by rfl) : t { nx := fun _ H' => Q .non H', rt := Q } (L2.start N vs) H := by
  subst hn
  refine pure_body (E := E) b (spP_imp (fun ds m hm => ?_) vs H Q E h)
  unfold runF at hm
  split at hm
  · exact hm
  · cases hm
section
variable {K : PySem.W.Frag} {pn : Nat → Bool} {ta tb tc te : TE} {tr : TA} {t u : TT} {ts ts' tS : TS} {g : TG} {gs : TGs} {wi : TI}
/-- defaults that fill up -/
structure Dfl where
  ds : List D
  vs : List V
  ok : ∀ (K : PySem.W.Frag) (H : Hp), reps K H ds vs
def noDfl : Dfl := ⟨[], [], fun _ _ => rfl⟩
/-- f(a, b, ..), f pure -/
def oCall (G : List D → Option M) (f : Dfl) (a : Ab K tr) : Po K (tCall (spP K G) f.vs E0 tr) where
  ev := fun Γ => (a.ev Γ).bind fun ds => G (ds ++ f.ds)
  ok := fun {Γ m σ Hb H F Q} e w k => by
    obtain ⟨ds, e1, e⟩ := Option.bind_eq_some_iff.mp e
    refine a.ok e1 w fun vs Hb2 H2 x1 x2 x3 x4 r => ⟨Hb2, ds ++ f.ds, m, x3, reps_append r (f.ok K Hb2), e, fun v Hb3 H3 Fr y1 y2 y3 y4 o nd fr => ?_⟩
    exact k v Hb3 H3 Fr (Evl.Ex.trans x1 y1) (Evl.Ex.trans x2 y2) y3 (x4.trans y4 x2) o nd fun a ha => ⟨(fr a ha).1, none_of_ex x2 (fr a ha).2⟩
/-- .. with arguments that the heap alone tells -/
def hCall (G : List D → Option M) (f : Dfl) (a : Ah K tr) : Ph K (tCall (spP K G) f.vs E0 tr) where
  ev := fun Γ => (a.ev Γ).bind fun ds => (G (ds ++ f.ds)).bind M.fz
  ok := fun {Γ d σ Hb H F Q} e w k => by
    obtain ⟨ds, e1, e⟩ := Option.bind_eq_some_iff.mp e
    obtain ⟨m, e2, e3⟩ := Option.bind_eq_some_iff.mp e
    refine a.ok e1 w fun vs Hb2 H2 x1 x2 x3 x4 r => ⟨H2, ds ++ f.ds, m, Evl.Ex.refl _, reps_append r (f.ok K H2), e2, fun v Hb3 H3 Fr y1 y2 y3 y4 o nd fr => ?_⟩
    exact k v Hb2 H3 x1 (Evl.Ex.trans x2 y2) (Evl.Ex.trans x3 y2) x4 (Own.fz y3 o e3 fun a _ o h => h)
/-- a result that is fixed -/
def bCall (G : List D → Option M) (f : Dfl) (a : Ab K tr) : Pb K (tCall (spP K G) f.vs E0 tr) := (oCall G f a).b

/-! ### built-ins -/
def oLen : OpC K (fun xs H Q => ∃ p ys, xs = [.ref p] ∧ (SqL K H p ys ∨ SqT K H p ys) ∧ Q (.int ys.length) H) where
  g := fun ds => match ds with | [d] => d.asS.map fun l => .int (l.length : Int) | _ => none
  ok := fun {H xs ds z} e r => by
    split at e
    · obtain ⟨l, e1, rfl⟩ := Option.map_eq_some_iff.mp e
      obtain ⟨x, xs, rfl, h1, h2⟩ := r
      obtain rfl : xs = [] := h2
      obtain ⟨a, ys, rfl, h3, h4⟩ := rep_asS e1 h1
      exact ⟨_, rfl, fun Q q => ⟨a, ys, rfl, h3, by rw [reps_len h4]; exact q⟩⟩
    · cases e
def oLenS : OpC K (fun xs H Q => ∃ z, xs = [.str z] ∧ z.length ≤ sizeLine ∧ Q (.int z.length) H) where
  g := fun ds => match ds with | [.str s] => if lineD s.length then some (.int (s.length : Int)) else none | _ => none
  ok := fun {H xs ds z} e r => by
    split at e
    · split at e
      · rename_i hl
        cases e
        obtain ⟨x, xs, rfl, h1, h2⟩ := r
        obtain rfl : xs = [] := h2
        exact ⟨_, rfl, fun Q q => ⟨_, by rw [show x = _ from h1], lineD_ok hl, q⟩⟩
      · cases e
    · cases e
def oStrI : OpC K (fun xs H Q => ∃ i, xs = [.int i] ∧ i.natAbs.log2 < 1920 ∧ Q (.str (toString i)) H) where
  g := fun ds => match ds with | [.int i] => if i.natAbs.log2 < 1920 then some (.str (toString i)) else none | _ => none
  ok := fun {H xs ds z} e r => by
    split at e
    · split at e
      · rename_i hl
        cases e
        obtain ⟨x, xs, rfl, h1, h2⟩ := r
        obtain rfl : xs = [] := h2
        exact ⟨_, rfl, fun Q q => ⟨_, by rw [show x = _ from h1], hl, q⟩⟩
      · cases e
    · cases e
def oIntS : OpC K (fun xs H Q => ∃ a n, xs = [.str a] ∧ PySem.intText? a = some n ∧ a.length ≤ 640 ∧ Q (.int n) H) where
  g := fun ds => match ds with | [.str s] => if s.length ≤ 640 then (PySem.intText? s).map D.int else none | _ => none
  ok := fun {H xs ds z} e r => by
    split at e
    · split at e
      · rename_i hl
        obtain ⟨n, e1, rfl⟩ := Option.map_eq_some_iff.mp e
        obtain ⟨x, xs, rfl, h1, h2⟩ := r
        obtain rfl : xs = [] := h2
        exact ⟨_, rfl, fun Q q => ⟨_, n, by rw [show x = _ from h1], e1, hl, q⟩⟩
      · cases e
    · cases e
def oInt1 : OpC K (fun xs H Q => (∃ i, xs = [.int i] ∧ Q (.int i) H) ∨ ∃ k, xs = [.bl k] ∧ Q (.int (if k then 1 else 0)) H) where
  g := fun ds => match ds with | [.int i] => some (.int i) | [.bl b] => some (.int (if b then 1 else 0)) | _ => none
  ok := fun {H xs ds z} e r => by
    split at e
    · cases e
      obtain ⟨x, xs, rfl, h1, h2⟩ := r
      obtain rfl : xs = [] := h2
      exact ⟨_, rfl, fun Q q => .inl ⟨_, by rw [show x = _ from h1], q⟩⟩
    · cases e
      obtain ⟨x, xs, rfl, h1, h2⟩ := r
      obtain rfl : xs = [] := h2
      exact ⟨_, rfl, fun Q q => .inr ⟨_, by rw [show x = _ from h1], q⟩⟩
    · cases e
def oMin2 : OpC K (fun xs H Q => ∃ i j, xs = [.int i, .int j] ∧ Q (.int (if j < i then j else i)) H) where
  g := fun ds => match ds with | [.int i, .int j] => some (.int (if j < i then j else i)) | _ => none
  ok := fun {H xs ds z} e r => by
    split at e
    · cases e
      obtain ⟨x, xs, rfl, h1, y, ys, rfl, h2, h3⟩ := r
      obtain rfl : ys = [] := h3
      exact ⟨_, rfl, fun Q q => ⟨_, _, by rw [show x = _ from h1, show y = _ from h2], q⟩⟩
    · cases e
def oMax2 : OpC K (fun xs H Q => ∃ i j, xs = [.int i, .int j] ∧ Q (.int (if j > i then j else i)) H) where
  g := fun ds => match ds with | [.int i, .int j] => some (.int (if j > i then j else i)) | _ => none
  ok := fun {H xs ds z} e r => by
    split at e
    · cases e
      obtain ⟨x, xs, rfl, h1, y, ys, rfl, h2, h3⟩ := r
      obtain rfl : ys = [] := h3
      exact ⟨_, rfl, fun Q q => ⟨_, _, by rw [show x = _ from h1, show y = _ from h2], q⟩⟩
    · cases e
/-- isinstance with a built-in class -/
def D.tyn : D → Option String
  | .non => some "NoneType"
  | .bl _ => some "bool"
  | .int _ => some "int"
  | .str _ => some "str"
  | .tup _ => some "tuple"
  | .lst _ => some "list"
  | .scr _ => some "list"
  | _ => none
theorem tyn_ty {H : Hp} : ∀ {d : D} {v : V} {n : String}, d.tyn = some n → rep K H d v → TyX K H v (.type n)
  | .non, _, _, e, h => by cases e; rw [show _ = V.non from h]; exact .base .non
  | .bl b, _, _, e, h => by cases e; rw [show _ = V.bl b from h]; exact .base (.bl b)
  | .int i, _, _, e, h => by cases e; rw [show _ = V.int i from h]; exact .base (.int i)
  | .str i, _, _, e, h => by cases e; rw [show _ = V.str i from h]; exact .base (.str i)
  | .tup l, _, _, e, h => by
    cases e
    obtain ⟨a, xs, rfl, h1, _⟩ := h
    rcases h1 with (h1 | ⟨o, h1⟩) | ⟨o, its, n, h1, h2, _⟩
    · exact .base (.tup h1)
    · exact .fTuple h1
    · exact .kTuple h1 h2
  | .lst l, _, _, e, h => by
    cases e
    obtain ⟨a, xs, rfl, h1, _⟩ := h
    exact .base (.lst h1)
  | .scr l, _, _, e, h => by
    cases e
    obtain ⟨a, xs, rfl, h1, _⟩ := h
    rcases h1 with (h1 | ⟨o, h1⟩) | ⟨o, its, n, h1, h2, _⟩
    · exact .base (.lst h1)
    · exact .base (.frz h1)
    · exact .kList h1 h2
def oIsi : OpC K (rIsi K) where
  g := fun ds => match ds with | [d, .ty n] => (d.tyn).bind fun t => (kitB t n).map D.bl | _ => none
  ok := fun {H xs ds z} e r => by
    split at e
    · obtain ⟨t, e1, e⟩ := Option.bind_eq_some_iff.mp e
      obtain ⟨b, e2, rfl⟩ := Option.map_eq_some_iff.mp e
      obtain ⟨x, xs, rfl, h1, y, ys, rfl, h2, h3⟩ := r
      obtain rfl : ys = [] := h3
      exact ⟨_, rfl, fun Q q => ⟨x, _, .type t, _, b, by rw [show y = _ from h2], .ty _, tyn_ty e1 h1, kit_ty e2, q⟩⟩
    · cases e
theorem kit_ii : kitB "int" "int" = some true := by decide +kernel
theorem kit_ib : kitB "int" "bool" = some false := by decide +kernel
theorem kit_bi : kitB "bool" "int" = some true := by decide +kernel
theorem kit_bb : kitB "bool" "bool" = some true := by decide +kernel
theorem kit_ll : kitB "list" "list" = some true := by decide +kernel
theorem kit_tt : kitB "tuple" "tuple" = some true := by decide +kernel
theorem kit_ss : kitB "str" "str" = some true := by decide +kernel

theorem sh_i (i : Int) : SeqAt.shaped (.int i) = true := rfl
theorem sh_b (i : Bool) : SeqAt.shaped (.bool i) = true := rfl
theorem ev_ii (i j : Int) : PyData.eqv (.int i) (.int j) = (i == j) := rfl
theorem ev_ss (i j : Str) : PyData.eqv (.str i) (.str j) = (i == j) := rfl
theorem ev_bb (i j : Bool) : PyData.eqv (.bool i) (.bool j) = (i == j) := rfl
/-- == of scalars -/
def eqS : D → D → Option Bool
  | .non, .non => some true
  | .int i, .int j => some (i == j)
  | .bl i, .bl j => some (i == j)
  | .str i, .str j => some (i == j)
  | .non, .int _ => some false | .int _, .non => some false | .non, .bl _ => some false | .bl _, .non => some false | .non, .str _ => some false | .str _, .non => some false
  | .int _, .str _ => some false | .str _, .int _ => some false | .bl _, .str _ => some false | .str _, .bl _ => some false
  | _, _ => none
theorem eqS_ok {H : Hp} : ∀ {a b : D} {c : Bool} {x y : V}, eqS a b = some c → rep K H a x → rep K H b y → scal x y = true ∧ decide (x = y) = c := by
  intro a b c x y e ra rb
  unfold eqS at e
  split at e
  all_goals first
    | (cases e; done)
    | (cases e
       first
         | (rw [show x = _ from ra, show y = _ from rb]
            refine ⟨rfl, ?_⟩
            first
              | exact dec_int
              | exact dec_bl
              | exact dec_str
              | simp))
def oEqS : Op2 K rEq where
  g := fun a b => (eqS a b).map .bl
  ok := fun {H x y a b z} e ra rb => by
    obtain ⟨c, e1, rfl⟩ := Option.map_eq_some_iff.mp e
    obtain ⟨h1, h2⟩ := eqS_ok e1 ra rb
    exact ⟨_, rfl, fun Q q => ⟨h1, by rw [h2]; exact q⟩⟩
def oNeS : Op2 K rNe where
  g := fun a b => (eqS a b).map fun c => .bl (!c)
  ok := fun {H x y a b z} e ra rb => by
    obtain ⟨c, e1, rfl⟩ := Option.map_eq_some_iff.mp e
    obtain ⟨h1, h2⟩ := eqS_ok e1 ra rb
    exact ⟨_, rfl, fun Q q => ⟨h1, by rw [h2]; exact q⟩⟩
/-! ### new lists -/
theorem own_lst {Hb H2 : Hp} {p : Addr} {ds : List D} {vs : List V} (hp : H2 p = none) (hr : reps K Hb ds vs) : Own K Hb (upd H2 p (.lst vs)) (.nd .lst (ds.map M.im)) (.ref p) [p] := own_new (sh := .lst) (dx := 0) hp True.intro hr
/-- a built-in that hands back a new list -/
structure OpL (K : PySem.W.Frag) (r : List V → Hp → VK → Prop) where
  g : List D → Option (List D)
  ok : ∀ {Hb H : Hp} {xs : List V} {ds es : List D}, g ds = some es → Ex Hb H → reps K Hb ds xs → ∃ vs, reps K Hb es vs ∧ ∀ Q : VK, (∀ p, H p = none → Q (.ref p) (upd H p (.lst vs))) → r xs H Q
def oCBL {rc : List V → Hp → VK → Prop} (o : OpL K rc) (a : Ab K tr) : Po K (tCB rc tr) where
  ev := fun Γ => (a.ev Γ).bind fun ds => (o.g ds).map fun es => .nd .lst (es.map M.im)
  ok := fun {Γ m σ Hb H F Q} e w k => by
    obtain ⟨ds, e1, e⟩ := Option.bind_eq_some_iff.mp e
    obtain ⟨es, e2, rfl⟩ := Option.map_eq_some_iff.mp e
    refine a.ok e1 w fun vs Hb2 H2 x1 x2 x3 x4 r => ?_
    obtain ⟨ws, h1, h2⟩ := o.ok e2 x3 r
    refine h2 Q fun p hp => ?_
    have ex : Ex H2 (upd H2 p (.lst ws)) := Evl.Ex.new hp
    refine k (.ref p) Hb2 _ [p] x1 (Evl.Ex.trans x2 ex) (Evl.Ex.trans x3 ex) x4 (own_lst hp h1) (by simp) fun a ha => ?_
    rw [List.mem_singleton.mp ha]
    exact ⟨none_of_ex x3 hp, none_of_ex x2 hp⟩
def oList : OpL K (fun xs H Q => ∃ p ys, xs = [.ref p] ∧ (SqL K H p ys ∨ SqT K H p ys) ∧ ∀ l, H l = none → Q (.ref l) (upd H l (.lst ys))) where
  g := fun ds => match ds with | [d] => d.asS | _ => none
  ok := fun {Hb H xs ds es} e ex r => by
    split at e
    · obtain ⟨x, xs, rfl, h1, h2⟩ := r
      obtain rfl : xs = [] := h2
      obtain ⟨a, ys, rfl, h3, h4⟩ := rep_asS e h1
      exact ⟨ys, h4, fun Q q => ⟨a, ys, rfl, h3.elim (fun z => .inl (Evl.ex_l ex z)) (fun z => .inr (Evl.ex_t ex z)), q⟩⟩
    · cases e
/-- a two-place operator that hands back a new list -/
structure OpL2 (K : PySem.W.Frag) (r : R2) where
  g : D → D → Option (List D)
  ok : ∀ {Hb H : Hp} {x y : V} {a b : D} {es : List D}, g a b = some es → Ex Hb H → rep K Hb a x → rep K Hb b y → ∃ vs, reps K Hb es vs ∧ ∀ Q : VK, (∀ p, H p = none → Q (.ref p) (upd H p (.lst vs))) → r x y H Q
def o2L {r : R2} (o : OpL2 K r) (a : Pb K ta) (b : Pb K tb) : Po K (tOp r ta tb) where
  ev := fun Γ => (a.ev Γ).bind fun x => (b.ev Γ).bind fun y => (o.g x y).map fun es => .nd .lst (es.map M.im)
  ok := fun {Γ m σ Hb H F Q} e w k => by
    obtain ⟨x, e1, e⟩ := Option.bind_eq_some_iff.mp e
    obtain ⟨y, e2, e⟩ := Option.bind_eq_some_iff.mp e
    obtain ⟨es, e3, rfl⟩ := Option.map_eq_some_iff.mp e
    refine a.ok e1 w fun v1 Hb1 H1 x1 x2 x3 x4 r1 => ?_
    refine b.ok e2 (w.pure x1 x2 x3 x4) fun v2 Hb2 H2 y1 y2 y3 y4 r2 => ?_
    obtain ⟨ws, h1, h2⟩ := o.ok e3 y3 (rep_mono y1 r1) r2
    refine h2 Q fun p hp => ?_
    have ex : Ex H2 (upd H2 p (.lst ws)) := Evl.Ex.new hp
    have x2' := Evl.Ex.trans x2 y2
    refine k (.ref p) Hb2 _ [p] (Evl.Ex.trans x1 y1) (Evl.Ex.trans x2' ex) (Evl.Ex.trans y3 ex) (x4.trans y4 x2) (own_lst hp h1) (by simp) fun a ha => ?_
    rw [List.mem_singleton.mp ha]
    exact ⟨none_of_ex y3 hp, none_of_ex x2' hp⟩
def oCat : OpL2 K rCat where
  g := fun a b => match a, b with | .lst l, .lst l' => if lineD (l.length + l'.length) then some (l ++ l') else none | _, _ => none
  ok := fun {Hb H x y a b es} e ex ra rb => by
    split at e
    · split at e
      · rename_i hl
        cases e
        obtain ⟨p, xs, rfl, h1, h2⟩ := ra
        obtain ⟨q, ys, rfl, h3, h4⟩ := rb
        exact ⟨xs ++ ys, reps_append h2 h4, fun Q k => ⟨p, q, xs, ys, rfl, rfl, ex _ _ h1, ex _ _ h3, by rw [reps_len h2, reps_len h4]; exact lineD_ok hl, k⟩⟩
      · cases e
    · cases e
/-- parts of a slice -/
structure Op0 (K : PySem.W.Frag) (t : TO) where
  ev : List M → Option (Option Int)
  ok : ∀ {Γ : List M} {o : Option Int} {σ : St} {Hb H : Hp} {F : List Addr} {Q : Option Int → Hp → Prop}, ev Γ = some o → WF K Γ σ Hb H F →
    (∀ Hb2 H2, Ex Hb Hb2 → Ex H H2 → Ex Hb2 H2 → NB Hb Hb2 H → Q o H2) → t σ H Q
def noPart : Op0 K tNoPart where
  ev := fun _ => some none
  ok := fun {Γ o σ Hb H F Q} e w k => by
    cases e
    exact k Hb H (Evl.Ex.refl _) (Evl.Ex.refl _) w.ex NB.refl
def aPart (a : Ph K ta) : Op0 K (tPart ta) where
  ev := fun Γ => (a.ev Γ).bind fun d => match d with | .int i => some (some i) | _ => none
  ok := fun {Γ o σ Hb H F Q} e w k => by
    obtain ⟨d, e1, e⟩ := Option.bind_eq_some_iff.mp e
    split at e
    · cases e
      exact a.ok e1 w fun v Hb2 H2 x1 x2 x3 x4 r => ⟨_, r, k Hb2 H2 x1 x2 x3 x4⟩
    · cases e
def cutD (xs : List D) (lo hi : Option Int) : List D := (xs.drop (HT.sIx xs.length 0 lo)).take (HT.sIx xs.length xs.length hi - HT.sIx xs.length 0 lo)
theorem cut_reps {H : Hp} {ds : List D} {xs : List V} {lo hi : Option Int} (h : reps K H ds xs) : reps K H (cutD ds lo hi) (cutV xs lo hi) := by
  unfold cutD cutV
  rw [reps_len h]
  exact reps_take _ (reps_drop _ h)
def oSlL {tl th : TO} (a : Pb K ta) (l : Op0 K tl) (h : Op0 K th) : Po K (tSl (rSlL K) ta tl th) where
  ev := fun Γ => (a.ev Γ).bind fun x => (l.ev Γ).bind fun lo => (h.ev Γ).bind fun hi => (x.asL).map fun ds => .nd .lst ((cutD ds lo hi).map M.im)
  ok := fun {Γ m σ Hb H F Q} e w k => by
    obtain ⟨x, e1, e⟩ := Option.bind_eq_some_iff.mp e
    obtain ⟨lo, e2, e⟩ := Option.bind_eq_some_iff.mp e
    obtain ⟨hi, e3, e⟩ := Option.bind_eq_some_iff.mp e
    obtain ⟨ds, e4, rfl⟩ := Option.map_eq_some_iff.mp e
    refine a.ok e1 w fun v1 Hb1 H1 x1 x2 x3 x4 r1 => ?_
    have w1 := w.pure x1 x2 x3 x4
    refine l.ok e2 w1 fun Hb2 H2 y1 y2 y3 y4 => ?_
    have w2 := w1.pure y1 y2 y3 y4
    refine h.ok e3 w2 fun Hb3 H3 z1 z2 z3 z4 => ?_
    obtain ⟨p, xs, rfl, h1, h2⟩ := rep_asL e4 r1
    have b3 := Evl.Ex.trans y1 z1
    have q3 := Evl.Ex.trans (Evl.Ex.trans x2 y2) z2
    refine ⟨p, xs, rfl, Evl.ex_l (Evl.Ex.trans b3 z3) h1, fun q hq => ?_⟩
    have ex : Ex H3 (upd H3 q (.lst (cutV xs lo hi))) := Evl.Ex.new hq
    refine k (.ref q) Hb3 _ [q] (Evl.Ex.trans x1 b3) (Evl.Ex.trans q3 ex) (Evl.Ex.trans z3 ex) ((x4.trans y4 x2).trans z4 (Evl.Ex.trans x2 y2)) (own_lst hq (cut_reps (reps_mono b3 h2))) (by simp) fun a ha => ?_
    rw [List.mem_singleton.mp ha]
    exact ⟨none_of_ex z3 hq, none_of_ex q3 hq⟩
/-! ### a list or a tuple, walked -/
def iSeq (K : PySem.W.Frag) (tl : TE) : TI := fun σ H R => tl σ H fun x H1 => ∃ a, x = .ref a ∧ (((∃ xs, SqL K H1 a xs) ∧ R (Itl K a) H1) ∨ ((∃ xs, SqT K H1 a xs) ∧ R (Itt K a) H1))
theorem pi_seq {X : Cx} {tg l : Expr} {tl : TE} (hl : PE X l tl) : PI X tg l (iSeq X.K tl) := by
  refine ⟨fun pins s σ H R I h => ?_⟩
  refine thn (hl.run pins s σ H _ I h) fun v s1 ⟨x, H1, I1, r1, q1⟩ => ?_
  obtain ⟨a, e, q1⟩ := q1
  subst e
  cases r1
  rcases q1 with ⟨⟨xs, hq⟩, q⟩ | ⟨⟨xs, hq⟩, q⟩
  · obtain ⟨its, rv, p, hz⟩ := I1.list hq
    refine wpAny_pyIter_list p.isList ?_
    refine ⟨s1.heap.objs.size, [s1.heap.objs.size], _, _, H1, rfl, I1.kept (t' := s1.toks) fun b o e => Heap.get?_push_of_some _ e, turn_list a _, ⟨_, Heap.get?_push_size _ rfl, rfl, rfl⟩, fun b hb => ?_, q⟩
    have e : b = s1.heap.objs.size := by simpa using hb
    subst e
    exact I1.fpOk (Nat.le_refl _) (I1.hok.fresh (Nat.le_refl _))
  · obtain ⟨its, rv, p, hz⟩ := I1.tuple hq
    refine wpAny_pyIter_tuple (show s1.heap.IsTuple a its.toArray from p) ?_
    refine ⟨s1.heap.objs.size, [s1.heap.objs.size], _, _, H1, rfl, I1.kept (t' := s1.toks) fun b o e => Heap.get?_push_of_some _ e, turn_tuple a _, ⟨_, Heap.get?_push_size _ rfl, rfl, rfl⟩, fun b hb => ?_, q⟩
    have e : b = s1.heap.objs.size := by simpa using hb
    subst e
    exact I1.fpOk (Nat.le_refl _) (I1.hok.fresh (Nat.le_refl _))
theorem walks_l {Hb2 : Hp} {a : Addr} {xs : List V} {l : List D} (h1 : SqL K Hb2 a xs) (h2 : reps K Hb2 l xs) : Walks K (Itl K a) l Hb2 := by
  refine ⟨fun i Hb3 H3 y1 y2 hi => ?_, fun Hb3 H3 y1 y2 => ⟨xs, Evl.ex_l (Evl.Ex.trans y1 y2) h1, by rw [reps_len h2]; exact Nat.le_refl _⟩⟩
  have hl := reps_len h2
  refine ⟨⟨xs, xs[i]'(by omega), Evl.ex_l (Evl.Ex.trans y1 y2) h1, List.getElem?_eq_getElem _⟩, fun x H4 hy => ?_⟩
  obtain ⟨rfl, hx⟩ := hy
  obtain ⟨d', e2, e3⟩ := reps_get h2 (hx xs (Evl.ex_l (Evl.Ex.trans y1 y2) h1))
  exact ⟨Hb3, d', Evl.Ex.refl _, Evl.Ex.refl _, y2, NB.refl, e2, rep_mono y1 e3⟩
theorem walks_t {Hb2 : Hp} {a : Addr} {xs : List V} {l : List D} (h1 : SqT K Hb2 a xs) (h2 : reps K Hb2 l xs) : Walks K (Itt K a) l Hb2 := by
  refine ⟨fun i Hb3 H3 y1 y2 hi => ?_, fun Hb3 H3 y1 y2 => ⟨xs, Evl.ex_t (Evl.Ex.trans y1 y2) h1, by rw [reps_len h2]; exact Nat.le_refl _⟩⟩
  have hl := reps_len h2
  refine ⟨⟨xs, xs[i]'(by omega), Evl.ex_t (Evl.Ex.trans y1 y2) h1, List.getElem?_eq_getElem _⟩, fun x H4 hy => ?_⟩
  obtain ⟨rfl, hx⟩ := hy
  obtain ⟨d', e2, e3⟩ := reps_get h2 (hx xs (Evl.ex_t (Evl.Ex.trans y1 y2) h1))
  exact ⟨Hb3, d', Evl.Ex.refl _, Evl.Ex.refl _, y2, NB.refl, e2, rep_mono y1 e3⟩
def srcA (p : Pb K ta) : Src K (iSeq K ta) where
  ev := fun Γ => (p.ev Γ).bind D.asS
  ok := fun {Γ ds σ Hb H F R} e w k => by
    obtain ⟨d, e1, e⟩ := Option.bind_eq_some_iff.mp e
    refine p.ok e1 w fun v Hb2 H2 x1 x2 x3 x4 r => ?_
    obtain ⟨a, xs, rfl, h1, h2⟩ := rep_asS e r
    rcases h1 with h1 | h1
    · exact ⟨a, rfl, .inl ⟨⟨xs, Evl.ex_l x3 h1⟩, k _ Hb2 H2 x1 x2 x3 x4 (walks_l h1 h2)⟩⟩
    · exact ⟨a, rfl, .inr ⟨⟨xs, Evl.ex_t x3 h1⟩, k _ Hb2 H2 x1 x2 x3 x4 (walks_t h1 h2)⟩⟩
/-- tuple(x) -/
def bTupOf (a : Ab K tr) : Pb K (tCB (fun xs H Q => ∃ p ys, xs = [.ref p] ∧ ((SqL K H p ys ∧ ∀ l, H l = none → Q (.ref l) (upd H l (.tup ys))) ∨ (SqT K H p ys ∧ Q (.ref p) H))) tr) where
  ev := fun Γ => (a.ev Γ).bind fun ds => match ds with | [d] => d.asS.map D.tup | _ => none
  ok := fun {Γ m σ Hb H F Q} e w k => by
    obtain ⟨ds, e1, e⟩ := Option.bind_eq_some_iff.mp e
    refine a.ok e1 w fun vs Hb2 H2 x1 x2 x3 x4 r => ?_
    split at e
    · obtain ⟨l, e2, rfl⟩ := Option.map_eq_some_iff.mp e
      obtain ⟨x, xs, rfl, h1, h2⟩ := r
      obtain rfl : xs = [] := h2
      obtain ⟨q, ys, rfl, h3, h4⟩ := rep_asS e2 h1
      refine ⟨q, ys, rfl, ?_⟩
      rcases h3 with h3 | h3
      · refine .inl ⟨Evl.ex_l x3 h3, fun p hp => ?_⟩
        obtain ⟨z1, z2, z3, z4⟩ := ex_put (o := .tup ys) x3 hp
        exact k (.ref p) _ _ (Evl.Ex.trans x1 z1) (Evl.Ex.trans x2 z2) z3 (x4.trans z4 x2) ⟨p, ys, rfl, SqT.of upd_same, reps_mono z1 h4⟩
      · exact .inr ⟨Evl.ex_t x3 h3, k (.ref q) Hb2 H2 x1 x2 x3 x4 ⟨q, ys, rfl, h3, h4⟩⟩
    · cases e
end
end KS

namespace KS
open PySem L2
section
variable {K : PySem.W.Frag} {pn : Nat → Bool} {ta tb tc te : TE} {tr : TA} {t u : TT} {ts ts' tS : TS} {g : TG} {gs : TGs} {wi : TI} {r r' : R2} {Γ : List M}
/-! ### control -/
def seqC (o : Option Ct) (b : Sx K pn ts) : Option Ct := o.bind fun c => match c with | .nx Γ1 => b.ev Γ1 | c => some c
@[simp] theorem seqC_nx {b : Sx K pn ts} : seqC (some (.nx Γ)) b = b.ev Γ := rfl
@[simp] theorem seqC_rt {b : Sx K pn ts} {m : M} : seqC (some (.rt m Γ)) b = some (.rt m Γ) := rfl
@[simp] theorem seqC_bk {b : Sx K pn ts} : seqC (some (.bk Γ)) b = some (.bk Γ) := rfl
@[simp] theorem seqC_ct {b : Sx K pn ts} : seqC (some (.ct Γ)) b = some (.ct Γ) := rfl
@[simp] theorem sSeq_ev {a : Sx K pn ts} {b : Sx K pn ts'} : (sSeq a b).ev Γ = seqC (a.ev Γ) b := rfl
def ifC (o : Option Bool) (a : Sx K pn ts) (b : Sx K pn ts') (Γ : List M) : Option Ct := o.bind fun x => if x = true then a.ev Γ else b.ev Γ
@[simp] theorem ifC_t {a : Sx K pn ts} {b : Sx K pn ts'} : ifC (some true) a b Γ = a.ev Γ := rfl
@[simp] theorem ifC_f {a : Sx K pn ts} {b : Sx K pn ts'} : ifC (some false) a b Γ = b.ev Γ := rfl
@[simp] theorem sIf_ev {c : Tt K t} {a : Sx K pn ts} {b : Sx K pn ts'} : (sIf c a b).ev Γ = ifC (c.ev Γ) a b Γ := rfl
@[simp] theorem sNext_ev : (sNext (K := K) (pn := pn)).ev Γ = some (.nx Γ) := rfl
@[simp] theorem sBrk_ev : (sBrk (K := K) (pn := pn)).ev Γ = some (.bk Γ) := rfl
@[simp] theorem sCont_ev : (sCont (K := K) (pn := pn)).ev Γ = some (.ct Γ) := rfl
@[simp] theorem sRetN_ev : (sRetN (K := K) (pn := pn)).ev Γ = some (.rt (.im .non) Γ) := rfl
@[simp] theorem sAsg_ev {p : Pb K te} {q : Gt K pn g} : (sAsg p q).ev Γ = (p.ev Γ).bind fun d => (q.asg Γ d).map .nx := rfl
@[simp] theorem gN_asg {i : Nat} {d : D} : (gN (K := K) (pn := pn) i).asg Γ d = if i < Γ.length ∧ pn i = false then some (Γ.set i (.im d)) else none := rfl
@[simp] theorem gT_asg {n : Nat} {b : Gts K pn gs} {ds : List D} : (gT n b).asg Γ (.tup ds) = if ds.length = n then b.asg Γ ds else none := rfl
@[simp] theorem gsNil_asg : (gsNil (K := K) (pn := pn)).asg Γ [] = some Γ := rfl
@[simp] theorem gsCons_asg {gr : TGs} {a : Gt K pn g} {b : Gts K pn gr} {d : D} {ds : List D} : (gsCons a b).asg Γ (d :: ds) = (a.asg Γ d).bind fun Γ1 => b.asg Γ1 ds := rfl
@[simp] theorem pn0_eq {i : Nat} : pn0 i = false := rfl
@[simp] theorem sAsgO_ev {i : Nat} {p : Po K te} : (sAsgO (pn := pn) i p).ev Γ = (p.ev Γ).bind fun m => if i < Γ.length ∧ pn i = false then some (.nx (Γ.set i m)) else none := rfl
@[simp] theorem sDrop_ev {p : Ph K te} : (sDrop (pn := pn) p).ev Γ = (p.ev Γ).map fun _ => .nx Γ := rfl
@[simp] theorem sRet_ev {p : Pb K te} : (sRet (pn := pn) p).ev Γ = (p.ev Γ).map fun d => .rt (.im d) Γ := rfl
@[simp] theorem sRetO_ev {p : Po K te} : (sRetO (pn := pn) p).ev Γ = (p.ev Γ).map fun m => .rt m Γ := rfl
def ndC (i : Nat) (Γ : List M) : Option M → Option Ct
  | some (.nd sh cs) => some (.rt (.nd sh cs) (Γ.set i .emp))
  | _ => none
@[simp] theorem ndC_nd {i : Nat} {sh : Sh} {cs : List M} : ndC i Γ (some (.nd sh cs)) = some (.rt (.nd sh cs) (Γ.set i .emp)) := rfl
@[simp] theorem sRetV_ev {i : Nat} : (sRetV (K := K) (pn := pn) i).ev Γ = ndC i Γ Γ[i]? := by
  show (match Γ[i]? with | some (.nd sh cs) => _ | _ => none) = _
  unfold ndC
  split <;> rfl
def augC (i : Nat) (pn : Nat → Bool) (f : D → D → Option D) (y : Option D) (Γ : List M) : Option M → Option Ct
  | some (.im x) => y.bind fun y => (f x y).bind fun z => if i < Γ.length ∧ pn i = false then some (.nx (Γ.set i (.im z))) else none
  | _ => none
@[simp] theorem augC_im {i : Nat} {f : D → D → Option D} {x y : D} : augC i pn f (some y) Γ (some (.im x)) = (f x y).bind fun z => if i < Γ.length ∧ pn i = false then some (.nx (Γ.set i (.im z))) else none := rfl
@[simp] theorem sAug_ev {i : Nat} {o : Op2 K r} {p : Ph K te} : (sAug (pn := pn) i o p).ev Γ = augC i pn o.g (p.ev Γ) Γ Γ[i]? := by
  show (match Γ[i]? with | some (.im x) => _ | _ => none) = _
  unfold augC
  split <;> rfl
def appC (i : Nat) (d : Option D) (Γ : List M) : Option M → Option Ct
  | some (.nd .lst cs) => d.bind fun d => if lineD (cs.length + 1) then some (.nx (Γ.set i (.nd .lst (cs ++ [.im d])))) else none
  | _ => none
@[simp] theorem appC_l {i : Nat} {d : D} {cs : List M} : appC i (some d) Γ (some (.nd .lst cs)) = if lineD (cs.length + 1) then some (.nx (Γ.set i (.nd .lst (cs ++ [.im d])))) else none := rfl
@[simp] theorem sApp_ev {i : Nat} {p : Pb K te} : (sApp (pn := pn) i p).ev Γ = appC i (p.ev Γ) Γ Γ[i]? := by
  show (match Γ[i]? with | some (.nd .lst cs) => _ | _ => none) = _
  unfold appC
  split <;> rfl
def forC (o : Option (List D)) (q : Gt K pn g) (b : Sx K pn ts) (Γ : List M) : Option Ct := o.bind fun ds => forRun q.asg b.ev ds Γ
@[simp] theorem forC_s {q : Gt K pn g} {b : Sx K pn ts} {ds : List D} : forC (some ds) q b Γ = forRun q.asg b.ev ds Γ := rfl
@[simp] theorem sFor_ev {s : Src K wi} {q : Gt K pn g} {b : Sx K pn ts} : (sFor s q b).ev Γ = forC (s.ev Γ) q b Γ := rfl
theorem sWhile_ev {f : List M → Nat} {c : Tt K t} {b : Sx K pn ts} : (sWhile f c b).ev Γ = whileRun c.ev b.ev (f Γ) Γ := rfl
/-! ### loops -/
/-- behind a turn -/
def turnC (c : Option Ct) (k : List M → Option Ct) : Option Ct := c.bind fun c => match c with
    | .nx Γ2 => k Γ2
    | .ct Γ2 => k Γ2
    | .bk Γ2 => some (.nx Γ2)
    | .rt m Γ2 => some (.rt m Γ2)
@[simp] theorem turnC_nx {k : List M → Option Ct} : turnC (some (.nx Γ)) k = k Γ := rfl
@[simp] theorem turnC_ct {k : List M → Option Ct} : turnC (some (.ct Γ)) k = k Γ := rfl
@[simp] theorem turnC_bk {k : List M → Option Ct} : turnC (some (.bk Γ)) k = some (.nx Γ) := rfl
@[simp] theorem turnC_rt {m : M} {k : List M → Option Ct} : turnC (some (.rt m Γ)) k = some (.rt m Γ) := rfl
@[simp] theorem forRun_nil {asg : List M → D → Option (List M)} {body : List M → Option Ct} : forRun asg body [] Γ = some (.nx Γ) := rfl
theorem forRun_cons {asg : List M → D → Option (List M)} {body : List M → Option Ct} {d : D} {ds : List D} : forRun asg body (d :: ds) Γ = (asg Γ d).bind fun Γ1 => turnC (body Γ1) (forRun asg body ds) := rfl
/-- one turn that goes on -/
theorem forRun_step {asg : List M → D → Option (List M)} {body : List M → Option Ct} {d : D} {ds : List D} {Γ1 Γ2 : List M} (h1 : asg Γ d = some Γ1) (h2 : body Γ1 = some (.nx Γ2)) : forRun asg body (d :: ds) Γ = forRun asg body ds Γ2 := by
  rw [forRun_cons, h1, Option.bind_some, h2]; rfl
theorem forRun_ret {asg : List M → D → Option (List M)} {body : List M → Option Ct} {d : D} {ds : List D} {Γ1 Γ2 : List M} {m : M} (h1 : asg Γ d = some Γ1) (h2 : body Γ1 = some (.rt m Γ2)) : forRun asg body (d :: ds) Γ = some (.rt m Γ2) := by
  rw [forRun_cons, h1, Option.bind_some, h2]; rfl
theorem whileRun_step {c : List M → Option Bool} {body : List M → Option Ct} {n : Nat} {Γ2 : List M} (h1 : c Γ = some true) (h2 : body Γ = some (.nx Γ2)) : whileRun c body (n + 1) Γ = whileRun c body n Γ2 := by
  show (c Γ).bind _ = _
  rw [h1, Option.bind_some, if_pos rfl, h2]; rfl
theorem whileRun_end {c : List M → Option Bool} {body : List M → Option Ct} {n : Nat} (h1 : c Γ = some false) : whileRun c body (n + 1) Γ = some (.nx Γ) := by
  show (c Γ).bind _ = _
  rw [h1, Option.bind_some, if_neg (by decide)]
/-! ### comprehensions -/
def lcC (o : Option (List D)) (q : Gt K (fun i => !([] : List Nat).contains i) g) : Nat := 0
@[simp] theorem lcRun_nil {asg : List M → D → Option (List M)} {tt : List M → Option Bool} {el : List M → Option D} : lcRun asg tt el Γ [] = some [] := rfl
/-- every turn gives -/
theorem lcRun_map {asg : List M → D → Option (List M)} {tt : List M → Option Bool} {el : List M → Option D} (f : D → D) : ∀ (ds : List D), (∀ d ∈ ds, ∃ Γ1, asg Γ d = some Γ1 ∧ tt Γ1 = some true ∧ el Γ1 = some (f d)) → lcRun asg tt el Γ ds = some (ds.map f)
  | [], _ => rfl
  | d :: ds, h => by
    obtain ⟨Γ1, h1, h2, h3⟩ := h d List.mem_cons_self
    simp only [lcRun, h1, Option.bind_some, h2, if_true, h3]
    rw [lcRun_map f ds fun d hd => h d (List.mem_cons_of_mem _ hd)]
    rfl
theorem lcRun_filterMap {asg : List M → D → Option (List M)} {tt : List M → Option Bool} {el : List M → Option D} (f : D → D) (p : D → Bool) : ∀ (ds : List D), (∀ d ∈ ds, ∃ Γ1, asg Γ d = some Γ1 ∧ tt Γ1 = some (p d) ∧ (p d = true → el Γ1 = some (f d))) → lcRun asg tt el Γ ds = some ((ds.filter p).map f)
  | [], _ => rfl
  | d :: ds, h => by
    obtain ⟨Γ1, h1, h2, h3⟩ := h d List.mem_cons_self
    have ih := lcRun_filterMap f p ds fun d hd => h d (List.mem_cons_of_mem _ hd)
    simp only [lcRun, h1, Option.bind_some, h2]
    cases hp : p d with
    | true => simp [hp, h3 hp, ih]
    | false => simp [hp, ih]
@[simp] theorem oLc_ev {vs : List Nat} {s : Src K wi} {q : Gt K (fun i => !vs.contains i) g} {c : Tt K t} {p : Pb K te} : (oLc vs s q c p).ev Γ = (s.ev Γ).bind fun ds => if lineD ds.length then (lcRun q.asg c.ev p.ev (wipeG Γ vs) ds).map fun r => .nd .lst (r.map M.im) else none := rfl
@[simp] theorem yTst_ev : (yTst (K := K)).ev Γ = some true := rfl
@[simp] theorem wipeG_nil : wipeG Γ [] = Γ := rfl
@[simp] theorem wipeG_cons {v : Nat} {vs : List Nat} : wipeG Γ (v :: vs) = (wipeG Γ vs).set v .emp := rfl
/-! ### sources -/
@[simp] theorem srcL_ev {p : Pb K ta} : (srcL p).ev Γ = (p.ev Γ).bind D.asL := rfl
@[simp] theorem asL_lst {l : List D} : D.asL (.lst l) = some l := rfl
@[simp] theorem asL_scr {l : List D} : D.asL (.scr l) = some l := rfl
@[simp] theorem asS_lst {l : List D} : D.asS (.lst l) = some l := rfl
@[simp] theorem asS_scr {l : List D} : D.asS (.scr l) = some l := rfl
@[simp] theorem asS_tup {l : List D} : D.asS (.tup l) = some l := rfl
@[simp] theorem srcT_ev {p : Pb K ta} : (srcT p).ev Γ = (p.ev Γ).bind fun d => match d with | .tup l => some l | _ => none := rfl
@[simp] theorem srcS_ev {p : Ph K ta} : (srcS p).ev Γ = (p.ev Γ).bind fun d => match d with | .str s => some (s.cps.toList.map fun c => D.str ⟨#[c]⟩) | _ => none := rfl
@[simp] theorem srcA_ev {p : Pb K ta} : (srcA p).ev Γ = (p.ev Γ).bind D.asS := rfl
@[simp] theorem bTupOf_ev {a : Ab K tr} : (bTupOf a).ev Γ = (a.ev Γ).bind fun ds => match ds with | [d] => d.asS.map D.tup | _ => none := rfl
@[simp] theorem srcR1_ev {a : Ah K tr} : (srcR1 a).ev Γ = (a.ev Γ).bind fun ds => match ds with | [.int n] => if -(2 ^ 62) ≤ n ∧ n < 2 ^ 62 then some (rangeD 0 n.toNat) else none | _ => none := rfl
@[simp] theorem srcR2_ev {a : Ah K tr} : (srcR2 a).ev Γ = (a.ev Γ).bind fun ds => match ds with | [.int m, .int n] => if (-(2 ^ 62) ≤ m ∧ m < 2 ^ 62) ∧ -(2 ^ 62) ≤ n ∧ n < 2 ^ 62 then some (rangeD m (n - m).toNat) else none | _ => none := rfl
@[simp] theorem srcE_ev {a : Ab K tr} : (srcE a).ev Γ = (a.ev Γ).bind fun ds => match ds with | [d] => d.asL.map (enumD 0) | _ => none := rfl
@[simp] theorem srcZ_ev {a : Ab K tr} : (srcZ a).ev Γ = (a.ev Γ).bind fun ds => match ds with | [d, d'] => d.asL.bind fun l => d'.asL.map fun l' => zipD l l' | _ => none := rfl
/-! ### expressions -/
@[simp] theorem Pbh_ev {p : Pb K ta} : p.h.ev Γ = p.ev Γ := rfl
@[simp] theorem Abh_ev {p : Ab K tr} : p.h.ev Γ = p.ev Γ := rfl
@[simp] theorem Pob_ev {p : Po K ta} : p.b.ev Γ = (p.ev Γ).bind M.fz := rfl
@[simp] theorem Poh_ev {p : Po K ta} : p.h.ev Γ = (p.ev Γ).bind M.fz := rfl
@[simp] theorem Phs_ev {p : Ph K ta} : p.s.ev Γ = (p.ev Γ).bind fun d => if d.sc.isSome then some d else none := rfl
@[simp] theorem fz_im {d : D} : (M.im d).fz = some d := rfl
theorem fzs_ims : ∀ (ds : List D), M.fzs (ds.map M.im) = some ds
  | [] => rfl
  | d :: ds => by simp [M.fzs, M.fz, fzs_ims ds]
@[simp] theorem fz_lst {ds : List D} : (M.nd .lst (ds.map M.im)).fz = some (.lst ds) := by simp [M.fz, fzs_ims]
@[simp] theorem fz_tup {ds : List D} : (M.nd .tup (ds.map M.im)).fz = some (.tup ds) := by simp [M.fz, fzs_ims]
@[simp] theorem fzs_map {ds : List D} : M.fzs (ds.map M.im) = some ds := fzs_ims ds
@[simp] theorem fzs_cons {d : D} {ms : List M} : M.fzs (.im d :: ms) = (M.fzs ms).map fun ds => d :: ds := by
  simp only [M.fzs, M.fz]
  cases M.fzs ms <;> rfl
@[simp] theorem fz_lst0 : (M.nd .lst []).fz = some (.lst []) := rfl
@[simp] theorem fzs_nil : M.fzs [] = some [] := rfl
@[simp] theorem fz_nd_lst {cs : List M} : (M.nd .lst cs).fz = (M.fzs cs).map D.lst := rfl
@[simp] theorem fz_nd_tup {cs : List M} : (M.nd .tup cs).fz = (M.fzs cs).map D.tup := rfl
def imC : Option M → Option D
  | some (.im d) => some d
  | _ => none
@[simp] theorem imC_im {d : D} : imC (some (.im d)) = some d := rfl
@[simp] theorem bVar_ev {i : Nat} : (bVar (K := K) i).ev Γ = imC Γ[i]? := by
  show (match Γ[i]? with | some (.im d) => some d | _ => none) = _
  unfold imC
  split <;> rfl
@[simp] theorem hVar_ev {i : Nat} : (hVar (K := K) i).ev Γ = (Γ[i]?).bind M.fz := rfl
@[simp] theorem bInt_ev {i : Int} : (bInt (K := K) i).ev Γ = some (.int i) := rfl
@[simp] theorem bStr_ev {i : Str} : (bStr (K := K) i).ev Γ = some (.str i) := rfl
@[simp] theorem bBl_ev {i : Bool} : (bBl (K := K) i).ev Γ = some (.bl i) := rfl
@[simp] theorem bTy_ev {i : String} : (bTy (K := K) i).ev Γ = some (.ty i) := rfl
@[simp] theorem bCls_ev {i : String} : (bCls (K := K) i).ev Γ = some (.cls i) := rfl
@[simp] theorem bNon_ev : (bNon (K := K)).ev Γ = some .non := rfl
def bind2 (a b : Option D) (f : D → D → Option D) : Option D := a.bind fun x => b.bind fun y => f x y
@[simp] theorem bind2_s {x y : D} {f : D → D → Option D} : bind2 (some x) (some y) f = f x y := rfl
@[simp] theorem b2_ev {o : Op2 K r} {a : Ph K ta} {b : Ph K tb} : (b2 o a b).ev Γ = bind2 (a.ev Γ) (b.ev Γ) o.g := rfl
@[simp] theorem oII_g {f : Int → Int → Int} {i j : Int} : (oII (K := K) f).g (.int i) (.int j) = some (.int (f i j)) := rfl
@[simp] theorem oIB_g {f : Int → Int → Bool} {i j : Int} : (oIB (K := K) f).g (.int i) (.int j) = some (.bl (f i j)) := rfl
@[simp] theorem oIC_g {C : Int → Int → Prop} [DecidableRel C] {f : Int → Int → Int} {i j : Int} : (oIC (K := K) C f).g (.int i) (.int j) = if C i j then some (.int (f i j)) else none := rfl
@[simp] theorem oEqS_g {a b : D} : (oEqS (K := K)).g a b = (eqS a b).map .bl := rfl
@[simp] theorem oNeS_g {a b : D} : (oNeS (K := K)).g a b = (eqS a b).map fun c => .bl (!c) := rfl
@[simp] theorem eqS_ii {i j : Int} : eqS (.int i) (.int j) = some (i == j) := rfl
@[simp] theorem eqS_bb {i j : Bool} : eqS (.bl i) (.bl j) = some (i == j) := rfl
@[simp] theorem eqS_ss {i j : Str} : eqS (.str i) (.str j) = some (i == j) := rfl
@[simp] theorem eqS_nn : eqS .non .non = some true := rfl
@[simp] theorem oEq_g {a b : D} : (oEq (K := K)).g a b = (eqD a b).map .bl := rfl
@[simp] theorem oNe_g {a b : D} : (oNe (K := K)).g a b = (eqD a b).map fun c => .bl (!c) := rfl
@[simp] theorem bIsN_ev {a : Ph K ta} : (bIsN a).ev Γ = (a.ev Γ).map fun d => .bl d.isNon := rfl
@[simp] theorem bNotN_ev {a : Ph K ta} : (bNotN a).ev Γ = (a.ev Γ).map fun d => .bl (!d.isNon) := rfl
@[simp] theorem isNon_non : D.isNon .non = true := rfl
@[simp] theorem isNon_int {i : Int} : D.isNon (.int i) = false := rfl
@[simp] theorem isNon_str {i : Str} : D.isNon (.str i) = false := rfl
@[simp] theorem isNon_bl {i : Bool} : D.isNon (.bl i) = false := rfl
@[simp] theorem isNon_lst {i : List D} : D.isNon (.lst i) = false := rfl
@[simp] theorem isNon_tup {i : List D} : D.isNon (.tup i) = false := rfl
@[simp] theorem bNeg_ev {a : Ph K ta} : (bNeg a).ev Γ = (a.ev Γ).bind fun d => match d with | .int i => some (.int (-i)) | _ => none := rfl
def chC (z : Option D) (f : Option D) : Option D := z.bind fun z => match z with | .bl true => f | .bl false => some (.bl false) | _ => none
@[simp] theorem chC_t {f : Option D} : chC (some (.bl true)) f = f := rfl
@[simp] theorem chC_f {f : Option D} : chC (some (.bl false)) f = some (.bl false) := rfl
@[simp] theorem bChain_ev {o : Op2 K r} {o' : Op2 K r'} {a : Ph K ta} {b : Ph K tb} {c : Ph K tc} : (bChain o o' a b c).ev Γ = chC (bind2 (a.ev Γ) (b.ev Γ) o.g) (bind2 (b.ev Γ) (c.ev Γ) o'.g) := by
  show ((a.ev Γ).bind fun x => (b.ev Γ).bind fun y => (o.g x y).bind fun z => match z with | .bl true => (c.ev Γ).bind fun q => o'.g y q | .bl false => some (.bl false) | _ => none) = _
  unfold chC bind2
  cases a.ev Γ with
  | none => rfl
  | some x =>
    cases b.ev Γ with
    | none => rfl
    | some y => rfl
@[simp] theorem asB_bl {b : Bool} : asB (.bl b) = some b := rfl
@[simp] theorem tTst_ev {a : Ph K ta} : (tTst a).ev Γ = (a.ev Γ).bind asB := rfl
@[simp] theorem tBv_ev {a : Ph K ta} : (tBv a).ev Γ = (a.ev Γ).bind asB := rfl
@[simp] theorem tNt_ev {a : Tt K t} : (tNt a).ev Γ = (a.ev Γ).map not := rfl
def anC (a : Option Bool) (b : Tt K u) (Γ : List M) : Option Bool := a.bind fun x => if x = true then b.ev Γ else some false
def orC (a : Option Bool) (b : Tt K u) (Γ : List M) : Option Bool := a.bind fun x => if x = true then some true else b.ev Γ
@[simp] theorem anC_t {b : Tt K u} : anC (some true) b Γ = b.ev Γ := rfl
@[simp] theorem anC_f {b : Tt K u} : anC (some false) b Γ = some false := rfl
@[simp] theorem orC_t {b : Tt K u} : orC (some true) b Γ = some true := rfl
@[simp] theorem orC_f {b : Tt K u} : orC (some false) b Γ = b.ev Γ := rfl
@[simp] theorem tAn_ev {a : Tt K t} {b : Tt K u} : (tAn a b).ev Γ = anC (a.ev Γ) b Γ := rfl
@[simp] theorem tO_ev {a : Tt K t} {b : Tt K u} : (tO a b).ev Γ = orC (a.ev Γ) b Γ := rfl
def anV (a : Option D) (b : Ph K tb) (Γ : List M) : Option D := a.bind fun x => (asB x).bind fun c => if c = true then (b.ev Γ).bind fun y => if y.sc.isSome then some y else none else some (.bl false)
def orV (a : Option D) (b : Ph K tb) (Γ : List M) : Option D := a.bind fun x => (asB x).bind fun c => if c = true then some (.bl true) else (b.ev Γ).bind fun y => if y.sc.isSome then some y else none
@[simp] theorem anV_t {b : Ph K tb} : anV (some (.bl true)) b Γ = (b.ev Γ).bind fun y => if y.sc.isSome then some y else none := rfl
@[simp] theorem anV_f {b : Ph K tb} : anV (some (.bl false)) b Γ = some (.bl false) := rfl
@[simp] theorem orV_t {b : Ph K tb} : orV (some (.bl true)) b Γ = some (.bl true) := rfl
@[simp] theorem orV_f {b : Ph K tb} : orV (some (.bl false)) b Γ = (b.ev Γ).bind fun y => if y.sc.isSome then some y else none := rfl
@[simp] theorem bAnV_ev {a : Ph K ta} {b : Ph K tb} : (bAnV a b).ev Γ = anV (a.ev Γ) b Γ := rfl
@[simp] theorem bOrV_ev {a : Ph K ta} {b : Ph K tb} : (bOrV a b).ev Γ = orV (a.ev Γ) b Γ := rfl
@[simp] theorem bNtV_ev {a : Ph K ta} : (bNtV a).ev Γ = (a.ev Γ).bind fun x => (asB x).map fun c => .bl (!c) := rfl
@[simp] theorem sc_bl {b : Bool} : D.sc (.bl b) = some (.bl b) := rfl
@[simp] theorem sc_int {b : Int} : D.sc (.int b) = some (.int b) := rfl
@[simp] theorem sc_str {b : Str} : D.sc (.str b) = some (.str b) := rfl
@[simp] theorem sc_non : D.sc .non = some .non := rfl
def ifE (o : Option Bool) (a : Pb K ta) (b : Pb K tb) (Γ : List M) : Option D := o.bind fun x => if x = true then a.ev Γ else b.ev Γ
@[simp] theorem ifE_t {a : Pb K ta} {b : Pb K tb} : ifE (some true) a b Γ = a.ev Γ := rfl
@[simp] theorem ifE_f {a : Pb K ta} {b : Pb K tb} : ifE (some false) a b Γ = b.ev Γ := rfl
@[simp] theorem bIf_ev {c : Tt K t} {a : Pb K ta} {b : Pb K tb} : (bIf c a b).ev Γ = ifE (c.ev Γ) a b Γ := rfl
@[simp] theorem aNil_ev : (aNil (K := K)).ev Γ = some [] := rfl
def consC (a : Option D) (b : Option (List D)) : Option (List D) := a.bind fun x => b.map fun y => x :: y
@[simp] theorem consC_s {x : D} {y : List D} : consC (some x) (some y) = some (x :: y) := rfl
@[simp] theorem aCons_ev {a : Pb K ta} {b : Ab K tr} : (aCons a b).ev Γ = consC (a.ev Γ) (b.ev Γ) := rfl
@[simp] theorem ahCons_ev {a : Ph K ta} {b : Ah K tr} : (ahCons a b).ev Γ = consC (a.ev Γ) (b.ev Γ) := rfl
@[simp] theorem oLst_ev {a : Ab K tr} : (oLst a).ev Γ = (a.ev Γ).bind fun ds => if lineD ds.length then some (.nd .lst (ds.map M.im)) else none := rfl
@[simp] theorem oTup_ev {a : Ab K tr} : (oTup a).ev Γ = (a.ev Γ).bind fun ds => if lineD ds.length then some (.nd .tup (ds.map M.im)) else none := rfl
@[simp] theorem hTup_ev {a : Ah K tr} : (hTup a).ev Γ = (a.ev Γ).bind fun ds => if lineD ds.length then some (.tup ds) else none := rfl
@[simp] theorem hLst_ev {a : Ah K tr} : (hLst a).ev Γ = (a.ev Γ).bind fun ds => if lineD ds.length then some (.lst ds) else none := rfl
@[simp] theorem lineD_eq {n : Nat} : lineD n = decide (n ≤ 100000) := rfl
@[simp] theorem bCB_ev {rc : List V → Hp → VK → Prop} {o : OpC K rc} {a : Ah K tr} : (bCB o a).ev Γ = (a.ev Γ).bind o.g := rfl
@[simp] theorem oLen_g {d : D} : (oLen (K := K)).g [d] = d.asS.map fun l => .int (l.length : Int) := rfl
@[simp] theorem oLenS_g {s : Str} : (oLenS (K := K)).g [.str s] = if lineD s.length then some (.int (s.length : Int)) else none := rfl
@[simp] theorem oStrI_g {i : Int} : (oStrI (K := K)).g [.int i] = if i.natAbs.log2 < 1920 then some (.str (toString i)) else none := rfl
@[simp] theorem oIntS_g {s : Str} : (oIntS (K := K)).g [.str s] = if s.length ≤ 640 then (PySem.intText? s).map D.int else none := rfl
@[simp] theorem oInt1_i {i : Int} : (oInt1 (K := K)).g [.int i] = some (.int i) := rfl
@[simp] theorem oInt1_b {b : Bool} : (oInt1 (K := K)).g [.bl b] = some (.int (if b then 1 else 0)) := rfl
@[simp] theorem oMin2_g {i j : Int} : (oMin2 (K := K)).g [.int i, .int j] = some (.int (if j < i then j else i)) := rfl
@[simp] theorem oMax2_g {i j : Int} : (oMax2 (K := K)).g [.int i, .int j] = some (.int (if j > i then j else i)) := rfl
@[simp] theorem oIsi_g {d : D} {n : String} : (oIsi (K := K)).g [d, .ty n] = (d.tyn).bind fun t => (kitB t n).map D.bl := rfl
@[simp] theorem tyn_int {i : Int} : D.tyn (.int i) = some "int" := rfl
@[simp] theorem tyn_bl {i : Bool} : D.tyn (.bl i) = some "bool" := rfl
@[simp] theorem tyn_str {i : Str} : D.tyn (.str i) = some "str" := rfl
@[simp] theorem tyn_lst {i : List D} : D.tyn (.lst i) = some "list" := rfl
@[simp] theorem tyn_tup {i : List D} : D.tyn (.tup i) = some "tuple" := rfl
@[simp] theorem tyn_non : D.tyn .non = some "NoneType" := rfl
@[simp] theorem kk_ii : kitB "int" "int" = some true := kit_ii
@[simp] theorem kk_ib : kitB "int" "bool" = some false := kit_ib
@[simp] theorem kk_bi : kitB "bool" "int" = some true := kit_bi
@[simp] theorem kk_bb : kitB "bool" "bool" = some true := kit_bb
@[simp] theorem kk_ll : kitB "list" "list" = some true := kit_ll
@[simp] theorem kk_tt : kitB "tuple" "tuple" = some true := kit_tt
@[simp] theorem kk_ss : kitB "str" "str" = some true := kit_ss
def ixC (x y : Option D) : Option D := x.bind fun x => y.bind fun y => match x.asL, y with | some l, .int i => atD l i | _, _ => none
@[simp] theorem ixC_l {l : List D} {i : Int} : ixC (some (.lst l)) (some (.int i)) = atD l i := rfl
@[simp] theorem ixC_s {l : List D} {i : Int} : ixC (some (.scr l)) (some (.int i)) = atD l i := rfl
@[simp] theorem bIxL_ev {a : Pb K ta} {b : Ph K tb} : (bIxL a b).ev Γ = ixC (a.ev Γ) (b.ev Γ) := rfl
@[simp] theorem hIxL_ev {a : Ph K ta} {b : Ph K tb} : (hIxL a b).ev Γ = ixC (a.ev Γ) (b.ev Γ) := rfl
def ixT (x y : Option D) : Option D := x.bind fun x => y.bind fun y => match x, y with | .tup l, .int i => atD l i | _, _ => none
@[simp] theorem ixT_t {l : List D} {i : Int} : ixT (some (.tup l)) (some (.int i)) = atD l i := rfl
@[simp] theorem bIxT_ev {a : Pb K ta} {b : Ph K tb} : (bIxT a b).ev Γ = ixT (a.ev Γ) (b.ev Γ) := rfl
theorem atD_nat {l : List D} {k : Nat} : atD l (k : Int) = l[k]? := by
  unfold atD atI ixN
  rw [if_pos (Int.natCast_nonneg _)]
  by_cases h : k < l.length
  · rw [if_pos (by omega)]; simp
  · rw [if_neg (by omega)]; simp [List.getElem?_eq_none (by omega : l.length ≤ k)]
@[simp] theorem atD_0 {l : List D} : atD l 0 = l[0]? := atD_nat (k := 0)
@[simp] theorem atD_lit1 {l : List D} : atD l 1 = l[1]? := atD_nat (k := 1)
@[simp] theorem atD_lit2 {l : List D} : atD l 2 = l[2]? := atD_nat (k := 2)
@[simp] theorem atD_lit3 {l : List D} : atD l 3 = l[3]? := atD_nat (k := 3)
@[simp] theorem atD_lit4 {l : List D} : atD l 4 = l[4]? := atD_nat (k := 4)
@[simp] theorem atD_lit5 {l : List D} : atD l 5 = l[5]? := atD_nat (k := 5)
@[simp] theorem atD_lit6 {l : List D} : atD l 6 = l[6]? := atD_nat (k := 6)
@[simp] theorem atD_lit7 {l : List D} : atD l 7 = l[7]? := atD_nat (k := 7)
@[simp] theorem atD_lit8 {l : List D} : atD l 8 = l[8]? := atD_nat (k := 8)
@[simp] theorem atD_lit9 {l : List D} : atD l 9 = l[9]? := atD_nat (k := 9)
@[simp] theorem atD_lit10 {l : List D} : atD l 10 = l[10]? := atD_nat (k := 10)
@[simp] theorem atD_lit11 {l : List D} : atD l 11 = l[11]? := atD_nat (k := 11)
@[simp] theorem atD_lit12 {l : List D} : atD l 12 = l[12]? := atD_nat (k := 12)
@[simp] theorem atD_lit13 {l : List D} : atD l 13 = l[13]? := atD_nat (k := 13)
@[simp] theorem atD_lit14 {l : List D} : atD l 14 = l[14]? := atD_nat (k := 14)
@[simp] theorem atD_lit15 {l : List D} : atD l 15 = l[15]? := atD_nat (k := 15)
@[simp] theorem atD_lit16 {l : List D} : atD l 16 = l[16]? := atD_nat (k := 16)
@[simp] theorem atD_lit17 {l : List D} : atD l 17 = l[17]? := atD_nat (k := 17)
@[simp] theorem atD_lit18 {l : List D} : atD l 18 = l[18]? := atD_nat (k := 18)
@[simp] theorem atD_lit19 {l : List D} : atD l 19 = l[19]? := atD_nat (k := 19)
@[simp] theorem atD_lit20 {l : List D} : atD l 20 = l[20]? := atD_nat (k := 20)
@[simp] theorem atD_lit21 {l : List D} : atD l 21 = l[21]? := atD_nat (k := 21)
@[simp] theorem atD_lit22 {l : List D} : atD l 22 = l[22]? := atD_nat (k := 22)
@[simp] theorem atD_lit23 {l : List D} : atD l 23 = l[23]? := atD_nat (k := 23)
@[simp] theorem atD_lit24 {l : List D} : atD l 24 = l[24]? := atD_nat (k := 24)
theorem atD_in {l : List D} {i : Int} (h0 : 0 ≤ i) : atD l i = l[i.toNat]? := by
  obtain ⟨k, rfl⟩ := Int.eq_ofNat_of_zero_le h0
  rw [atD_nat]; rfl
@[simp] theorem oCall_ev {G : List D → Option M} {f : Dfl} {a : Ab K tr} : (oCall G f a).ev Γ = (a.ev Γ).bind fun ds => G (ds ++ f.ds) := rfl
@[simp] theorem hCall_ev {G : List D → Option M} {f : Dfl} {a : Ah K tr} : (hCall G f a).ev Γ = (a.ev Γ).bind fun ds => (G (ds ++ f.ds)).bind M.fz := rfl
@[simp] theorem noDfl_ds : noDfl.ds = [] := rfl
@[simp] theorem oCBL_ev {rc : List V → Hp → VK → Prop} {o : OpL K rc} {a : Ab K tr} : (oCBL o a).ev Γ = (a.ev Γ).bind fun ds => (o.g ds).map fun es => .nd .lst (es.map M.im) := rfl
@[simp] theorem oList_g {d : D} : (oList (K := K)).g [d] = d.asS := rfl
def bind2L (a b : Option D) (f : D → D → Option (List D)) : Option M := a.bind fun x => b.bind fun y => (f x y).map fun es => .nd .lst (es.map M.im)
@[simp] theorem bind2L_s {x y : D} {f : D → D → Option (List D)} : bind2L (some x) (some y) f = (f x y).map fun es => .nd .lst (es.map M.im) := rfl
@[simp] theorem o2L_ev {o : OpL2 K r} {a : Pb K ta} {b : Pb K tb} : (o2L o a b).ev Γ = bind2L (a.ev Γ) (b.ev Γ) o.g := rfl
@[simp] theorem oCat_g {l l' : List D} : (oCat (K := K)).g (.lst l) (.lst l') = if lineD (l.length + l'.length) then some (l ++ l') else none := rfl
@[simp] theorem noPart_ev : (noPart (K := K)).ev Γ = some none := rfl
@[simp] theorem aPart_ev {a : Ph K ta} : (aPart a).ev Γ = (a.ev Γ).bind fun d => match d with | .int i => some (some i) | _ => none := rfl
@[simp] theorem oSlL_ev {tl th : TO} {a : Pb K ta} {l : Op0 K tl} {h : Op0 K th} : (oSlL a l h).ev Γ = (a.ev Γ).bind fun x => (l.ev Γ).bind fun lo => (h.ev Γ).bind fun hi => (x.asL).map fun ds => .nd .lst ((cutD ds lo hi).map M.im) := rfl
/-! ### defs -/
theorem runF_eq {np n : Nat} {ev : List M → Option Ct} {ds : List D} (h : ds.length = np) : runF np n ev ds = (ev (startG n ds)).bind outM := by
  unfold runF runP
  rw [if_pos h]
@[simp] theorem runF_1 {n : Nat} {ev : List M → Option Ct} {a0 : D} : runF 1 n ev [a0] = (ev (startG n [a0])).bind outM := rfl
@[simp] theorem runF_2 {n : Nat} {ev : List M → Option Ct} {a0 a1 : D} : runF 2 n ev [a0, a1] = (ev (startG n [a0, a1])).bind outM := rfl
@[simp] theorem runF_3 {n : Nat} {ev : List M → Option Ct} {a0 a1 a2 : D} : runF 3 n ev [a0, a1, a2] = (ev (startG n [a0, a1, a2])).bind outM := rfl
@[simp] theorem runF_4 {n : Nat} {ev : List M → Option Ct} {a0 a1 a2 a3 : D} : runF 4 n ev [a0, a1, a2, a3] = (ev (startG n [a0, a1, a2, a3])).bind outM := rfl
@[simp] theorem runF_5 {n : Nat} {ev : List M → Option Ct} {a0 a1 a2 a3 a4 : D} : runF 5 n ev [a0, a1, a2, a3, a4] = (ev (startG n [a0, a1, a2, a3, a4])).bind outM := rfl
@[simp] theorem runF_6 {n : Nat} {ev : List M → Option Ct} {a0 a1 a2 a3 a4 a5 : D} : runF 6 n ev [a0, a1, a2, a3, a4, a5] = (ev (startG n [a0, a1, a2, a3, a4, a5])).bind outM := rfl
@[simp] theorem runF_7 {n : Nat} {ev : List M → Option Ct} {a0 a1 a2 a3 a4 a5 a6 : D} : runF 7 n ev [a0, a1, a2, a3, a4, a5, a6] = (ev (startG n [a0, a1, a2, a3, a4, a5, a6])).bind outM := rfl
@[simp] theorem runF_8 {n : Nat} {ev : List M → Option Ct} {a0 a1 a2 a3 a4 a5 a6 a7 : D} : runF 8 n ev [a0, a1, a2, a3, a4, a5, a6, a7] = (ev (startG n [a0, a1, a2, a3, a4, a5, a6, a7])).bind outM := rfl
@[simp] theorem runF_9 {n : Nat} {ev : List M → Option Ct} {a0 a1 a2 a3 a4 a5 a6 a7 a8 : D} : runF 9 n ev [a0, a1, a2, a3, a4, a5, a6, a7, a8] = (ev (startG n [a0, a1, a2, a3, a4, a5, a6, a7, a8])).bind outM := rfl
@[simp] theorem outM_rt {m : M} : outM (.rt m Γ) = some m := rfl
@[simp] theorem outM_nx : outM (.nx Γ) = some (.im .non) := rfl
end
end KS

namespace KS
open PySem L2
@[simp] theorem fzs_append : ∀ (a b : List M), M.fzs (a ++ b) = (M.fzs a).bind fun x => (M.fzs b).map fun y => x ++ y
  | [], b => by simp
  | m :: a, b => by
    simp only [List.cons_append, M.fzs, fzs_append a b]
    cases M.fz m with
    | none => rfl
    | some d =>
      cases M.fzs a with
      | none => rfl
      | some ds => cases M.fzs b <;> rfl

/-! ### data of whole numbers, texts apart -/
mutual
/-- ints, None, lists and tuples of these, nested at most n deep -/
def D.io : Nat → D → Bool
  | _, .non => true
  | _, .int _ => true
  | n + 1, .tup l => D.ios n l
  | n + 1, .lst l => D.ios n l
  | _, _ => false
def D.ios : Nat → List D → Bool
  | _, [] => true
  | n, d :: ds => D.io n d && D.ios n ds
end
mutual
theorem io_toP : ∀ {n : Nat} {d : D}, d.io n = true → ∃ p, d.toP = some p ∧ p.canLay0 = true ∧ p.depth ≤ n + 1
  | n, .non, _ => ⟨.none, rfl, rfl, by simp [PyData.depth]⟩
  | n, .int i, _ => ⟨.int i, rfl, rfl, by simp [PyData.depth]⟩
  | n + 1, .tup l, h => by
    obtain ⟨ps, e1, e2, e3⟩ := ios_toP (n := n) (ds := l) (by simpa [D.io] using h)
    exact ⟨.tuple ps, by simp [D.toP, e1], by simpa [PyData.canLay0] using e2, by simp only [PyData.depth]; omega⟩
  | n + 1, .lst l, h => by
    obtain ⟨ps, e1, e2, e3⟩ := ios_toP (n := n) (ds := l) (by simpa [D.io] using h)
    exact ⟨.list ps, by simp [D.toP, e1], by simpa [PyData.canLay0] using e2, by simp only [PyData.depth]; omega⟩
  | 0, .tup _, h => by simp [D.io] at h
  | 0, .lst _, h => by simp [D.io] at h
  | n, .bl _, h => by simp [D.io] at h
  | n, .str _, h => by simp [D.io] at h
  | n, .ty _, h => by simp [D.io] at h
  | n, .cls _, h => by simp [D.io] at h
  | n, .scr _, h => by simp [D.io] at h
  | n, .dic _ _, h => by simp [D.io] at h
  | n, .obj _ _ _, h => by simp [D.io] at h
theorem ios_toP : ∀ {n : Nat} {ds : List D}, D.ios n ds = true → ∃ ps, D.toPs ds = some ps ∧ PyData.canLayAll0 ps = true ∧ PyData.depthAll ps ≤ n + 1
  | n, [], _ => ⟨[], rfl, rfl, by simp [PyData.depthAll]⟩
  | n, d :: ds, h => by
    simp only [D.ios, Bool.and_eq_true] at h
    obtain ⟨p, a1, a2, a3⟩ := io_toP h.1
    obtain ⟨ps, b1, b2, b3⟩ := ios_toP h.2
    exact ⟨p :: ps, by simp [D.toPs, a1, b1], by simp [PyData.canLayAll0, a2, b2], by simp only [PyData.depthAll]; omega⟩
end
mutual
theorem io_eqv : ∀ {n m : Nat} {d e : D} {p q : PyData}, d.io n = true → e.io m = true → d.toP = some p → e.toP = some q → (PyData.eqv p q = true ↔ d = e)
  | n, m, .non, e, p, q, h, g, hp, hq => by
    cases hp
    cases e with
    | non => cases hq; simp [PyData.eqv]
    | int j => cases hq; simp [PyData.eqv]
    | tup l => simp only [D.toP, Option.map_eq_some_iff] at hq; obtain ⟨_, _, rfl⟩ := hq; simp [PyData.eqv]
    | lst l => simp only [D.toP, Option.map_eq_some_iff] at hq; obtain ⟨_, _, rfl⟩ := hq; simp [PyData.eqv]
    | _ => simp [D.io] at g
  | n, m, .int i, e, p, q, h, g, hp, hq => by
    cases hp
    cases e with
    | non => cases hq; simp [PyData.eqv]
    | int j => cases hq; simp [PyData.eqv]
    | tup l => simp only [D.toP, Option.map_eq_some_iff] at hq; obtain ⟨_, _, rfl⟩ := hq; simp [PyData.eqv]
    | lst l => simp only [D.toP, Option.map_eq_some_iff] at hq; obtain ⟨_, _, rfl⟩ := hq; simp [PyData.eqv]
    | _ => simp [D.io] at g
  | n + 1, m, .tup l, e, p, q, h, g, hp, hq => by
    simp only [D.toP, Option.map_eq_some_iff] at hp
    obtain ⟨ps, e1, rfl⟩ := hp
    cases e with
    | tup l' =>
      simp only [D.toP, Option.map_eq_some_iff] at hq
      obtain ⟨qs, e2, rfl⟩ := hq
      cases m with
      | zero => simp [D.io] at g
      | succ m =>
        have := ios_eqv (by simpa [D.io] using h) (by simpa [D.io] using g) e1 e2
        simp only [PyData.eqv, this, D.tup.injEq]
    | lst l' =>
      simp only [D.toP, Option.map_eq_some_iff] at hq
      obtain ⟨qs, e2, rfl⟩ := hq
      simp [PyData.eqv]
    | non => cases hq; simp [PyData.eqv]
    | int j => cases hq; simp [PyData.eqv]
    | _ => simp [D.io] at g
  | n + 1, m, .lst l, e, p, q, h, g, hp, hq => by
    simp only [D.toP, Option.map_eq_some_iff] at hp
    obtain ⟨ps, e1, rfl⟩ := hp
    cases e with
    | lst l' =>
      simp only [D.toP, Option.map_eq_some_iff] at hq
      obtain ⟨qs, e2, rfl⟩ := hq
      cases m with
      | zero => simp [D.io] at g
      | succ m =>
        have := ios_eqv (by simpa [D.io] using h) (by simpa [D.io] using g) e1 e2
        simp only [PyData.eqv, this, D.lst.injEq]
    | tup l' =>
      simp only [D.toP, Option.map_eq_some_iff] at hq
      obtain ⟨qs, e2, rfl⟩ := hq
      simp [PyData.eqv]
    | non => cases hq; simp [PyData.eqv]
    | int j => cases hq; simp [PyData.eqv]
    | _ => simp [D.io] at g
  | 0, _, .tup _, _, _, _, h, _, _, _ => by simp [D.io] at h
  | 0, _, .lst _, _, _, _, h, _, _, _ => by simp [D.io] at h
  | n, _, .bl _, _, _, _, h, _, _, _ => by simp [D.io] at h
  | n, _, .str _, _, _, _, h, _, _, _ => by simp [D.io] at h
  | n, _, .ty _, _, _, _, h, _, _, _ => by simp [D.io] at h
  | n, _, .cls _, _, _, _, h, _, _, _ => by simp [D.io] at h
  | n, _, .scr _, _, _, _, h, _, _, _ => by simp [D.io] at h
  | n, _, .dic _ _, _, _, _, h, _, _, _ => by simp [D.io] at h
  | n, _, .obj _ _ _, _, _, _, h, _, _, _ => by simp [D.io] at h
theorem ios_eqv : ∀ {n m : Nat} {ds es : List D} {ps qs : List PyData}, D.ios n ds = true → D.ios m es = true → D.toPs ds = some ps → D.toPs es = some qs → (PyData.eqvAll ps qs = true ↔ ds = es)
  | n, m, [], es, ps, qs, h, g, hp, hq => by
    cases hp
    cases es with
    | nil => cases hq; simp [PyData.eqvAll]
    | cons e es =>
      simp only [D.toPs] at hq
      split at hq
      · cases hq; simp [PyData.eqvAll]
      · cases hq
  | n, m, d :: ds, es, ps, qs, h, g, hp, hq => by
    simp only [D.toPs] at hp
    split at hp
    · rename_i p ps' h1 h2
      cases hp
      simp only [D.ios, Bool.and_eq_true] at h
      cases es with
      | nil => cases hq; simp [PyData.eqvAll]
      | cons e es =>
        simp only [D.toPs] at hq
        split at hq
        · rename_i q qs' g1 g2
          cases hq
          simp only [D.ios, Bool.and_eq_true] at g
          have a := io_eqv h.1 g.1 h1 g1
          have b := ios_eqv h.2 g.2 h2 g2
          simp only [PyData.eqvAll, Bool.and_eq_true, a, b, List.cons.injEq]
        · cases hq
    · cases hp
end
/-- == of two data of ints tells whether they are one -/
theorem eqD_io {a b : D} (ha : a.io 60 = true) (hb : b.io 60 = true) : ∃ c, eqD a b = some c ∧ (c = true ↔ a = b) := by
  obtain ⟨p, p1, p2, p3⟩ := io_toP ha
  obtain ⟨q, q1, q2, q3⟩ := io_toP hb
  have s1 : SeqAt.shaped p = true := by unfold SeqAt.shaped; rw [p2, decide_eq_true (by omega)]; rfl
  have s2 : SeqAt.shaped q = true := by unfold SeqAt.shaped; rw [q2, decide_eq_true (by omega)]; rfl
  refine ⟨PyData.eqv p q, ?_, io_eqv ha hb p1 q1⟩
  unfold eqD
  rw [p1, q1, Option.bind_some, Option.bind_some, s1, s2]
  rfl
theorem eqD_refl {a : D} (ha : a.io 60 = true) : eqD a a = some true := by
  obtain ⟨c, e, h⟩ := eqD_io ha ha
  rw [e, h.mpr rfl]
theorem eqD_ne {a b : D} (ha : a.io 60 = true) (hb : b.io 60 = true) (h : a ≠ b) : eqD a b = some false := by
  obtain ⟨c, e, h'⟩ := eqD_io ha hb
  rw [e]
  cases c with
  | true => exact absurd (h'.mp rfl) h
  | false => rfl
theorem ios_map {α : Type} {f : α → D} {n : Nat} (h : ∀ x, (f x).io n = true) : ∀ l : List α, D.ios n (l.map f) = true
  | [] => rfl
  | x :: l => by simp [D.ios, h x, ios_map h l]
/-! ### slices -/
def cutL {α : Type} (xs : List α) (lo hi : Option Int) : List α := (xs.drop (HT.sIx xs.length 0 lo)).take (HT.sIx xs.length xs.length hi - HT.sIx xs.length 0 lo)
theorem cutD_map {α : Type} (f : α → D) (xs : List α) (lo hi : Option Int) : cutD (xs.map f) lo hi = (cutL xs lo hi).map f := by
  unfold cutD cutL
  rw [List.length_map, List.map_take, List.map_drop]
theorem cutL_len {α : Type} (xs : List α) (lo hi : Option Int) : (cutL xs lo hi).length ≤ xs.length := by
  unfold cutL
  rw [List.length_take, List.length_drop]
  omega
theorem cutL_nat {α : Type} (xs : List α) (a b : Nat) : cutL xs (some (a : Int)) (some (b : Int)) = (xs.drop a).take (b - a) := by
  unfold cutL
  rw [HT.sIx_nat, HT.sIx_nat]
  by_cases h : a ≤ xs.length
  · rw [Nat.min_eq_left h]
    by_cases h2 : b ≤ xs.length
    · rw [Nat.min_eq_left h2]
    · rw [Nat.min_eq_right (by omega), List.take_of_length_le (by simp), List.take_of_length_le (by simp; omega)]
  · rw [Nat.min_eq_right (by omega : xs.length ≤ a), List.drop_eq_nil_of_le (Nat.le_refl _), List.drop_eq_nil_of_le (by omega : xs.length ≤ a)]
    simp
theorem cutL_le {α : Type} (xs : List α) (a b : Nat) : (cutL xs (some (a : Int)) (some (b : Int))).length ≤ b - a := by
  rw [cutL_nat, List.length_take]; omega
theorem cutL_mem {α : Type} {xs : List α} {lo hi : Option Int} {x : α} (h : x ∈ cutL xs lo hi) : x ∈ xs := by
  unfold cutL at h
  exact List.mem_of_mem_drop (List.mem_of_mem_take h)
/-! ### rows of pairs -/
def rowD (r : Int × Int) : D := .tup [.int r.1, .int r.2]
def rowsD (rs : List (Int × Int)) : List D := rs.map rowD
theorem rowD_io (r : Int × Int) {n : Nat} : (rowD r).io (n + 1) = true := rfl
theorem rowsD_io (rs : List (Int × Int)) : (D.lst (rowsD rs)).io 60 = true := ios_map (n := 59) (fun r => rowD_io r) rs
theorem ints_io (ns : List Int) : (D.lst (ns.map D.int)).io 60 = true := ios_map (n := 59) (fun _ => rfl) ns
def pairsOf : List D → Option (List (Int × Int))
  | [] => some []
  | .tup [.int p, .int b] :: r => (pairsOf r).map fun rs => (p, b) :: rs
  | _ => none
@[simp] theorem pairsOf_rowsD : ∀ rs : List (Int × Int), pairsOf (rowsD rs) = some rs
  | [] => rfl
  | r :: rs => by
    show (pairsOf (rowsD rs)).map _ = _
    rw [pairsOf_rowsD rs]; rfl
theorem pairsOf_eq : ∀ {l : List D} {rs : List (Int × Int)}, pairsOf l = some rs → l = rowsD rs
  | [], rs, h => by cases h; rfl
  | d :: l, rs, h => by
    unfold pairsOf at h
    split at h
    · rename_i h0; cases h0
    · rename_i p b r h0
      cases h0
      obtain ⟨rs', h1, rfl⟩ := Option.map_eq_some_iff.mp h
      rw [pairsOf_eq h1]; rfl
    · cases h
def intsOf : List D → Option (List Int)
  | [] => some []
  | .int p :: r => (intsOf r).map fun rs => p :: rs
  | _ => none
@[simp] theorem intsOf_map : ∀ rs : List Int, intsOf (rs.map D.int) = some rs
  | [] => rfl
  | r :: rs => by
    show (intsOf (rs.map D.int)).map _ = _
    rw [intsOf_map rs]; rfl
theorem intsOf_eq : ∀ {l : List D} {rs : List Int}, intsOf l = some rs → l = rs.map D.int
  | [], rs, h => by cases h; rfl
  | d :: l, rs, h => by
    unfold intsOf at h
    split at h
    · rename_i h0; cases h0
    · rename_i p r h0
      cases h0
      obtain ⟨rs', h1, rfl⟩ := Option.map_eq_some_iff.mp h
      rw [intsOf_eq h1]; rfl
    · cases h
end KS

namespace KS
open PySem L2
section
variable {K : PySem.W.Frag} {pn : Nat → Bool} {ta tb tc te ti : TE} {tr : TA} {t u : TT} {ts ts' tS : TS} {g : TG} {gs : TGs} {wi : TI}
def isIm : M → Bool
  | .im _ => true
  | _ => false
theorem ownL_set {Hb H : Hp} : ∀ {ms : List M} {vs : List V} {F : List Addr} {j : Nat} {d : D} {v : V}, OwnL K Hb H ms vs F → (ms[j]?).map isIm = some true → rep K Hb d v → OwnL K Hb H (ms.set j (.im d)) (vs.set j v) F
  | [], _, _, j, _, _, h, e, _ => by simp at e
  | m :: ms, vs, F, 0, d, v, h, e, r => by
    obtain ⟨x, rr, F1, F2, rfl, h1, h2, rfl⟩ := h
    simp at e
    cases m with
    | im d0 => exact ⟨v, rr, F1, F2, rfl, ⟨r, h1.2⟩, h2, rfl⟩
    | emp => cases e
    | nd _ _ => cases e
  | m :: ms, vs, F, j + 1, d, v, h, e, r => by
    obtain ⟨x, rr, F1, F2, rfl, h1, h2, rfl⟩ := h
    simp at e
    exact ⟨x, rr.set j v, F1, F2, rfl, h1, ownL_set h2 (by simpa using e) r, rfl⟩
def setC (i : Nat) (d x : Option D) (Γ : List M) : Option M → Option Ct
  | some (.nd .lst cs) => d.bind fun d => match x with
    | some (.int k) => (ixN cs.length k).bind fun j => if (cs[j]?).map isIm = some true then some (.nx (Γ.set i (.nd .lst (cs.set j (.im d))))) else none
    | _ => none
  | _ => none
/-- xs[k] = e, xs a name -/
def sSetL (i : Nat) (p : Pb K te) (q : Ph K ti) : Sx K pn (tAsg te (gSub (tVar i) ti rSetL)) where
  ev := fun Γ => setC i (p.ev Γ) (q.ev Γ) Γ Γ[i]?
  ok := fun {Γ c σ Hb H F E} e w gg => by
    unfold setC at e
    split at e
    · rename_i cs hi
      obtain ⟨d, e1, e⟩ := Option.bind_eq_some_iff.mp e
      split at e
      · rename_i k hk
        obtain ⟨j, e2, e⟩ := Option.bind_eq_some_iff.mp e
        split at e
        · rename_i him
          cases e
          refine p.ok e1 w fun v Hb1 H1 x1 x2 x3 x4 r => ?_
          have w1 := w.pure x1 x2 x3 x4
          obtain ⟨a, dx, vs, Fc, s1, s2, s3, s4, s5, s6, s7⟩ := w1.chg hi
          refine ⟨.ref a, s1, ?_⟩
          refine q.ok hk w1 fun v2 Hb2 H2 y1 y2 y3 y4 r2 => ?_
          have w2 := w1.pure y1 y2 y3 y4
          obtain ⟨a', dx', vs', Fc', t1, t2, t3, t4, t5, t6, t7⟩ := w2.chg hi
          have ea : a' = a := by rw [s1] at t1; cases t1; rfl
          subst ea
          rw [show v2 = V.int k from r2]
          obtain ⟨w3, st3⟩ := t7 .lst (cs.set j (.im d)) (vs'.set j v) True.intro (ownL_set (ownL_upd t5 t6) him (rep_mono y1 r))
          exact ⟨a', vs', k, j, rfl, rfl, t3, by rw [ownL_len t5]; exact e2, gg σ Hb2 _ F w3 (((Step.pure x1 x2 x4).trans (Step.pure y1 y2 y4)).trans st3) Pin.refl⟩
        · cases e
      · cases e
    · cases e
@[simp] theorem sSetL_ev {i : Nat} {p : Pb K te} {q : Ph K ti} {Γ : List M} : (sSetL (pn := pn) i p q).ev Γ = setC i (p.ev Γ) (q.ev Γ) Γ Γ[i]? := rfl
@[simp] theorem setC_l {i : Nat} {d : D} {k : Int} {Γ cs : List M} : setC i (some d) (some (.int k)) Γ (some (.nd .lst cs)) = (ixN cs.length k).bind fun j => if (cs[j]?).map isIm = some true then some (.nx (Γ.set i (.nd .lst (cs.set j (.im d))))) else none := rfl
@[simp] theorem isIm_im {d : D} : isIm (.im d) = true := rfl
/-! ### range with a step -/
def rangeCD (lo c : Int) (n : Nat) : List D := (List.range n).map fun (i : Nat) => D.int (lo + (i : Int) * c)
theorem rangeCD_len (lo c : Int) (n : Nat) : (rangeCD lo c n).length = n := by simp [rangeCD]
theorem walks_rangeC {Hb2 : Hp} (lo c : Int) (n : Nat) : Walks K (Itc lo c n) (rangeCD lo c n) Hb2 := by
  refine ⟨fun i Hb3 H3 y1 y2 hi => ?_, fun Hb3 H3 y1 y2 => ?_⟩
  · rw [rangeCD_len] at hi
    refine ⟨hi, fun x H4 hy => ?_⟩
    obtain ⟨rfl, rfl⟩ := hy
    exact ⟨Hb3, .int (lo + (i : Int) * c), Evl.Ex.refl _, Evl.Ex.refl _, y2, NB.refl, by simp [rangeCD, hi], rfl⟩
  · show n ≤ (rangeCD lo c n).length
    rw [rangeCD_len]; exact Nat.le_refl _
def rg3 : List D → Option (List D)
  | [.int i, .int j, .int c] => if c ≠ 0 ∧ c.natAbs ≤ 1000 ∧ Builtin.Range.small i j c = true ∧ 0 ≤ Builtin.Range.rangeSize i j c then some (rangeCD i c (Builtin.Range.rangeSize i j c).toNat) else none
  | _ => none
def srcR3 (a : Ah K tr) : Src K (iRng3 tr) where
  ev := fun Γ => (a.ev Γ).bind rg3
  ok := fun {Γ ds σ Hb H F R} e w k => by
    obtain ⟨d, e1, e⟩ := Option.bind_eq_some_iff.mp e
    refine a.ok e1 w fun v Hb2 H2 x1 x2 x3 x4 r => ?_
    unfold rg3 at e
    split at e
    · rename_i m n c
      split at e
      · rename_i hn
        cases e
        obtain ⟨x, xs, rfl, h1, y, ys, rfl, h2, z, zs, rfl, h3, h4⟩ := r
        obtain rfl : zs = [] := h4
        obtain rfl : x = .int m := h1
        obtain rfl : y = .int n := h2
        obtain rfl : z = .int c := h3
        exact ⟨m, n, c, _, rfl, ⟨hn.1, by omega, hn.2.2.1, by omega⟩, k _ Hb2 H2 x1 x2 x3 x4 (walks_rangeC m c _)⟩
      · cases e
    · cases e
@[simp] theorem srcR3_ev {a : Ah K tr} {Γ : List M} : (srcR3 a).ev Γ = (a.ev Γ).bind rg3 := rfl
end
/-! ### loops by an invariant -/
def Onw (o : Option Ct) (Γ : List M) : Prop := o = some (.nx Γ) ∨ o = some (.ct Γ)
theorem forRun_onw {asg : List M → D → Option (List M)} {body : List M → Option Ct} {d : D} {ds : List D} {Γ Γ1 Γ2 : List M} (h1 : asg Γ d = some Γ1) (h2 : Onw (body Γ1) Γ2) : forRun asg body (d :: ds) Γ = forRun asg body ds Γ2 := by
  rw [forRun_cons, h1, Option.bind_some]
  rcases h2 with h | h <;> rw [h] <;> rfl
/-- each turn goes on, by a fold -/
theorem forRun_fold {α β : Type} {asg : List M → D → Option (List M)} {body : List M → Option Ct} (f : α → D) (st : β → α → β) (R : β → List M → Prop) : ∀ (l : List α) (b : β) (Γ : List M), R b Γ →
    (∀ a ∈ l, ∀ b Γ, R b Γ → ∃ Γ1 Γ2, asg Γ (f a) = some Γ1 ∧ Onw (body Γ1) Γ2 ∧ R (st b a) Γ2) → ∃ Γ', forRun asg body (l.map f) Γ = some (.nx Γ') ∧ R (l.foldl st b) Γ'
  | [], b, Γ, r, _ => ⟨Γ, rfl, r⟩
  | a :: l, b, Γ, r, h => by
    obtain ⟨Γ1, Γ2, h1, h2, h3⟩ := h a List.mem_cons_self b Γ r
    obtain ⟨Γ', h4, h5⟩ := forRun_fold f st R l (st b a) Γ2 h3 fun x hx => h x (List.mem_cons_of_mem _ hx)
    exact ⟨Γ', (forRun_onw h1 h2).trans h4, h5⟩
/-- .. by the number of turns -/
theorem forRun_inv {asg : List M → D → Option (List M)} {body : List M → Option Ct} (R : Nat → List M → Prop) : ∀ (ds : List D) (n : Nat) (Γ : List M), R n Γ →
    (∀ i Γ d, ds[i]? = some d → R (n + i) Γ → ∃ Γ1 Γ2, asg Γ d = some Γ1 ∧ Onw (body Γ1) Γ2 ∧ R (n + i + 1) Γ2) → ∃ Γ', forRun asg body ds Γ = some (.nx Γ') ∧ R (n + ds.length) Γ'
  | [], n, Γ, r, _ => ⟨Γ, rfl, r⟩
  | d :: ds, n, Γ, r, h => by
    obtain ⟨Γ1, Γ2, h1, h2, h3⟩ := h 0 Γ d rfl r
    obtain ⟨Γ', h4, h5⟩ := forRun_inv R ds (n + 1) Γ2 h3 fun i Γ d' hd hr => by
      have := h (i + 1) Γ d' (by simpa using hd) (by rw [show n + (i + 1) = n + 1 + i by omega]; exact hr)
      rw [show n + (i + 1) + 1 = n + 1 + i + 1 by omega] at this
      exact this
    refine ⟨Γ', (forRun_onw h1 h2).trans h4, ?_⟩
    rw [List.length_cons, show n + (ds.length + 1) = n + 1 + ds.length by omega]
    exact h5
end KS

namespace KS
open PySem L2
section
variable {K : PySem.W.Frag}
theorem OwnL.at {Hb H : Hp} : ∀ {ms : List M} {vs : List V} {F : List Addr} {j : Nat} {m : M}, OwnL K Hb H ms vs F → ms[j]? = some m →
    ∃ v A B Fj, vs[j]? = some v ∧ Own K Hb H m v Fj ∧ F = A ++ (Fj ++ B) ∧
      ∀ (Hb2 H2 : Hp) (m2 : M) (v2 : V) (F2 : List Addr), Ex Hb Hb2 → (∀ a ∈ A ++ B, ∀ o, H a = some o → H2 a = some o) → Own K Hb2 H2 m2 v2 F2 → OwnL K Hb2 H2 (ms.set j m2) (vs.set j v2) (A ++ (F2 ++ B))
  | [], _, _, j, m, h, e => by simp at e
  | m0 :: ms, _, _, 0, m, h, e => by
    obtain ⟨v, r, F1, F2, rfl, e1, e2, rfl⟩ := h
    simp at e; subst e
    refine ⟨v, [], F2, F1, by simp, e1, by simp, fun Hb2 H2 m2 v2 G eb k h2 => ?_⟩
    exact ⟨v2, r, G, F2, by simp, h2, OwnL.keep eb e2 fun a ha => k a (by simpa using ha), by simp⟩
  | m0 :: ms, _, _, j + 1, m, h, e => by
    obtain ⟨v, r, F1, F2, rfl, e1, e2, rfl⟩ := h
    simp at e
    obtain ⟨v', A, B, Fj, h1, h2, h3, h4⟩ := OwnL.at e2 e
    refine ⟨v', F1 ++ A, B, Fj, by simpa using h1, h2, by rw [h3]; simp, fun Hb2 H2 m2 v2 G eb k g => ?_⟩
    refine ⟨v, r.set j v2, F1, A ++ (G ++ B), by simp, e1.keep eb fun a ha => k a ?_, h4 Hb2 H2 m2 v2 G eb (fun a ha => k a ?_) g, by simp⟩
    · simp [ha]
    · rcases List.mem_append.mp ha with ha | ha <;> simp [ha]
theorem set_same {α : Type} {l : List α} {j : Nat} {x : α} (h : l[j]? = some x) : l.set j x = l := by
  apply List.ext_getElem?
  intro i
  by_cases e : j = i
  · subst e; rw [h]; simp [List.getElem?_set, (List.getElem?_eq_some_iff.mp h).1]
  · rw [List.getElem?_set_ne e]

/-! ### a place -/
/-- v is the value at a place that holds m; put m2: the names where m2 stands there instead -/
def At (K : PySem.W.Frag) (σ : St) (Hb H : Hp) (F : List Addr) (put : M → List M) (m : M) (v : V) : Prop :=
  ∃ F1 rest, Own K Hb H m v F1 ∧ F.Perm (F1 ++ rest) ∧
    ∀ (Hb2 H2 : Hp) (m2 : M) (F2 : List Addr), Ex Hb Hb2 → (∀ a ∈ rest, ∀ o, H a = some o → H2 a = some o) → Own K Hb2 H2 m2 v F2 → ∃ F3, OwnS K Hb2 H2 (put m2) σ F3 ∧ F3.Perm (F2 ++ rest)
theorem At.pure {σ : St} {Hb H Hb2 H2 : Hp} {F : List Addr} {put : M → List M} {m : M} {v : V} (h : At K σ Hb H F put m v) (eb : Ex Hb Hb2) (e : Ex H H2) : At K σ Hb2 H2 F put m v := by
  obtain ⟨F1, rest, h1, h2, h3⟩ := h
  exact ⟨F1, rest, h1.keep eb fun a _ o q => e a o q, h2, fun Hb3 H3 m2 F2 x y z => h3 Hb3 H3 m2 F2 (Evl.Ex.trans eb x) (fun a ha o q => y a ha o (e a o q)) z⟩
theorem At.var {Γ : List M} {σ : St} {Hb H : Hp} {F : List Addr} {i : Nat} {m : M} (w : WF K Γ σ Hb H F) (h : Γ[i]? = some m) (hm : m ≠ .emp) : ∃ v, σ[i]? = some (some v) ∧ At K σ Hb H F (fun m2 => Γ.set i m2) m v := by
  obtain ⟨s, A, B, Fi, h1, h2, h3, h4⟩ := w.own.at h
  obtain ⟨v, rfl, o⟩ : ∃ v, s = some v ∧ Own K Hb H m v Fi := by
    cases m with
    | emp => exact absurd rfl hm
    | im d => exact h2
    | nd sh cs => exact h2
  refine ⟨v, h1, Fi, A ++ B, o, ?_, fun Hb2 H2 m2 F2 x y z => ⟨A ++ (F2 ++ B), ?_, ?_⟩⟩
  · rw [h3]
    exact (List.perm_append_comm_assoc A Fi B)
  · have hs : SlO K Hb2 H2 m2 (some v) F2 := by
      cases m2 with
      | emp => exact z
      | im d => exact ⟨v, rfl, z⟩
      | nd sh cs => exact ⟨v, rfl, z⟩
    have := h4 Hb2 H2 m2 (some v) F2 x y hs
    rw [set_same h1] at this
    exact this
  · exact (List.perm_append_comm_assoc A F2 B)
/-- a part of it -/
theorem At.child {σ : St} {Hb H : Hp} {F : List Addr} {put : M → List M} {sh : Sh} {cs : List M} {v : V} {j : Nat} {m : M} (h : At K σ Hb H F put (.nd sh cs) v) (hj : cs[j]? = some m) :
    ∃ a dx vs x, v = .ref a ∧ H a = some (sh.ho K dx vs) ∧ sh.fit vs.length ∧ vs.length = cs.length ∧ vs[j]? = some x ∧ At K σ Hb H F (fun m2 => put (.nd sh (cs.set j m2))) m x := by
  obtain ⟨F1, rest, ⟨a, dx, vs, Fc, rfl, e2, e3, e4, rfl⟩, hp, h3⟩ := h
  obtain ⟨x, A, B, Fj, c1, c2, c3, c4⟩ := OwnL.at e4 hj
  subst c3
  refine ⟨a, dx, vs, x, rfl, e2, e3, ownL_len e4, c1, Fj, a :: (A ++ B) ++ rest, c2, ?_, fun Hb2 H2 m2 F2 y z o => ?_⟩
  · refine hp.trans ?_
    show (a :: (A ++ (Fj ++ B)) ++ rest).Perm (Fj ++ (a :: (A ++ B) ++ rest))
    have p1 : (a :: (A ++ (Fj ++ B))).Perm (Fj ++ (a :: (A ++ B))) := by
      refine (List.Perm.cons a (List.perm_append_comm_assoc A Fj B)).trans ?_
      exact List.perm_middle.symm
    have := p1.append_right rest
    rwa [List.append_assoc] at this
  · have hL := c4 Hb2 H2 m2 x F2 y (fun b hb u hu => z b (by simp at hb ⊢; rcases hb with hb | hb <;> simp [hb]) u hu) o
    rw [set_same c1] at hL
    obtain ⟨F3, g1, g2⟩ := h3 Hb2 H2 (.nd sh (cs.set j m2)) (a :: (A ++ (F2 ++ B))) y (fun b hb u hu => z b (by simp [hb]) u hu) ⟨a, dx, vs, _, rfl, z a (by simp) _ e2, e3, hL, rfl⟩
    refine ⟨F3, g1, g2.trans ?_⟩
    have p1 : (a :: (A ++ (F2 ++ B))).Perm (F2 ++ (a :: (A ++ B))) := by
      refine (List.Perm.cons a (List.perm_append_comm_assoc A F2 B)).trans ?_
      exact List.perm_middle.symm
    have := p1.append_right rest
    rwa [List.append_assoc] at this
/-- a node's object is written anew, some of its parts perhaps other ones -/
theorem At.node {Γ : List M} {σ : St} {Hb H : Hp} {F Fr : List Addr} {put : M → List M} {sh : Sh} {cs : List M} {v : V} (w : WF K Γ σ Hb H F) (h : At K σ Hb H F put (.nd sh cs) v) (hfr : ∀ a ∈ Fr, a ∉ F ∧ Hb a = none) :
    ∃ a dx vs Fc, v = .ref a ∧ H a = some (sh.ho K dx vs) ∧ sh.fit vs.length ∧ OwnL K Hb H cs vs Fc ∧ a ∉ Fc ∧ Fc.Nodup ∧ a ∉ Fr ∧ (∀ b ∈ Fc, b ∉ Fr) ∧
      ∀ (sh2 : Sh) (cs2 : List M) (vs2 : List V) (Fc2 : List Addr), sh2.fit vs2.length → OwnL K Hb (upd H a (sh2.ho K dx vs2)) cs2 vs2 Fc2 → Fc2.Nodup → a ∉ Fc2 → (∀ b ∈ Fc2, b ∈ Fc ∨ b ∈ Fr) →
        ∃ F3, WF K (put (.nd sh2 cs2)) σ Hb (upd H a (sh2.ho K dx vs2)) F3 ∧ (∀ b u, H b = some u → b ∉ F → upd H a (sh2.ho K dx vs2) b = some u) ∧ (∀ b ∈ F3, b ∈ F ∨ b ∈ Fr) := by
  obtain ⟨F1, rest, ⟨a, dx, vs, Fc, rfl, e2, e3, e4, rfl⟩, hp, h3⟩ := h
  have nd := hp.nodup_iff.mp w.nd
  rw [List.nodup_append] at nd
  obtain ⟨n1, n2, n3⟩ := nd
  have n4 := List.nodup_cons.mp n1
  have inF : ∀ b ∈ a :: Fc, b ∈ F := fun b hb => hp.mem_iff.mpr (List.mem_append_left _ hb)
  have inR : ∀ b ∈ rest, b ∈ F := fun b hb => hp.mem_iff.mpr (List.mem_append_right _ hb)
  have aF : a ∈ F := inF a List.mem_cons_self
  have aR : ∀ b ∈ rest, b ≠ a := fun b hb z => n3 a List.mem_cons_self b hb z.symm
  refine ⟨a, dx, vs, Fc, rfl, e2, e3, e4, n4.1, n4.2, fun z => (hfr a z).1 aF, fun b hb z => (hfr b z).1 (inF b (List.mem_cons_of_mem _ hb)), fun sh2 cs2 vs2 Fc2 f2 o2 nd2 na2 sub => ?_⟩
  have ab : Hb a = none := w.fh a aF
  have ex : Ex Hb (upd H a (sh2.ho K dx vs2)) := fun b o hb => by
    have : b ≠ a := fun z => by rw [z, ab] at hb; cases hb
    rw [upd_ne this]; exact w.ex b o hb
  obtain ⟨F3, g1, g2⟩ := h3 Hb (upd H a (sh2.ho K dx vs2)) (.nd sh2 cs2) (a :: Fc2) (Evl.Ex.refl _) (fun b hb u hu => by rw [upd_ne (aR b hb)]; exact hu) ⟨a, dx, vs2, Fc2, rfl, upd_same, f2, o2, rfl⟩
  have m3 : ∀ b ∈ F3, b ∈ F ∨ b ∈ Fr := fun b hb => by
    rcases List.mem_append.mp (g2.mem_iff.mp hb) with z | z
    · rcases List.mem_cons.mp z with rfl | z
      · exact .inl aF
      · exact (sub b z).imp (fun y => inF b (List.mem_cons_of_mem _ y)) id
    · exact .inl (inR b z)
  refine ⟨F3, ⟨ex, g1, g2.nodup_iff.mpr ?_, fun b hb => (m3 b hb).elim (w.fh b) fun y => (hfr b y).2⟩, fun b u hu hb => ?_, m3⟩
  · rw [List.nodup_append]
    refine ⟨List.nodup_cons.mpr ⟨na2, nd2⟩, n2, fun b hb c hc e => ?_⟩
    subst e
    rcases List.mem_cons.mp hb with z | z
    · exact aR b hc z
    · rcases sub b z with y | y
      · exact n3 b (List.mem_cons_of_mem _ y) b hc rfl
      · exact (hfr b y).1 (inR b hc)
  · have : b ≠ a := fun z => hb (by rw [z]; exact aF)
    rw [upd_ne this]; exact hu
end

/-! ### paths -/
structure Pt (K : PySem.W.Frag) (t : TE) where
  foc : List M → Option ((M → List M) × M)
  ok : ∀ {Γ : List M} {put : M → List M} {m : M} {σ : St} {Hb H : Hp} {F : List Addr} {Q : VK}, foc Γ = some (put, m) → WF K Γ σ Hb H F →
    (∀ v Hb2 H2, Ex Hb Hb2 → Ex H H2 → Ex Hb2 H2 → NB Hb Hb2 H → At K σ Hb2 H2 F put m v → Q v H2) → t σ H Q
section
variable {K : PySem.W.Frag} {pn : Nat → Bool} {ta tb tc te ti : TE} {tr : TA} {t u : TT} {ts ts' tS : TS} {g : TG} {gs : TGs} {wi : TI} {Γ : List M}
def pVar (i : Nat) : Pt K (tVar i) where
  foc := fun Γ => match Γ[i]? with | some (.nd sh cs) => some (fun m2 => Γ.set i m2, .nd sh cs) | _ => none
  ok := fun {Γ put m σ Hb H F Q} e w k => by
    split at e
    · rename_i sh cs h
      cases e
      obtain ⟨v, h1, h2⟩ := At.var w h (by intro z; cases z)
      exact ⟨v, h1, k v Hb H (Evl.Ex.refl _) (Evl.Ex.refl _) w.ex NB.refl h2⟩
    · cases e
/-- where a field stands -/
def ixOf : List Str → Str → Option Nat
  | [], _ => none
  | n :: ns, f => if f = n then some 0 else (ixOf ns f).map (· + 1)
theorem lookup_hd (f g : Str) (y : V) (fs : List (Str × V)) : ((f, y) :: fs).lookup g = if g = f then some y else fs.lookup g := by
  by_cases h : g = f
  · subst h
    simp [List.lookup]
  · have e : (g == f) = false := by simpa using h
    rw [if_neg h]
    simp [List.lookup, e]
theorem ixOf_lookup {f : Str} : ∀ {ns : List Str} {vs : List V} {j : Nat}, ixOf ns f = some j → (ns.zip vs).lookup f = vs[j]?
  | [], _, _, h => by simp [ixOf] at h
  | n :: ns, [], j, h => by simp [List.lookup]
  | n :: ns, v :: vs, j, h => by
    unfold ixOf at h
    rw [List.zip_cons_cons, lookup_hd]
    split at h
    · rename_i e
      cases h
      rw [if_pos e]; rfl
    · rename_i e
      obtain ⟨i, h1, rfl⟩ := Option.map_eq_some_iff.mp h
      rw [if_neg e, ixOf_lookup h1]; rfl
theorem ixOf_none {f : Str} : ∀ {ns : List Str} {vs : List V}, ixOf ns f = none → (ns.zip vs).lookup f = none
  | [], _, h => by simp [List.lookup]
  | n :: ns, [], h => by simp [List.lookup]
  | n :: ns, v :: vs, h => by
    unfold ixOf at h
    rw [List.zip_cons_cons, lookup_hd]
    split at h
    · cases h
    · rename_i e
      rw [if_neg e, ixOf_none (by simpa using h)]
theorem putF_zip_old {f : Str} {x : V} : ∀ {ns : List Str} {vs : List V} {j : Nat}, ixOf ns f = some j → vs.length = ns.length → putF f x (ns.zip vs) = ns.zip (vs.set j x)
  | [], _, _, h, _ => by simp [ixOf] at h
  | n :: ns, [], j, h, l => by simp at l
  | n :: ns, v :: vs, j, h, l => by
    unfold ixOf at h
    rw [List.zip_cons_cons]
    show (if n = f then (n, x) :: ns.zip vs else (n, v) :: putF f x (ns.zip vs)) = _
    split at h
    · rename_i e
      cases h
      rw [if_pos e.symm]; rfl
    · rename_i e
      obtain ⟨i, h1, rfl⟩ := Option.map_eq_some_iff.mp h
      rw [if_neg fun z => e z.symm, putF_zip_old h1 (by simpa using l)]; rfl
theorem putF_zip_new {f : Str} {x : V} : ∀ {ns : List Str} {vs : List V}, ixOf ns f = none → vs.length = ns.length → putF f x (ns.zip vs) = (ns ++ [f]).zip (vs ++ [x])
  | [], [], _, _ => rfl
  | [], v :: vs, _, l => by simp at l
  | n :: ns, [], h, l => by simp at l
  | n :: ns, v :: vs, h, l => by
    unfold ixOf at h
    rw [List.zip_cons_cons]
    show (if n = f then (n, x) :: ns.zip vs else (n, v) :: putF f x (ns.zip vs)) = _
    split at h
    · cases h
    · rename_i e
      rw [if_neg fun z => e z.symm, putF_zip_new (by simpa using h) (by simpa using l)]; rfl
/-- e.f, of an instance of one of the classes at L -/
def tFldX (ta : TE) (f : Str) (L : List Addr) : TE := fun σ H Q => ta σ H fun x H1 => ∃ a C dx fs v, x = .ref a ∧ H1 a = some (.ins C dx fs) ∧ C ∈ L ∧ fs.lookup f = some v ∧ Q v H1
abbrev cAs (K : PySem.W.Frag) (T : List String) : List Addr := T.map (clsA K)
theorem cAs_mem {c : String} {T : List String} (h : c ∈ T) : clsA K c ∈ cAs K T := List.mem_map_of_mem h
def fldM (T : List String) (f : Str) : (M → List M) × M → Option ((M → List M) × M)
  | (put, .nd (.ins c ns) cs) => if c ∈ T then (ixOf ns f).bind fun j => (cs[j]?).map fun m => (fun m2 => put (.nd (.ins c ns) (cs.set j m2)), m) else none
  | _ => none
def pFld (p : Pt K ta) (f : Str) (T : List String) : Pt K (tFldX ta f (cAs K T)) where
  foc := fun Γ => (p.foc Γ).bind (fldM T f)
  ok := fun {Γ put m σ Hb H F Q} e w k => by
    obtain ⟨⟨put0, m0⟩, e1, e⟩ := Option.bind_eq_some_iff.mp e
    unfold fldM at e
    split at e
    · rename_i put1 c ns cs he
      cases he
      split at e
      · rename_i hc
        obtain ⟨j, e2, e⟩ := Option.bind_eq_some_iff.mp e
        obtain ⟨m1, e3, e⟩ := Option.map_eq_some_iff.mp e
        cases e
        refine p.ok e1 w fun v Hb2 H2 x1 x2 x3 x4 at_ => ?_
        obtain ⟨a, dx, vs, x, rfl, h1, h2, h3, h4, h5⟩ := at_.child e3
        exact ⟨a, _, dx, _, x, rfl, h1, cAs_mem hc, (ixOf_lookup e2).trans h4, k x Hb2 H2 x1 x2 x3 x4 h5⟩
      · cases e
    · cases e
def ixM (k : D) : (M → List M) × M → Option ((M → List M) × M)
  | (put, .nd .lst cs) => match k with
    | .int i => (ixN cs.length i).bind fun j => (cs[j]?).map fun m => (fun m2 => put (.nd .lst (cs.set j m2)), m)
    | _ => none
  | _ => none
def pIxL (p : Pt K ta) (b : Ph K tb) : Pt K (tOp (rIxL K) ta tb) where
  foc := fun Γ => (p.foc Γ).bind fun q => (b.ev Γ).bind fun k => ixM k q
  ok := fun {Γ put m σ Hb H F Q} e w k => by
    obtain ⟨⟨put0, m0⟩, e1, e⟩ := Option.bind_eq_some_iff.mp e
    obtain ⟨kd, e2, e'⟩ := Option.bind_eq_some_iff.mp e
    clear e
    have e := e'
    clear e'
    unfold ixM at e
    split at e
    · rename_i put1 cs he
      cases he
      split at e
      · rename_i i
        obtain ⟨j, e3, e⟩ := Option.bind_eq_some_iff.mp e
        obtain ⟨m1, e4, e⟩ := Option.map_eq_some_iff.mp e
        cases e
        refine p.ok e1 w fun v Hb2 H2 x1 x2 x3 x4 at_ => ?_
        refine b.ok e2 (w.pure x1 x2 x3 x4) fun v2 Hb3 H3 y1 y2 y3 y4 r => ?_
        obtain ⟨a, dx, vs, x, rfl, h1, h2, h3, h4, h5⟩ := (at_.pure y1 y2).child e4
        rw [show v2 = V.int i from r]
        exact ⟨a, vs, i, x, rfl, rfl, SqL.of h1, by unfold atI; rw [h3, e3]; exact h4, k x Hb3 H3 (Evl.Ex.trans x1 y1) (Evl.Ex.trans x2 y2) y3 (x4.trans y4 x2) h5⟩
      · cases e
    · cases e
/-- a datum at a place -/
def imM : (M → List M) × M → Option D
  | (_, .im d) => some d
  | _ => none
def bPt (p : Pt K ta) : Pb K ta where
  ev := fun Γ => (p.foc Γ).bind imM
  ok := fun {Γ d σ Hb H F Q} e w k => by
    obtain ⟨⟨put, m⟩, e1, e⟩ := Option.bind_eq_some_iff.mp e
    unfold imM at e
    split at e
    · rename_i he
      cases he
      cases e
      refine p.ok e1 w fun v Hb2 H2 x1 x2 x3 x4 at_ => ?_
      obtain ⟨F1, rest, h1, _⟩ := at_
      exact k v Hb2 H2 x1 x2 x3 x4 h1.1
    · cases e
/-! ### expressions with effects: Γ after -/
structure Pe (K : PySem.W.Frag) (t : TE) where
  ev : List M → Option (M × List M)
  ok : ∀ {Γ Γ2 : List M} {m : M} {σ : St} {Hb H : Hp} {F : List Addr} {Q : VK}, ev Γ = some (m, Γ2) → WF K Γ σ Hb H F →
    (∀ v Hb2 H2 F2 Fr, WF K Γ2 σ Hb2 H2 F2 → Step Hb H F Hb2 H2 (F2 ++ Fr) → Own K Hb2 H2 m v Fr → (F2 ++ Fr).Nodup → (∀ a ∈ Fr, Hb2 a = none) → Q v H2) → t σ H Q
theorem Step.less {Hb H Hb2 H2 : Hp} {F F2 F3 : List Addr} (s : Step Hb H F Hb2 H2 F2) (h : ∀ a ∈ F3, a ∈ F2) : Step Hb H F Hb2 H2 F3 := ⟨s.eb, s.fr, fun a ha => s.fp a (h a ha), s.nb⟩
def sDropE (p : Pe K te) : Sx K pn (tDrop te) where
  ev := fun Γ => (p.ev Γ).map fun q => .nx q.2
  ok := fun {Γ c σ Hb H F E} e w gg => by
    obtain ⟨⟨m, Γ2⟩, e1, rfl⟩ := Option.map_eq_some_iff.mp e
    exact p.ok e1 w fun v Hb2 H2 F2 Fr w2 s2 o nd fr => gg σ Hb2 H2 F2 w2 (s2.less fun a ha => by simp [ha]) Pin.refl
def sAsgE (i : Nat) (p : Pe K te) : Sx K pn (tAsg te (gName i)) where
  ev := fun Γ => (p.ev Γ).bind fun q => if i < q.2.length ∧ pn i = false then some (.nx (q.2.set i q.1)) else none
  ok := fun {Γ c σ Hb H F E} e w gg => by
    obtain ⟨⟨m, Γ2⟩, e1, e⟩ := Option.bind_eq_some_iff.mp e
    split at e
    · rename_i h
      cases e
      refine p.ok e1 w fun v Hb2 H2 F2 Fr w2 s2 o nd fr => ?_
      rw [List.nodup_append] at nd
      obtain ⟨F3, w3, h3⟩ := w2.put (m := m) (v := v) h.1 o nd.2.1 (fun a ha => ⟨fr a ha, fun hb => nd.2.2 a hb a ha rfl⟩)
      exact gg _ Hb2 H2 F3 w3 (s2.less fun a ha => by rcases h3 a ha with z | z <;> simp [z]) (Pin.set h.2)
    · cases e
def sRetE (p : Pe K te) : Sx K pn (tRet te) where
  ev := fun Γ => (p.ev Γ).map fun q => .rt q.1 q.2
  ok := fun {Γ c σ Hb H F E} e w gg => by
    obtain ⟨⟨m, Γ2⟩, e1, rfl⟩ := Option.map_eq_some_iff.mp e
    exact p.ok e1 w fun v Hb2 H2 F2 Fr w2 s2 o nd fr => gg v σ Hb2 H2 F2 Fr w2 s2 Pin.refl o nd fr

/-! ### calls that change their first argument -/
/-- vs = self and values; self is the own thing m0, afterwards m1 -/
def spI (K : PySem.W.Frag) (G : M → List D → Option (M × M)) : Sp := fun vs H Q _ => ∃ (Hb : Hp) (self : V) (rest : List V) (F : List Addr) (m0 : M) (ds : List D) (m m1 : M), vs = self :: rest ∧ Ex Hb H ∧ reps K Hb ds rest ∧ m0 ≠ .emp ∧ Own K Hb H m0 self F ∧ F.Nodup ∧ (∀ a ∈ F, Hb a = none) ∧ G m0 ds = some (m, m1) ∧
  ∀ v Hb2 H2 F2 Fr, Ex Hb Hb2 → Ex Hb2 H2 → (∀ a o, H a = some o → a ∉ F → H2 a = some o) → Own K Hb2 H2 m1 self F2 → Own K Hb2 H2 m v Fr → (F2 ++ Fr).Nodup → (∀ a ∈ F2 ++ Fr, Hb2 a = none ∧ (a ∈ F ∨ H a = none)) → (∀ a, Hb2 a ≠ none → Hb a ≠ none ∨ a ∈ F ∨ H a = none) → Q v H2
def pn1 : Nat → Bool := fun i => i == 0
def outI : Ct → Option (M × M)
  | .nx Γ => (Γ[0]?).bind fun m1 => match m1 with | .emp => none | m1 => some (.im .non, m1)
  | .rt m Γ => (Γ[0]?).bind fun m1 => match m1 with | .emp => none | m1 => some (m, m1)
  | _ => none
def startI (n : Nat) (m0 : M) (ds : List D) : List M := m0 :: (ds.map M.im ++ List.replicate (n - (ds.length + 1)) .emp)
def runI (np n : Nat) (ev : List M → Option Ct) (m0 : M) (ds : List D) : Option (M × M) := if ds.length + 1 = np then (ev (startI n m0 ds)).bind outI else none
theorem wf_startI {Hb H : Hp} {N : List Str} {m0 : M} {self : V} {F : List Addr} {ds : List D} {vs : List V} (e : Ex Hb H) (hm : m0 ≠ .emp) (o : Own K Hb H m0 self F) (nd : F.Nodup) (fh : ∀ a ∈ F, Hb a = none) (h : reps K Hb ds vs) : WF K (startI N.length m0 ds) (L2.start N (self :: vs)) Hb H F := by
  refine ⟨e, ?_, nd, fh⟩
  unfold startI L2.start
  refine ⟨some self, _, F, [], rfl, ?_, ?_, by simp⟩
  · cases m0 with
    | emp => exact absurd rfl hm
    | im d => exact ⟨self, rfl, o⟩
    | nd sh cs => exact ⟨self, rfl, o⟩
  · rw [show ds.length + 1 = (self :: vs).length by rw [List.length_cons, reps_len h]]
    exact ownS_start _ h
theorem slot0 {Hb H : Hp} {m1 : M} {Γ : List M} {σ : St} {F : List Addr} {self : V} {n : Nat} (w : WF K Γ σ Hb H F) (h : Γ[0]? = some m1) (hm : m1 ≠ .emp) (hs : σ[0]? = some (some self)) : ∃ F2 B, Own K Hb H m1 self F2 ∧ F = F2 ++ B := by
  match Γ, σ, h, hs, w.own with
  | m :: Γ, s :: σ, h, hs, ⟨s', r, F1, F2, e, h1, h2, e2⟩ =>
    cases e
    simp at h hs
    subst h hs
    refine ⟨F1, F2, ?_, e2⟩
    cases m with
    | emp => exact absurd rfl hm
    | im d => obtain ⟨v, e, o⟩ := h1; cases e; exact o
    | nd sh cs => obtain ⟨v, e, o⟩ := h1; cases e; exact o
theorem inout_body {t : TS} {N : List Str} {vs : List V} {H : Hp} {Q : VK} {E : XK} {np n : Nat} (b : Sx K pn1 t) (h : spI K (runI np n b.ev) vs H Q E) (hn : N.length = n := by rfl) : t { nx := fun _ H' => Q .non H', rt := Q } (L2.start N vs) H := by
  subst hn
  obtain ⟨Hb, self, rest, F, m0, ds, m, m1, rfl, e, r, hm, o, nd, fh, run, k⟩ := h
  unfold runI at run
  split at run
  · obtain ⟨c, e1, e2⟩ := Option.bind_eq_some_iff.mp run
    refine b.ok e1 (wf_startI e hm o nd fh r) ?_
    have p0 : ∀ {σ2 : St}, Pin pn1 (L2.start N (self :: rest)) σ2 → σ2[0]? = some (some self) := fun p => (p 0 rfl).trans rfl
    cases c with
    | nx Γ2 =>
      simp only [outI] at e2
      obtain ⟨m1', e3, e4⟩ := Option.bind_eq_some_iff.mp e2
      intro σ2 Hb2 H2 F2 w s p
      have hm1 : m1' ≠ .emp := by intro z; subst z; cases e4
      have e5 : m = .im .non ∧ m1 = m1' := by
        cases m1' with
        | emp => cases e4
        | im d => cases e4; exact ⟨rfl, rfl⟩
        | nd sh cs => cases e4; exact ⟨rfl, rfl⟩
      obtain ⟨rfl, rfl⟩ := e5
      obtain ⟨Fs, B, os, rfl⟩ := slot0 (n := 0) w e3 hm1 (p0 p)
      have nd2 := w.nd
      rw [List.nodup_append] at nd2
      exact k .non Hb2 H2 Fs [] s.eb w.ex s.fr os ⟨rfl, rfl⟩ (by rw [List.append_nil]; exact nd2.1) (fun a ha => by rw [List.append_nil] at ha; exact ⟨w.fh a (by simp [ha]), s.fp a (by simp [ha])⟩) s.nb
    | rt mr Γ2 =>
      simp only [outI] at e2
      obtain ⟨m1', e3, e4⟩ := Option.bind_eq_some_iff.mp e2
      intro v σ2 Hb2 H2 F2 Fr w s p o2 nd2 fr
      have hm1 : m1' ≠ .emp := by intro z; subst z; cases e4
      have e5 : m = mr ∧ m1 = m1' := by
        cases m1' with
        | emp => cases e4
        | im d => cases e4; exact ⟨rfl, rfl⟩
        | nd sh cs => cases e4; exact ⟨rfl, rfl⟩
      obtain ⟨rfl, rfl⟩ := e5
      obtain ⟨Fs, B, os, rfl⟩ := slot0 (n := 0) w e3 hm1 (p0 p)
      have hn : (Fs ++ Fr).Nodup := by
        rw [List.nodup_append] at nd2 ⊢
        obtain ⟨q1, q2, q3⟩ := nd2
        exact ⟨(List.nodup_append.mp q1).1, q2, fun a ha b hb => q3 a (by simp [ha]) b hb⟩
      refine k v Hb2 H2 Fs Fr s.eb w.ex s.fr os o2 hn (fun a ha => ?_) s.nb
      rcases List.mem_append.mp ha with z | z
      · exact ⟨w.fh a (by simp [z]), s.fp a (by simp [z])⟩
      · exact ⟨fr a z, s.fp a (by simp [z])⟩
    | bk Γ2 => cases e2
    | ct Γ2 => cases e2
  · cases run
theorem spI_len {G : M → List D → Option (M × M)} {n : Nat} (hG : ∀ m0 ds q, G m0 ds = some q → ds.length + 1 = n) : ∀ vs H Q E, spI K G vs H Q E → vs.length = n := fun vs H Q E h => by
  obtain ⟨Hb, self, rest, F, m0, ds, m, m1, rfl, e, r, hm, o, nd, fh, run, k⟩ := h
  rw [List.length_cons, reps_len r, hG m0 ds _ run]
theorem runI_len {np n : Nat} {ev : List M → Option Ct} : ∀ m0 ds q, runI np n ev m0 ds = some q → ds.length + 1 = np := fun m0 ds q h => by
  unfold runI at h
  split at h
  · assumption
  · cases h
theorem spI_imp {G G' : M → List D → Option (M × M)} (h : ∀ m0 ds q, G' m0 ds = some q → G m0 ds = some q) : ∀ vs H Q E, spI K G' vs H Q E → spI K G vs H Q E :=
  fun vs H Q E ⟨Hb, self, rest, F, m0, ds, m, m1, ev, e, r, hm, o, nd, fh, run, k⟩ => ⟨Hb, self, rest, F, m0, ds, m, m1, ev, e, r, hm, o, nd, fh, h m0 ds _ run, k⟩
/-- the call itself, from a place -/
theorem call_at {G : M → List D → Option (M × M)} {Γ : List M} {σ : St} {Hb H : Hp} {F : List Addr} {put : M → List M} {m0 m m1 : M} {v : V} {ds : List D} {vs : List V} {Q : VK} {E : XK} (w : WF K Γ σ Hb H F) (h : At K σ Hb H F put m0 v) (hm : m0 ≠ .emp) (r : reps K Hb ds vs) (hG : G m0 ds = some (m, m1))
    (k : ∀ x Hb2 H2 F2 Fr, WF K (put m1) σ Hb2 H2 F2 → Step Hb H F Hb2 H2 (F2 ++ Fr) → Own K Hb2 H2 m x Fr → (F2 ++ Fr).Nodup → (∀ a ∈ Fr, Hb2 a = none) → Q x H2) : spI K G (v :: vs) H Q E := by
  have h0 := h
  obtain ⟨F1, rest, h1, h2, h3⟩ := h
  have nd := h2.nodup_iff.mp w.nd
  rw [List.nodup_append] at nd
  obtain ⟨n1, n2, n3⟩ := nd
  have hrest : ∀ a ∈ rest, a ∈ F := fun a ha => h2.mem_iff.mpr (by simp [ha])
  have hF1 : ∀ a ∈ F1, a ∈ F := fun a ha => h2.mem_iff.mpr (by simp [ha])
  have nr : ∀ a ∈ rest, a ∉ F1 := fun a ha hb => n3 a hb a ha rfl
  refine ⟨Hb, v, vs, F1, m0, ds, m, m1, rfl, w.ex, r, hm, h1, n1, fun a ha => w.fh a (hF1 a ha), hG, fun x Hb2 H2 F2 Fr e1 e2 fr o1 o2 nd2 f2 nb => ?_⟩
  rw [List.nodup_append] at nd2
  obtain ⟨q1, q2, q3⟩ := nd2
  obtain ⟨F3, g1, g2⟩ := h3 Hb2 H2 m1 F2 e1 (fun a ha u hu => fr a u hu (nr a ha)) o1
  have m3 : ∀ {a}, a ∈ F3 → a ∈ F2 ∨ a ∈ rest := fun ha => List.mem_append.mp (g2.mem_iff.mp ha)
  have out : ∀ a ∈ rest, ∀ b ∈ F2 ++ Fr, a ≠ b := fun a ha b hb e => by
    subst e
    rcases (f2 a hb).2 with z | z
    · exact nr a ha z
    · exact w.own.there a (hrest a ha) z
  refine k x Hb2 H2 F3 Fr ⟨e2, g1, ?_, fun a ha => ?_⟩ ⟨e1, fun a u hu hf => fr a u hu fun z => hf (hF1 a z), fun a ha => ?_, fun a ha => ?_⟩ o2 ?_ (fun a ha => (f2 a (by simp [ha])).1)
  · refine g2.nodup_iff.mpr ?_
    rw [List.nodup_append]
    exact ⟨q1, n2, fun a ha b hb e => out b hb a (by simp [ha]) e.symm⟩
  · rcases m3 ha with z | z
    · exact (f2 a (by simp [z])).1
    · cases q : Hb2 a with
      | none => rfl
      | some u =>
        rcases nb a (by rw [q]; simp) with y | y | y
        · exact absurd (w.fh a (hrest a z)) y
        · exact absurd y (nr a z)
        · exact absurd y (w.own.there a (hrest a z))
  · rcases List.mem_append.mp ha with z | z
    · rcases m3 z with z | z
      · exact (f2 a (by simp [z])).2.elim (fun y => .inl (hF1 a y)) .inr
      · exact .inl (hrest a z)
    · exact (f2 a (by simp [z])).2.elim (fun y => .inl (hF1 a y)) .inr
  · exact (nb a ha).elim .inl fun y => .inr (y.elim (fun y => .inl (hF1 a y)) .inr)
  · rw [List.nodup_append]
    refine ⟨g2.nodup_iff.mpr ?_, q2, fun a ha b hb e => ?_⟩
    · rw [List.nodup_append]
      exact ⟨q1, n2, fun a ha b hb e => out b hb a (by simp [ha]) e.symm⟩
    · subst e
      rcases m3 ha with z | z
      · exact q3 a z a hb rfl
      · exact out a z a (by simp [hb]) rfl
end
end KS

namespace KS
open PySem PySem.Spec PyProof.Rows L2

/-! ### rules -/
structure FOk (K : PySem.W.Frag) (f : Str) (L : List Addr) : Prop where
  ok : ∀ C ∈ L, Cls K C ∧ NoAttr K C f
theorem FOk.nil {K : PySem.W.Frag} {f : Str} : FOk K f [] := ⟨fun C h => nomatch h⟩
theorem FOk.cons {K : PySem.W.Frag} {f : Str} {C : Addr} {L : List Addr} (c : Cls K C) (n : NoAttr K C f) (r : FOk K f L) : FOk K f (C :: L) := ⟨fun D h => by
  rcases List.mem_cons.mp h with rfl | h
  · exact ⟨c, n⟩
  · exact r.ok D h⟩
/-- e.f = value -/
def sFldX (ta tv : TE) (f : Str) (L : List Addr) : TS := fun D σ H => tv σ H fun y H1 => ta σ H1 fun x H2 => ∃ a C dx fs, x = .ref a ∧ H2 a = some (.ins C dx fs) ∧ C ∈ L ∧ fs.length < 1000 ∧ D.nx σ (upd H2 a (.ins C dx (putF f y fs)))
/-- e.f op= value -/
def sFldAugX (ta tv : TE) (rd : V → V → Hp → VK → Prop) (f : Str) (L : List Addr) : TS := fun D σ H => ta σ H fun x H1 => ∃ a C dx fs v, x = .ref a ∧ H1 a = some (.ins C dx fs) ∧ C ∈ L ∧ fs.lookup f = some v ∧
  tv σ H1 fun y H2 => rd v y H2 fun z H3 => ∃ dx' fs', H3 a = some (.ins C dx' fs') ∧ fs'.length < 1000 ∧ D.nx σ (upd H3 a (.ins C dx' (putF f z fs')))
section
variable {X : Cx} {o e value : Expr} {f : Str} {pos pos' tpos : Pos} {ta tv : TE} {L : List Addr}
theorem pe_fldX (T : FOk X.K f L) (he : PE X e ta) (hb : attributeBase e f X.env (eval e X.env) = eval e X.env) : PE X (.Attribute e f pos) (tFldX ta f L) := by
  refine ⟨fun pins s σ H Q I h => ?_⟩
  refine attr_of hb (thn (he.run pins s σ H _ I h) fun u s1 ⟨x, H1, I1, rx, a, C, dx, fs, v, ex, ea, hC, l, q⟩ => ?_)
  subst ex
  obtain rfl : u = Value.ref a := rx
  obtain ⟨c, n⟩ := T.ok C hC
  exact getattr_ok I1 ea c n l fun u' s2 I2 ru => ⟨v, H1, I2, ru, q⟩
theorem ps_fldX (T : FOk X.K f L) (ha : PE X o ta) (hv : PE X value tv) (hs : swapsWith value (some (.Attribute o f pos')) pos.line X.env = pure false) : PS X (.Assign [.Attribute o f pos'] value pos) (sFldX ta tv f L) := by
  refine ⟨fun pins s σ H D I h => ?_⟩
  refine plainObj_wpAny_Assign_Attribute (thn (hv.run pins s σ H _ I h) fun u s1 ⟨y, H1, I1, ry, q⟩ => thn (ha.run pins s1 σ H1 _ I1 q) fun ov s2 ⟨x, H2, I2, rx, a, C, dx, fs, ex, ea, hC, l, q2⟩ => ?_) hs
  subst ex
  obtain rfl : ov = Value.ref a := rx
  obtain ⟨c, n⟩ := T.ok C hC
  exact setattr_ok I2 ea c n l ry fun s3 I3 => ⟨σ, _, I3, q2⟩
theorem ps_fldaugX {op : Operator} {rd : V → V → Hp → VK → Prop} (T : FOk X.K f L) (ha : PE X o ta) (hv : PE X value tv) (hop : InOp X op rd) : PS X (.AugAssign (.Attribute o f tpos) op value pos) (sFldAugX ta tv rd f L) := by
  refine ⟨fun pins s σ H D I h => ?_⟩
  refine wpAny_AugAssign_AttributeAny (thn (ha.run pins s σ H _ I h) fun ov s1 ⟨x, H1, I1, rx, a, C, dx, fs, v, ex, ea, hC, l, q⟩ => ?_)
  subst ex
  obtain rfl : ov = Value.ref a := rx
  obtain ⟨c, n⟩ := T.ok C hC
  refine getattr_ok I1 ea c n l fun u s2 I2 ru => thn (hv.run pins s2 σ H1 _ I2 q) fun w3 s3 ⟨y, H2, I3, ry, q3⟩ => thn (hop pins s3 σ H2 v y u w3 _ I3 ru ry q3) fun w4 s4 ⟨z, H3, I4, rz, dx', fs', ea', l', q4⟩ => ?_
  exact setattr_ok I4 ea' c n l' rz fun s5 I5 => ⟨σ, _, I5, q4⟩
end
/-- a class's method: its promise, its defaults' values -/
def MtE (P : Program) (w : World) (K : PySem.W.Frag) (mg : Str → Option Value) (base : Heap) (CX : CXT) (k : Nat) (m : Str) (q : Addr × Sp × List V) : Prop :=
  ∃ (f : Addr) (fd : FuncData) (ps : List Str) (ds : List Value), Cls K q.1 ∧ Meth K q.1 m f ∧ FnOk P w K mg base CX k f fd ps q.2.1 ∧ Binds K fd ps ds ∧ Vals q.2.2 ds
theorem MtE.mk {P : Program} {w : World} {K : PySem.W.Frag} {mg : Str → Option Value} {base : Heap} {CX : CXT} {j k : Nat} {m : Str} {C f : Addr} {fd : FuncData} {ps : List Str} {ds : List Value} {sp : Sp} {dvs : List V} (c : Cls K C) (hm : Meth K C m f) (F : FnOk P w K mg base CX j f fd ps sp) (hk : j ≤ k) (b : Binds K fd ps ds) (d : Vals dvs ds) :
    MtE P w K mg base CX k m (C, sp, dvs) := ⟨f, fd, ps, ds, c, hm, F.mono hk, b, d⟩
structure AllM (P : Program) (w : World) (K : PySem.W.Frag) (mg : Str → Option Value) (base : Heap) (CX : CXT) (k : Nat) (m : Str) (L : List (Addr × Sp × List V)) : Prop where
  ok : ∀ q ∈ L, MtE P w K mg base CX k m q
theorem AllM.nil {P : Program} {w : World} {K : PySem.W.Frag} {mg : Str → Option Value} {base : Heap} {CX : CXT} {k : Nat} {m : Str} : AllM P w K mg base CX k m [] := ⟨fun q h => nomatch h⟩
theorem AllM.cons {P : Program} {w : World} {K : PySem.W.Frag} {mg : Str → Option Value} {base : Heap} {CX : CXT} {k : Nat} {m : Str} {q : Addr × Sp × List V} {L : List (Addr × Sp × List V)} (h : MtE P w K mg base CX k m q) (r : AllM P w K mg base CX k m L) : AllM P w K mg base CX k m (q :: L) := ⟨fun z hz => by
  rcases List.mem_cons.mp hz with rfl | hz
  · exact h
  · exact r.ok z hz⟩
/-- o.m(..), o an instance of one of the classes of L -/
def tMethX (m : Str) (L : List (Addr × Sp × List V)) (E : XK) (ta : TE) (t : TA) : TE := fun σ H Q => ta σ H fun x H1 => ∃ a dx fs q, x = .ref a ∧ H1 a = some (.ins q.1 dx fs) ∧ q ∈ L ∧ fs.lookup m = none ∧ t σ H1 fun vs H2 => q.2.1 (x :: (vs ++ q.2.2)) H2 Q E
section
variable {X : Cx} {CX : CXT} {k : Nat} {L : List (Addr × Sp × List V)} {E : XK} {m : Str} {pos apos : Pos} {e o : Expr} {es : List Expr} {ta : TE} {t : TA}
theorem pe_methX {pl : Sem Bool} (T : AllM X.prog X.w X.K X.mg X.base CX k m L) (hr : Room k X.A) (hx : Passes CX X E) (he : PE X o ta) (ha : PA X (e :: es) t)
    (hst : starEach (e :: es) X.env = (false, eval e X.env) :: starEach es X.env := by rfl) (hpl : (backTo pos (starEach es X.env)).any (·.1) = false := by rfl)
    (ht : eval (.Call (.Attribute o m apos) (e :: es) [] pos) X.env = (do
      let ov ← eval o X.env
      standAt apos.atName
      let (f, first) ← holding [ov] (getMethod ov m pl)
      callWith pos f first (backTo pos (starEach (e :: es) X.env)) (backToKw pos (keywordEach [] X.env))) := by rfl) :
    PE X (.Call (.Attribute o m apos) (e :: es) [] pos) (tMethX m L E ta t) := by
  refine ⟨fun pins s σ H Q I h => ?_⟩
  refine PySem.W.methodCall_KW (pl := pl) (thn (he.run pins s σ H _ I h) fun u s1 ⟨x, H1, I1, rx, a, dx, fs, q, ex, ea, hq, l, q1⟩ => ?_) ht
  subst ex
  obtain rfl : u = Value.ref a := rx
  obtain ⟨f, fd, ps, ds, c, hm, F, hb, hd⟩ := T.ok q hq
  refine getmeth_ok I1 ea c hm l ?_
  refine PySem.W.callWith_K (first := [.ref a]) (h₀ := X.base) I.ok.mod.kin hm.kp (thn (ha.run pos pins s1 σ H1 _ I1 q1) fun us s2 ⟨vs, H2, I2, r, q2⟩ => ⟨I2.kIn, ?_⟩) hst hpl
  exact run_fn (us := .ref a :: us) (vs := .ref a :: vs) F hr hb hd hx I2 (.cons rfl r) q2
theorem pe_methX0 {pl : Sem Bool} (T : AllM X.prog X.w X.K X.mg X.base CX k m L) (hr : Room k X.A) (hx : Passes CX X E) (he : PE X o ta)
    (ht : eval (.Call (.Attribute o m apos) [] [] pos) X.env = (do
      let ov ← eval o X.env
      standAt apos.atName
      let (f, first) ← holding [ov] (getMethod ov m pl)
      callWith pos f first (backTo pos (starEach [] X.env)) (backToKw pos (keywordEach [] X.env))) := by rfl) :
    PE X (.Call (.Attribute o m apos) [] [] pos) (tMethX m L E ta tNil) := by
  refine ⟨fun pins s σ H Q I h => ?_⟩
  refine PySem.W.methodCall_KW (pl := pl) (thn (he.run pins s σ H _ I h) fun u s1 ⟨x, H1, I1, rx, a, dx, fs, q, ex, ea, hq, l, q1⟩ => ?_) ht
  subst ex
  obtain rfl : u = Value.ref a := rx
  obtain ⟨f, fd, ps, ds, c, hm, F, hb, hd⟩ := T.ok q hq
  refine getmeth_ok I1 ea c hm l ?_
  exact PySem.W.callWith_K0 (first := [.ref a]) I1.kIn hm.kp (run_fn (us := [.ref a]) (vs := [.ref a]) F hr hb hd hx I1 (.cons rfl .nil) q1)
/-- C.m(e, ..), m a def of the class at C (or of one above it): a plain call -/
theorem pe_clsfn {C f : Addr} {x : Str} {fd : FuncData} {ps : List Str} {sp : Sp} {dvs : List V} {ds : List Value} {p1 p2 : Pos} {pl : Sem Bool} (rd : PySem.W.readsIn X.K C (.type "type") = true) (ga : PySem.W.specialIn X.K (.ref C) "__getattribute__" = some (some (.builtin "type.__getattribute__")))
    (at_ : PySem.W.findCls X.K (.ref C) (.type "type") m = some (.val (.ref f))) (kp : PySem.W.keepIn X.K (.ref f) = true) (F : FnOk X.prog X.w X.K X.mg X.base CX k f fd ps sp) (hr : Room k X.A) (hg : Gl X x) (hm : X.mg x = some (.ref C)) (hb : Binds X.K fd ps ds) (hd : Vals dvs ds) (hx : Passes CX X E)
    (ha : PA X (e :: es) t) (hdb : (x == ("__debug__" : Str)) = false := by decide)
    (hc : eval (.Call (.Attribute (.Name x p1) m p2) (e :: es) [] pos) X.env = (do
      let ov ← eval (.Name x p1) X.env
      standAt p2.atName
      let (f, first) ← holding [ov] (getMethod ov m pl)
      callWith pos f first (backTo pos (starEach (e :: es) X.env)) (backToKw pos (keywordEach [] X.env))) := by rfl)
    (he : starEach (e :: es) X.env = (false, eval e X.env) :: starEach es X.env := by rfl) (hpl : (backTo pos (starEach es X.env)).any (·.1) = false := by rfl) :
    PE X (.Call (.Attribute (.Name x p1) m p2) (e :: es) [] pos) (tCall sp dvs E t) := by
  refine ⟨fun pins s σ H Q I h => ?_⟩
  refine PySem.W.methodCall_KW (ld_glob I hg hm ?_ hdb) hc
  refine PySem.W.method_cls I.kIn ga (PySem.W.cls_value I.kIn rd at_ rfl ?_)
  have I1 := I.tok (s.toks + 1)
  show wpAny _ _ (callWith pos (Value.ref f) [] (backTo pos (starEach (e :: es) X.env)) []) _ _ _
  refine PySem.W.callWith_K (first := []) (h₀ := X.base) I.ok.mod.kin kp (thn (ha.run pos pins _ σ H _ I1 h) fun us s2 ⟨vs, H2, I2, r, q2⟩ => ⟨I2.kIn, ?_⟩) he hpl
  exact run_fn F hr hb hd hx I2 r q2
end

/-! ### fields of data -/
section
variable {K : PySem.W.Frag} {pn : Nat → Bool} {ta tb tc te ti : TE} {tr : TA} {t u : TT} {ts ts' tS : TS} {g : TG} {gs : TGs} {wi : TI} {Γ : List M}
def fldD (T : List String) (f : Str) : D → Option D
  | .obj c ns l => if c ∈ T then (ixOf ns f).bind fun j => l[j]? else none
  | _ => none
theorem fldD_rep {H : Hp} {T : List String} {f : Str} {x d : D} {v : V} (e : fldD T f x = some d) (r : rep K H x v) : ∃ a C dx fs z, v = .ref a ∧ H a = some (.ins C dx fs) ∧ C ∈ cAs K T ∧ fs.lookup f = some z ∧ rep K H d z := by
  unfold fldD at e
  split at e
  · rename_i c ns l
    split at e
    · rename_i hc
      obtain ⟨j, e1, e2⟩ := Option.bind_eq_some_iff.mp e
      obtain ⟨a, dx, xs, rfl, h1, h2, h3⟩ := r
      obtain ⟨z, e3, e4⟩ := reps_get' h3 e2
      exact ⟨a, _, dx, _, z, rfl, h1, cAs_mem hc, (ixOf_lookup e1).trans e3, e4⟩
    · cases e
  · cases e
def bFld (a : Pb K ta) (f : Str) (T : List String) : Pb K (tFldX ta f (cAs K T)) where
  ev := fun Γ => (a.ev Γ).bind (fldD T f)
  ok := fun {Γ d σ Hb H F Q} e w k => by
    obtain ⟨x, e1, e⟩ := Option.bind_eq_some_iff.mp e
    refine a.ok e1 w fun v Hb2 H2 x1 x2 x3 x4 r => ?_
    obtain ⟨p, C, dx, fs, z, rfl, h1, h2, h3, h4⟩ := fldD_rep e r
    exact ⟨p, C, dx, fs, z, rfl, x3 _ _ h1, h2, h3, k z Hb2 H2 x1 x2 x3 x4 h4⟩
def hFld (a : Ph K ta) (f : Str) (T : List String) : Ph K (tFldX ta f (cAs K T)) where
  ev := fun Γ => (a.ev Γ).bind (fldD T f)
  ok := fun {Γ d σ Hb H F Q} e w k => by
    obtain ⟨x, e1, e⟩ := Option.bind_eq_some_iff.mp e
    refine a.ok e1 w fun v Hb2 H2 x1 x2 x3 x4 r => ?_
    obtain ⟨p, C, dx, fs, z, rfl, h1, h2, h3, h4⟩ := fldD_rep e r
    exact ⟨p, C, dx, fs, z, rfl, h1, h2, h3, k z Hb2 H2 x1 x2 x3 x4 h4⟩
/-! ### data as new things -/
def Pb.o (p : Pb K ta) : Po K ta where
  ev := fun Γ => (p.ev Γ).map .im
  ok := fun {Γ m σ Hb H F Q} e w k => by
    obtain ⟨d, e1, rfl⟩ := Option.map_eq_some_iff.mp e
    exact p.ok e1 w fun v Hb2 H2 x1 x2 x3 x4 r => k v Hb2 H2 [] x1 x2 x3 x4 ⟨r, rfl⟩ List.nodup_nil (fun a h => by cases h)
/-! ### changes at a place -/
theorem ownL_app {Hb H : Hp} : ∀ {ms ns : List M} {vs ws : List V} {F F' : List Addr}, OwnL K Hb H ms vs F → OwnL K Hb H ns ws F' → OwnL K Hb H (ms ++ ns) (vs ++ ws) (F ++ F')
  | [], ns, vs, ws, F, F', h, g => by
    obtain ⟨rfl, rfl⟩ := h
    exact g
  | m :: ms, ns, vs, ws, F, F', h, g => by
    obtain ⟨v, r, F1, F2, rfl, h1, h2, rfl⟩ := h
    exact ⟨v, r ++ ws, F1, F2 ++ F', rfl, h1, ownL_app h2 g, by simp⟩
theorem own_upd {Hb H : Hp} {m : M} {v : V} {F : List Addr} {a : Addr} {o : HO} (h : Own K Hb H m v F) (ha : a ∉ F) : Own K Hb (upd H a o) m v F :=
  Own.keep (Evl.Ex.refl _) h fun b hb u hu => by
    have : b ≠ a := fun z => ha (z ▸ hb)
    rw [upd_ne this]; exact hu
/-- the step of a change behind a pure one -/
theorem Step.chg {Hb H Hb1 H1 H2 : Hp} {F F2 Fr : List Addr} (x1 : Ex Hb Hb1) (x2 : Ex H H1) (x4 : NB Hb Hb1 H) (hF : ∀ a ∈ F, H a ≠ none) (fr : ∀ a u, H1 a = some u → a ∉ F → H2 a = some u) (sub : ∀ a ∈ F2, a ∈ F ∨ a ∈ Fr) (hfr : ∀ a ∈ Fr, H a = none) : Step Hb H F Hb1 H2 F2 :=
  ⟨x1, fun a o h hf => fr a o (x2 a o h) hf, fun a ha => (sub a ha).imp id (hfr a), fun a ha => (x4 a ha).elim .inl fun z => .inr (.inr z)⟩
/-- path.append(e) -/
def appM (m : M) : (M → List M) × M → Option (List M)
  | (put, .nd .lst cs) => if lineD (cs.length + 1) then some (put (.nd .lst (cs ++ [m]))) else none
  | _ => none
def sAppP (p : Pt K ta) (e : Po K te) : Sx K pn (tDrop (tBM K "list" rAppend ta (tCons te tNil))) where
  ev := fun Γ => (p.foc Γ).bind fun q => (e.ev Γ).bind fun m => (appM m q).map .nx
  ok := fun {Γ c σ Hb H F E} e0 w gg => by
    obtain ⟨⟨put, m0⟩, e1, e0'⟩ := Option.bind_eq_some_iff.mp e0
    obtain ⟨m, e2, e3⟩ := Option.bind_eq_some_iff.mp e0'
    obtain ⟨Γ2, e4, rfl⟩ := Option.map_eq_some_iff.mp e3
    unfold appM at e4
    split at e4
    · rename_i put1 cs he
      cases he
      split at e4
      · rename_i hl
        cases e4
        refine p.ok e1 w fun v Hb1 H1 x1 x2 x3 x4 at_ => ?_
        have w1 := w.pure x1 x2 x3 x4
        obtain ⟨a0, dx0, vs0, Fc0, rfl, a1, _⟩ := At.node (Fr := []) w1 at_ (fun a h => by cases h)
        refine Or.inl ⟨rfl, vs0, SqL.of a1⟩ |> fun z => ⟨z, ?_⟩
        refine e.ok e2 w1 fun y Hb2 H2 Fr y1 y2 y3 y4 o nd fr => ?_
        have w2 := w1.pure y1 y2 y3 y4
        have hF1 : ∀ a ∈ F, H1 a ≠ none := w1.own.there
        obtain ⟨a, dx, vs, Fc, ea, h1, h2, h3, h4, h5, h6, h7, h8⟩ := At.node (Fr := Fr) w2 (at_.pure y1 y2) (fun a ha => ⟨fun z => hF1 a z (fr a ha).2, (fr a ha).1⟩)
        cases ea
        have hlen : vs.length + 1 ≤ 100000 := by rw [ownL_len h3]; exact of_decide_eq_true hl
        obtain ⟨F3, g1, g2, g3⟩ := h8 .lst (cs ++ [m]) (vs ++ [y]) (Fc ++ Fr) True.intro (ownL_app (ownL_upd h3 h4) ⟨y, [], Fr, [], rfl, own_upd o h6, ⟨rfl, rfl⟩, by simp⟩) (List.nodup_append.mpr ⟨h5, nd, fun b hb c hc z => h7 b hb (z ▸ hc)⟩)
          (fun z => (List.mem_append.mp z).elim h4 h6) (fun b hb => List.mem_append.mp hb)
        exact ⟨a0, vs, y, rfl, rfl, h1, Nat.lt_of_lt_of_le (Nat.lt_succ_self _) (Evl.sz_of hlen), gg σ Hb2 _ F3 g1 (Step.chg (Evl.Ex.trans x1 y1) (Evl.Ex.trans x2 y2) (x4.trans y4 x2) w.own.there g2 g3 fun b hb => none_of_ex x2 (fr b hb).2) Pin.refl⟩
      · cases e4
    · cases e4
/-- path.f = e -/
def fldS (T : List String) (f : Str) (m : M) : (M → List M) × M → Option (List M)
  | (put, .nd (.ins c ns) cs) => if c ∈ T ∧ ns.length < 900 then match ixOf ns f with
    | some j => some (put (.nd (.ins c ns) (cs.set j m)))
    | none => some (put (.nd (.ins c (ns ++ [f])) (cs ++ [m])))
    else none
  | _ => none
def sFldP (p : Pt K ta) (f : Str) (T : List String) (e : Po K te) : Sx K pn (sFldX ta te f (cAs K T)) where
  ev := fun Γ => (e.ev Γ).bind fun m => (p.foc Γ).bind fun q => (fldS T f m q).map .nx
  ok := fun {Γ c σ Hb H F E} e0 w gg => by
    obtain ⟨m, e2, e0'⟩ := Option.bind_eq_some_iff.mp e0
    obtain ⟨⟨put, m0⟩, e1, e3⟩ := Option.bind_eq_some_iff.mp e0'
    obtain ⟨Γ2, e4, rfl⟩ := Option.map_eq_some_iff.mp e3
    unfold fldS at e4
    split at e4
    · rename_i put1 c ns cs he
      cases he
      split at e4
      · rename_i hc
        refine e.ok e2 w fun y Hb1 H1 Fr x1 x2 x3 x4 o nd fr => ?_
        have w1 := w.pure x1 x2 x3 x4
        refine p.ok e1 w1 fun v Hb2 H2 y1 y2 y3 y4 at_ => ?_
        have w2 := w1.pure y1 y2 y3 y4
        have hFr : ∀ a ∈ Fr, a ∉ F ∧ Hb2 a = none := fun a ha => ⟨fun z => w.own.there a z (fr a ha).2, by
          cases q : Hb2 a with
          | none => rfl
          | some u =>
            rcases y4 a (by rw [q]; simp) with z | z
            · exact absurd (fr a ha).1 z
            · exact absurd z (o.there a ha)⟩
        obtain ⟨a, dx, vs, Fc, rfl, h1, h2, h3, h4, h5, h6, h7, h8⟩ := At.node (Fr := Fr) w2 at_ hFr
        have o2 : Own K Hb2 (H2) m y Fr := o.keep y1 fun b _ u hu => y2 b u hu
        have l1 : vs.length = ns.length := h2.symm
        refine ⟨a, _, dx, _, rfl, h1, cAs_mem hc.1, by rw [List.length_zip]; omega, ?_⟩
        have fin : ∀ (sh2 : Sh) (cs2 : List M) (vs2 : List V) (Fc2 : List Addr), Ct.nx Γ2 = Ct.nx (put (.nd sh2 cs2)) → HO.ins (clsA K c) dx (putF f y (ns.zip vs)) = sh2.ho K dx vs2 → sh2.fit vs2.length → (∀ o', OwnL K Hb2 (upd H2 a o') cs2 vs2 Fc2) → Fc2.Nodup → a ∉ Fc2 → (∀ b ∈ Fc2, b ∈ Fc ∨ b ∈ Fr) → E.nx σ (upd H2 a (HO.ins (clsA K c) dx (putF f y (ns.zip vs)))) := by
          intro sh2 cs2 vs2 Fc2 q0 q1 q2 q3 q4 q5 q6
          cases q0
          obtain ⟨F3, g1, g2, g3⟩ := h8 sh2 cs2 vs2 Fc2 q2 (q3 _) q4 q5 q6
          rw [q1]
          exact gg σ Hb2 _ F3 g1 (Step.chg (Evl.Ex.trans x1 y1) (Evl.Ex.trans x2 y2) (x4.trans y4 x2) w.own.there g2 g3 fun b hb => (fr b hb).2) Pin.refl
        split at e4
        · rename_i j hj
          cases e4
          by_cases hjl : j < cs.length
          · obtain ⟨x, A, B, Fj, c1, c2, c3, c4⟩ := OwnL.at h3 (List.getElem?_eq_getElem hjl)
            subst c3
            have n2 := h5
            rw [List.nodup_append] at n2
            obtain ⟨n3, n4, n5⟩ := n2
            rw [List.nodup_append] at n4
            obtain ⟨n6, n7, n8⟩ := n4
            refine fin (.ins c ns) (cs.set j m) (vs.set j y) (A ++ (Fr ++ B)) rfl ?_ (by show ns.length = _; rw [List.length_set]; exact l1.symm) (fun o' => ?_) ?_ ?_ ?_
            · rw [putF_zip_old hj l1]; rfl
            · exact c4 Hb2 _ m y Fr (Evl.Ex.refl _) (fun b hb u hu => by
                have : b ≠ a := fun z => h4 (by subst z; simp at hb ⊢; rcases hb with hb | hb <;> simp [hb])
                rw [upd_ne this]; exact hu) (own_upd o2 h6)
            · rw [List.nodup_append]
              refine ⟨n3, ?_, fun b hb c hc e => ?_⟩
              · rw [List.nodup_append]
                exact ⟨nd, n7, fun b hb c hc e => h7 c (by simp [hc]) (e ▸ hb)⟩
              · subst e
                rcases List.mem_append.mp hc with z | z
                · exact h7 b (by simp [hb]) z
                · exact n5 b hb b (by simp [z]) rfl
            · intro z
              simp at z
              rcases z with z | z | z
              · exact h4 (by simp [z])
              · exact h6 z
              · exact h4 (by simp [z])
            · intro b hb
              simp at hb ⊢
              rcases hb with z | z | z <;> simp [z]
          · refine fin (.ins c ns) (cs.set j m) (vs.set j y) Fc rfl ?_ (by show ns.length = _; rw [List.length_set]; exact l1.symm) (fun o' => ?_) h5 h4 (fun b hb => .inl hb)
            · rw [putF_zip_old hj l1]; rfl
            · rw [List.set_eq_of_length_le (by omega), List.set_eq_of_length_le (by rw [ownL_len h3]; omega)]
              exact ownL_upd h3 h4
        · rename_i hj
          cases e4
          refine fin (.ins c (ns ++ [f])) (cs ++ [m]) (vs ++ [y]) (Fc ++ Fr) rfl ?_ (by show (ns ++ [f]).length = _; simp [l1]) (fun o' => ?_) (List.nodup_append.mpr ⟨h5, nd, fun b hb c hc z => h7 b hb (z ▸ hc)⟩) (fun z => (List.mem_append.mp z).elim h4 h6) (fun b hb => List.mem_append.mp hb)
          · rw [putF_zip_new hj l1]; rfl
          · exact ownL_app (ownL_upd h3 h4) ⟨y, [], Fr, [], rfl, own_upd o2 h6, ⟨rfl, rfl⟩, by simp⟩
      · cases e4
    · cases e4
end
end KS

namespace KS
open PySem L2
section
variable {K : PySem.W.Frag} {pn : Nat → Bool} {ta tb tc te ti : TE} {tr : TA} {t u : TT} {ts ts' tS : TS} {g : TG} {gs : TGs} {wi : TI} {Γ : List M}
/-- a table by class names -/
def getT {α : Type} : List (String × α) → String → Option α
  | [], _ => none
  | q :: r, c => if c = q.1 then some q.2 else getT r c
theorem getT_mem {α : Type} : ∀ {T : List (String × α)} {c : String} {x : α}, getT T c = some x → (c, x) ∈ T
  | [], _, _, h => by simp [getT] at h
  | q :: r, c, x, h => by
    unfold getT at h
    split at h
    · rename_i e
      cases h
      rw [e]
      exact List.mem_cons_self
    · exact List.mem_cons_of_mem _ (getT_mem h)
abbrev TabI := List (String × (M → List D → Option (M × M)))
abbrev TabP := List (String × (List D → Option M))
def tabI (K : PySem.W.Frag) (T : TabI) (f : Dfl) : List (Addr × Sp × List V) := T.map fun q => (clsA K q.1, spI K q.2, f.vs)
def tabP (K : PySem.W.Frag) (T : TabP) (f : Dfl) : List (Addr × Sp × List V) := T.map fun q => (clsA K q.1, spP K q.2, f.vs)
/-- o.m(..) that changes o, o a place -/
def metM (m : Str) (T : TabI) (ds : List D) : (M → List M) × M → Option (M × List M)
  | (put, .nd (.ins c ns) cs) => if ixOf ns m = none then (getT T c).bind fun G => (G (.nd (.ins c ns) cs) ds).map fun q => (q.1, put q.2) else none
  | _ => none
def eMeth (p : Pt K ta) (m : Str) (T : TabI) (f : Dfl) (a : Ab K tr) : Pe K (tMethX m (tabI K T f) E0 ta tr) where
  ev := fun Γ => (p.foc Γ).bind fun q => (a.ev Γ).bind fun ds => metM m T (ds ++ f.ds) q
  ok := fun {Γ Γ2 mr σ Hb H F Q} e w k => by
    obtain ⟨⟨put, m0⟩, e1, e'⟩ := Option.bind_eq_some_iff.mp e
    obtain ⟨ds, e2, e3⟩ := Option.bind_eq_some_iff.mp e'
    clear e e'
    unfold metM at e3
    split at e3
    · rename_i put1 c ns cs he
      cases he
      split at e3
      · rename_i hn
        obtain ⟨G, e4, e5⟩ := Option.bind_eq_some_iff.mp e3
        obtain ⟨⟨m, m1⟩, e6, e7⟩ := Option.map_eq_some_iff.mp e5
        cases e7
        refine p.ok e1 w fun v Hb1 H1 x1 x2 x3 x4 at_ => ?_
        have w1 := w.pure x1 x2 x3 x4
        obtain ⟨a0, dx, vs0, Fc, rfl, h1, h2, _⟩ := At.node (Fr := []) w1 at_ (fun a h => by cases h)
        refine ⟨a0, dx, _, (clsA K c, spI K G, f.vs), rfl, h1, List.mem_map.mpr ⟨(c, G), getT_mem e4, rfl⟩, ixOf_none hn, ?_⟩
        refine a.ok e2 w1 fun vs Hb2 H2 y1 y2 y3 y4 r => ?_
        have w2 := w1.pure y1 y2 y3 y4
        show spI K G (V.ref a0 :: (vs ++ f.vs)) H2 Q E0
        refine call_at (m0 := .nd (.ins c ns) cs) w2 (at_.pure y1 y2) (by intro z; cases z) (reps_append r (f.ok K Hb2)) e6 fun x Hb3 H3 F2 Fr q1 q2 q3 q4 q5 => ?_
        exact k x Hb3 H3 F2 Fr q1 (((Step.pure x1 x2 x4).trans (Step.pure y1 y2 y4)).trans q2) q3 q4 q5
      · cases e3
    · cases e3
/-- o.m(..), o a datum -/
def metD (m : Str) (T : TabP) (ds : List D) : D → Option M
  | .obj c ns l => if ixOf ns m = none then (getT T c).bind fun G => G (.obj c ns l :: ds) else none
  | _ => none
def oMeth (p : Pb K ta) (m : Str) (T : TabP) (f : Dfl) (a : Ab K tr) : Po K (tMethX m (tabP K T f) E0 ta tr) where
  ev := fun Γ => (p.ev Γ).bind fun x => (a.ev Γ).bind fun ds => metD m T (ds ++ f.ds) x
  ok := fun {Γ mr σ Hb H F Q} e w k => by
    obtain ⟨x, e1, e'⟩ := Option.bind_eq_some_iff.mp e
    obtain ⟨ds, e2, e3⟩ := Option.bind_eq_some_iff.mp e'
    clear e e'
    unfold metD at e3
    split at e3
    · rename_i c ns l
      split at e3
      · rename_i hn
        obtain ⟨G, e4, e5⟩ := Option.bind_eq_some_iff.mp e3
        refine p.ok e1 w fun v Hb1 H1 x1 x2 x3 x4 r => ?_
        have r0 := r
        obtain ⟨a0, dx, xs, rfl, h1, h2, h3⟩ := r
        refine ⟨a0, dx, _, (clsA K c, spP K G, f.vs), rfl, x3 _ _ h1, List.mem_map.mpr ⟨(c, G), getT_mem e4, rfl⟩, ixOf_none hn, ?_⟩
        refine a.ok e2 (w.pure x1 x2 x3 x4) fun vs Hb2 H2 y1 y2 y3 y4 r2 => ?_
        show spP K G (V.ref a0 :: (vs ++ f.vs)) H2 Q E0
        exact ⟨Hb2, .obj c ns l :: (ds ++ f.ds), mr, y3, ⟨_, _, rfl, rep_mono y1 r0, reps_append r2 (f.ok K Hb2)⟩, e5, fun v Hb3 H3 Fr z1 z2 z3 z4 o nd fr => k v Hb3 H3 Fr (Evl.Ex.trans (Evl.Ex.trans x1 y1) z1) (Evl.Ex.trans (Evl.Ex.trans x2 y2) z2) z3 ((x4.trans y4 x2).trans z4 (Evl.Ex.trans x2 y2)) o nd fun a ha => ⟨(fr a ha).1, none_of_ex (Evl.Ex.trans x2 y2) (fr a ha).2⟩⟩
      · cases e3
    · cases e3
def hMeth (p : Ph K ta) (m : Str) (T : TabP) (f : Dfl) (a : Ah K tr) : Ph K (tMethX m (tabP K T f) E0 ta tr) where
  ev := fun Γ => (p.ev Γ).bind fun x => (a.ev Γ).bind fun ds => (metD m T (ds ++ f.ds) x).bind M.fz
  ok := fun {Γ d σ Hb H F Q} e w k => by
    obtain ⟨x, e1, e'⟩ := Option.bind_eq_some_iff.mp e
    obtain ⟨ds, e2, e3'⟩ := Option.bind_eq_some_iff.mp e'
    obtain ⟨mr, e3, efz⟩ := Option.bind_eq_some_iff.mp e3'
    clear e e' e3'
    unfold metD at e3
    split at e3
    · rename_i c ns l
      split at e3
      · rename_i hn
        obtain ⟨G, e4, e5⟩ := Option.bind_eq_some_iff.mp e3
        refine p.ok e1 w fun v Hb1 H1 x1 x2 x3 x4 r => ?_
        have r0 := r
        obtain ⟨a0, dx, xs, rfl, h1, h2, h3⟩ := r
        refine ⟨a0, dx, _, (clsA K c, spP K G, f.vs), rfl, h1, List.mem_map.mpr ⟨(c, G), getT_mem e4, rfl⟩, ixOf_none hn, ?_⟩
        refine a.ok e2 (w.pure x1 x2 x3 x4) fun vs Hb2 H2 y1 y2 y3 y4 r2 => ?_
        show spP K G (V.ref a0 :: (vs ++ f.vs)) H2 Q E0
        exact ⟨H2, .obj c ns l :: (ds ++ f.ds), mr, Evl.Ex.refl _, ⟨_, _, rfl, rep_mono y2 r0, reps_append r2 (f.ok K H2)⟩, e5, fun v Hb3 H3 Fr z1 z2 z3 z4 o nd fr => k v Hb2 H3 (Evl.Ex.trans x1 y1) (Evl.Ex.trans (Evl.Ex.trans x2 y2) z2) (Evl.Ex.trans y3 z2) (x4.trans y4 x2) (Own.fz z3 o efz fun a _ o h => h)⟩
      · cases e3
    · cases e3
/-- C(..) -/
def oMake (c : String) (G : M → List D → Option (M × M)) (f : Dfl) (a : Ab K tr) : Po K (tMake (clsA K c) (spI K G) f.vs E0 tr) where
  ev := fun Γ => (a.ev Γ).bind fun ds => (G (.nd (.ins c []) []) (ds ++ f.ds)).bind fun q => match q with | (.im .non, m1) => some m1 | _ => none
  ok := fun {Γ m σ Hb H F Q} e w k => by
    obtain ⟨ds, e1, e2⟩ := Option.bind_eq_some_iff.mp e
    obtain ⟨⟨mr, m1⟩, e3, e4⟩ := Option.bind_eq_some_iff.mp e2
    clear e e2
    split at e4
    · rename_i m1' he
      cases he
      cases e4
      refine a.ok e1 w fun vs Hb1 H1 x1 x2 x3 x4 r => fun x dx nx nd ne => ?_
      have ed : Ex H1 (upd (upd H1 dx (.own x)) x (.ins (clsA K c) dx [])) := Evl.Ex.trans (Evl.Ex.new nd) (Evl.Ex.new (by rw [upd_ne (Ne.symm ne)]; exact nx))
      have nb : ∀ a, (upd (upd H1 dx (.own x)) x (.ins (clsA K c) dx [])) a = none → H1 a = none := fun a h => none_of_ex ed h
      refine ⟨Hb1, .ref x, vs ++ f.vs, [x], .nd (.ins c []) [], ds ++ f.ds, .im .non, _, rfl, Evl.Ex.trans x3 ed, reps_append r (f.ok K Hb1), (by intro z; cases z), ⟨x, dx, [], [], rfl, upd_same, rfl, ⟨rfl, rfl⟩, rfl⟩, by simp, (fun a ha => by rw [List.mem_singleton.mp ha]; exact none_of_ex x3 nx), e3, fun v Hb2 H2 F2 Fr y1 y2 y3 o1 o2 nd2 f2 nb2 => ⟨o2.1, ?_⟩⟩
      have eH : Ex H1 H2 := fun a o h => y3 a o (ed a o h) fun z => by
        rw [List.mem_singleton.mp z, nx] at h
        cases h
      have back : ∀ a, a ∈ [x] ∨ (upd (upd H1 dx (.own x)) x (.ins (clsA K c) dx [])) a = none → H a = none := fun a h => by
        rcases h with h | h
        · rw [List.mem_singleton.mp h]; exact none_of_ex x2 nx
        · exact none_of_ex x2 (nb a h)
      exact k (.ref x) Hb2 H2 F2 (Evl.Ex.trans x1 y1) (Evl.Ex.trans x2 eH) y2 (fun a ha => (nb2 a ha).elim (fun z => x4 a z) fun z => .inr (back a z)) o1 (List.nodup_append.mp nd2).1 fun a ha => ⟨(f2 a (by simp [ha])).1, back a (f2 a (by simp [ha])).2⟩
    · cases e4
/-- f(self, ..), f changing self -/
def eCall (p : Pt K ta) (G : M → List D → Option (M × M)) (f : Dfl) (a : Ab K tr) : Pe K (tCall (spI K G) f.vs E0 (tCons ta tr)) where
  ev := fun Γ => (p.foc Γ).bind fun q => match q with
    | (put, .nd sh cs) => (a.ev Γ).bind fun ds => (G (.nd sh cs) (ds ++ f.ds)).map fun r => (r.1, put r.2)
    | _ => none
  ok := fun {Γ Γ2 mr σ Hb H F Q} e w k => by
    obtain ⟨⟨put, m0⟩, e1, e'⟩ := Option.bind_eq_some_iff.mp e
    clear e
    split at e'
    · rename_i put1 sh cs he
      cases he
      obtain ⟨ds, e2, e3⟩ := Option.bind_eq_some_iff.mp e'
      obtain ⟨⟨m, m1⟩, e6, e7⟩ := Option.map_eq_some_iff.mp e3
      cases e7
      refine p.ok e1 w fun v Hb1 H1 x1 x2 x3 x4 at_ => ?_
      have w1 := w.pure x1 x2 x3 x4
      refine a.ok e2 w1 fun vs Hb2 H2 y1 y2 y3 y4 r => ?_
      have w2 := w1.pure y1 y2 y3 y4
      refine call_at (m0 := .nd sh cs) w2 (at_.pure y1 y2) (by intro z; cases z) (reps_append r (f.ok K Hb2)) e6 fun x Hb3 H3 F2 Fr q1 q2 q3 q4 q5 => ?_
      exact k x Hb3 H3 F2 Fr q1 (((Step.pure x1 x2 x4).trans (Step.pure y1 y2 y4)).trans q2) q3 q4 q5
    · cases e'
/-! ### pure things as things with effects -/
def Po.e (p : Po K ta) : Pe K ta where
  ev := fun Γ => (p.ev Γ).map fun m => (m, Γ)
  ok := fun {Γ Γ2 m σ Hb H F Q} e w k => by
    obtain ⟨m', e1, e2⟩ := Option.map_eq_some_iff.mp e
    cases e2
    refine p.ok e1 w fun v Hb2 H2 Fr x1 x2 x3 x4 o nd fr => k v Hb2 H2 F Fr (w.pure x1 x2 x3 x4) ⟨x1, fun a o h _ => x2 a o h, fun a ha => ?_, fun a ha => (x4 a ha).elim .inl fun z => .inr (.inr z)⟩ o ?_ (fun a ha => (fr a ha).1)
    · rcases List.mem_append.mp ha with ha | ha
      · exact .inl ha
      · exact .inr (fr a ha).2
    · rw [List.nodup_append]
      refine ⟨w.nd, nd, fun a ha b hb e => ?_⟩
      subst e
      exact absurd (fr a hb).2 (w.own.there a ha)
/-! ### a name's own thing is fixed from here on -/
theorem WF.frz {Γ : List M} {σ : St} {Hb H : Hp} {F : List Addr} {i : Nat} {m : M} {d : D} (w : WF K Γ σ Hb H F) (h : Γ[i]? = some m) (hd : m.fz = some d) :
    ∃ Hb2 F2, WF K (Γ.set i (.im d)) σ Hb2 H F2 ∧ Ex Hb Hb2 ∧ (∀ a ∈ F2, a ∈ F) ∧ (∀ a, Hb2 a ≠ none → Hb a ≠ none ∨ a ∈ F) := by
  obtain ⟨s, A, B, Fi, h1, h2, h3, h4⟩ := w.own.at h
  obtain ⟨v, rfl, o⟩ : ∃ v, s = some v ∧ Own K Hb H m v Fi := by
    cases m with
    | emp => simp [M.fz] at hd
    | im d => exact h2
    | nd sh cs => exact h2
  have hF : ∀ a ∈ Fi, a ∈ F := fun a ha => by rw [h3]; simp [ha]
  have y1 : Ex Hb (fun a => if a ∈ Fi then H a else Hb a) := fun a ob ha => by
    by_cases hf : a ∈ Fi
    · rw [w.fh a (hF a hf)] at ha; cases ha
    · show (if a ∈ Fi then H a else Hb a) = some ob
      rw [if_neg hf]; exact ha
  have ex : Ex (fun a => if a ∈ Fi then H a else Hb a) H := fun a ob ha => by
    by_cases hf : a ∈ Fi
    · simpa [hf] using ha
    · exact w.ex a ob (by simpa [hf] using ha)
  have rd : rep K (fun a => if a ∈ Fi then H a else Hb a) d v := Own.fz y1 o hd fun a hf ob ha => by
    show (if a ∈ Fi then H a else Hb a) = some ob
    rw [if_pos hf]; exact ha
  have nd := w.nd
  rw [h3, List.nodup_append] at nd
  obtain ⟨n1, n2, n3⟩ := nd
  rw [List.nodup_append] at n2
  obtain ⟨n4, n5, n6⟩ := n2
  have g := h4 (fun a => if a ∈ Fi then H a else Hb a) H (.im d) (some v) [] y1 (fun a _ o h => h) ⟨v, rfl, rd, rfl⟩
  rw [set_same h1] at g
  refine ⟨_, _, ⟨ex, g, ?_, fun a ha => ?_⟩, y1, fun a ha => ?_, fun a ha => ?_⟩
  · rw [List.nodup_append]
    exact ⟨n1, by simpa using n5, fun a ha b hb e => n3 a ha b (by simp at hb; simp [hb]) e⟩
  · have hi : a ∉ Fi := fun z => by
      simp at ha
      rcases ha with ha | ha
      · exact n3 a ha a (by simp [z]) rfl
      · exact n6 a z a ha rfl
    show (if a ∈ Fi then H a else Hb a) = none
    rw [if_neg hi]
    exact w.fh a (by rw [h3]; simp at ha ⊢; rcases ha with ha | ha <;> simp [ha])
  · rw [h3]; simp at ha ⊢; rcases ha with ha | ha <;> simp [ha]
  · by_cases hf : a ∈ Fi
    · exact .inr (hF a hf)
    · exact .inl (by simpa [hf] using ha)
/-- s, where name i's thing is fixed -/
def sFz (i : Nat) (s : Sx K pn ts) : Sx K pn ts where
  ev := fun Γ => (Γ[i]?).bind fun m => m.fz.bind fun d => s.ev (Γ.set i (.im d))
  ok := fun {Γ c σ Hb H F E} e w gg => by
    obtain ⟨m, e1, e'⟩ := Option.bind_eq_some_iff.mp e
    obtain ⟨d, e2, e3⟩ := Option.bind_eq_some_iff.mp e'
    obtain ⟨Hb2, F2, w2, x1, x2, x3⟩ := w.frz e1 e2
    exact s.ok e3 w2 (gg.from ⟨x1, fun a o h _ => h, fun a ha => .inl (x2 a ha), fun a ha => (x3 a ha).imp id .inl⟩ Pin.refl)
/-! ### items of a list at a place -/
/-- path[k] = e -/
def setM (d : D) (k : D) : (M → List M) × M → Option (List M)
  | (put, .nd .lst cs) => match k with
    | .int i => (ixN cs.length i).bind fun j => if (cs[j]?).map isIm = some true then some (put (.nd .lst (cs.set j (.im d)))) else none
    | _ => none
  | _ => none
def sSetP (p : Pt K ta) (e : Pb K te) (q : Ph K ti) : Sx K pn (tAsg te (gSub ta ti rSetL)) where
  ev := fun Γ => (e.ev Γ).bind fun d => (p.foc Γ).bind fun z => (q.ev Γ).bind fun k => (setM d k z).map .nx
  ok := fun {Γ c σ Hb H F E} e0 w gg => by
    obtain ⟨d, e2, e0'⟩ := Option.bind_eq_some_iff.mp e0
    obtain ⟨⟨put, m0⟩, e1, e3⟩ := Option.bind_eq_some_iff.mp e0'
    obtain ⟨k, e4, e5⟩ := Option.bind_eq_some_iff.mp e3
    obtain ⟨Γ2, e6, rfl⟩ := Option.map_eq_some_iff.mp e5
    clear e0 e0' e3 e5
    unfold setM at e6
    split at e6
    · rename_i put1 cs he
      cases he
      split at e6
      · rename_i i
        obtain ⟨j, e7, e8⟩ := Option.bind_eq_some_iff.mp e6
        split at e8
        · rename_i him
          cases e8
          refine e.ok e2 w fun y Hb1 H1 x1 x2 x3 x4 r => ?_
          have w1 := w.pure x1 x2 x3 x4
          refine p.ok e1 w1 fun v Hb2 H2 y1 y2 y3 y4 at_ => ?_
          have w2 := w1.pure y1 y2 y3 y4
          refine q.ok e4 w2 fun v2 Hb3 H3 z1 z2 z3 z4 r2 => ?_
          have w3 := w2.pure z1 z2 z3 z4
          obtain ⟨a, dx, vs, Fc, rfl, h1, h2, h3, h4, h5, h6, h7, h8⟩ := At.node (Fr := []) w3 (at_.pure z1 z2) (fun a h => by cases h)
          rw [show v2 = V.int i from r2]
          obtain ⟨F3, g1, g2, g3⟩ := h8 .lst (cs.set j (.im d)) (vs.set j y) Fc True.intro (ownL_set (ownL_upd h3 h4) him (rep_mono (Evl.Ex.trans y1 z1) r)) h5 h4 (fun b hb => .inl hb)
          refine ⟨a, vs, i, j, rfl, rfl, h1, by rw [ownL_len h3]; exact e7, gg σ Hb3 _ F3 g1 (Step.chg (Evl.Ex.trans (Evl.Ex.trans x1 y1) z1) (Evl.Ex.trans (Evl.Ex.trans x2 y2) z2) ((x4.trans y4 x2).trans z4 (Evl.Ex.trans x2 y2)) w.own.there g2 g3 fun b hb => by cases hb) Pin.refl⟩
        · cases e8
      · cases e6
    · cases e6
/-- path.pop() -/
def popM : (M → List M) × M → Option (M × List M)
  | (put, .nd .lst cs) => match cs[cs.length - 1]? with
    | some (.im d) => some (.im d, put (.nd .lst cs.dropLast))
    | _ => none
  | _ => none
theorem ownL_dropLast {Hb H : Hp} : ∀ {ms : List M} {vs : List V} {F : List Addr} {d : D}, OwnL K Hb H ms vs F → ms[ms.length - 1]? = some (.im d) → OwnL K Hb H ms.dropLast vs.dropLast F ∧ ∃ x, vs[vs.length - 1]? = some x ∧ rep K Hb d x
  | [], _, _, d, h, e => by simp at e
  | [m], vs, F, d, h, e => by
    obtain ⟨x, r, F1, F2, rfl, h1, ⟨rfl, rfl⟩, rfl⟩ := h
    simp at e
    subst e
    exact ⟨⟨rfl, by rw [h1.2]; rfl⟩, x, rfl, h1.1⟩
  | m :: m' :: ms, vs, F, d, h, e => by
    obtain ⟨x, r, F1, F2, rfl, h1, h2, rfl⟩ := h
    obtain ⟨g1, y, g2, g3⟩ := ownL_dropLast h2 (d := d) (by simpa using e)
    have hr : r ≠ [] := fun z => by
      subst z
      have := ownL_len h2
      simp at this
    obtain ⟨r0, rs, rfl⟩ := List.exists_cons_of_ne_nil hr
    exact ⟨⟨x, _, F1, F2, rfl, h1, g1, rfl⟩, y, by simpa using g2, g3⟩
def ePop (p : Pt K ta) : Pe K (tBM0 K "list" rPop ta) where
  ev := fun Γ => (p.foc Γ).bind popM
  ok := fun {Γ Γ2 mr σ Hb H F Q} e w k => by
    obtain ⟨⟨put, m0⟩, e1, e2⟩ := Option.bind_eq_some_iff.mp e
    clear e
    unfold popM at e2
    split at e2
    · rename_i put1 cs he
      cases he
      split at e2
      · rename_i d hd
        cases e2
        refine p.ok e1 w fun v Hb1 H1 x1 x2 x3 x4 at_ => ?_
        have w1 := w.pure x1 x2 x3 x4
        obtain ⟨a, dx, vs, Fc, rfl, h1, h2, h3, h4, h5, h6, h7, h8⟩ := At.node (Fr := []) w1 at_ (fun a h => by cases h)
        obtain ⟨g1, y, g2, g3⟩ := ownL_dropLast h3 hd
        obtain ⟨F3, q1, q2, q3⟩ := h8 .lst cs.dropLast vs.dropLast Fc True.intro (ownL_upd g1 h4) h5 h4 (fun b hb => .inl hb)
        refine ⟨Or.inl ⟨rfl, vs, SqL.of h1⟩, a, vs, y, rfl, rfl, h1, g2, ?_⟩
        exact k y Hb1 _ F3 [] q1 (by rw [List.append_nil]; exact Step.chg x1 x2 x4 w.own.there q2 q3 fun b hb => by cases hb) ⟨g3, rfl⟩ (by rw [List.append_nil]; exact q1.nd) (fun a ha => by cases ha)
      · cases e2
    · cases e2
/-- path.f op= e, an int field -/
def augM (T : List String) (f : Str) (h : Int → Int → Int) (y : D) : (M → List M) × M → Option (List M)
  | (put, .nd (.ins c ns) cs) => if c ∈ T ∧ ns.length < 900 then (ixOf ns f).bind fun j => match cs[j]?, y with
    | some (.im (.int x)), .int y => some (put (.nd (.ins c ns) (cs.set j (.im (.int (h x y))))))
    | _, _ => none
    else none
  | _ => none
def sAugP (p : Pt K ta) (f : Str) (T : List String) (h : Int → Int → Int) (rd : V → V → Hp → VK → Prop) (hrd : ∀ i j H (Q : VK), Q (.int (h i j)) H → rd (.int i) (.int j) H Q) (e : Ph K te) : Sx K pn (sFldAugX ta te rd f (cAs K T)) where
  ev := fun Γ => (p.foc Γ).bind fun z => (e.ev Γ).bind fun y => (augM T f h y z).map .nx
  ok := fun {Γ c σ Hb H F E} e0 w gg => by
    obtain ⟨⟨put, m0⟩, e1, e0'⟩ := Option.bind_eq_some_iff.mp e0
    obtain ⟨y, e2, e3⟩ := Option.bind_eq_some_iff.mp e0'
    obtain ⟨Γ2, e4, rfl⟩ := Option.map_eq_some_iff.mp e3
    clear e0 e0' e3
    unfold augM at e4
    split at e4
    · rename_i put1 c ns cs he
      cases he
      split at e4
      · rename_i hc
        obtain ⟨j, e5, e6⟩ := Option.bind_eq_some_iff.mp e4
        split at e6
        · rename_i x y hx
          cases e6
          refine p.ok e1 w fun v Hb1 H1 x1 x2 x3 x4 at_ => ?_
          have w1 := w.pure x1 x2 x3 x4
          obtain ⟨a0, dx0, vs0, z0, rfl, a1, a2, a3, a4, a5⟩ := at_.child hx
          obtain ⟨G1, G2, ⟨a6, _⟩, _⟩ := a5
          refine ⟨a0, _, dx0, _, z0, rfl, a1, cAs_mem hc.1, (ixOf_lookup e5).trans a4, ?_⟩
          refine e.ok e2 w1 fun v2 Hb2 H2 y1 y2 y3 y4 r2 => ?_
          have w2 := w1.pure y1 y2 y3 y4
          rw [show v2 = V.int y from r2, show z0 = V.int x from a6]
          obtain ⟨a, dx, vs, Fc, ea, h1, h2, h3, h4, h5, h6, h7, h8⟩ := At.node (Fr := []) w2 (at_.pure y1 y2) (fun a h => by cases h)
          cases ea
          have l1 : vs.length = ns.length := h2.symm
          refine hrd _ _ _ _ ⟨dx, _, h1, by rw [List.length_zip]; omega, ?_⟩
          obtain ⟨F3, g1, g2, g3⟩ := h8 (.ins c ns) (cs.set j (.im (.int (h x y)))) (vs.set j (.int (h x y))) Fc (by show ns.length = _; rw [List.length_set]; exact l1.symm) (ownL_set (ownL_upd h3 h4) (by rw [hx]; rfl) rfl) h5 h4 (fun b hb => .inl hb)
          rw [putF_zip_old e5 l1]
          exact gg σ Hb2 _ F3 g1 (Step.chg (Evl.Ex.trans x1 y1) (Evl.Ex.trans x2 y2) (x4.trans y4 x2) w.own.there g2 g3 fun b hb => by cases hb) Pin.refl
        · cases e6
      · cases e4
    · cases e4
theorem rd_add : ∀ (i j : Int) (H : Hp) (Q : VK), Q (.int (i + j)) H → L2.rAdd (.int i) (.int j) H Q := fun i j H Q q => ⟨i, j, rfl, rfl, q⟩
theorem rd_sub : ∀ (i j : Int) (H : Hp) (Q : VK), Q (.int (i - j)) H → L2.rSub (.int i) (.int j) H Q := fun i j H Q q => ⟨i, j, rfl, rfl, q⟩
end
end KS

namespace KS
open PySem L2
section
variable {K : PySem.W.Frag} {pn : Nat → Bool} {ta tb tc te ti : TE} {tr : TA} {t u : TT} {ts ts' tS : TS} {g : TG} {gs : TGs} {wi : TI} {Γ : List M} {put : M → List M} {c : String} {ns : List Str} {cs : List M} {f m : Str} {T : List String}
def vaM (i : Nat) (Γ : List M) : Option M → Option ((M → List M) × M)
  | some (.nd sh cs) => some (fun m2 => Γ.set i m2, .nd sh cs)
  | _ => none
@[simp] theorem vaM_nd {i : Nat} {sh : Sh} : vaM i Γ (some (.nd sh cs)) = some (fun m2 => Γ.set i m2, .nd sh cs) := rfl
@[simp] theorem pVar_foc {i : Nat} : (pVar (K := K) i).foc Γ = vaM i Γ Γ[i]? := by
  show (match Γ[i]? with | some (.nd sh cs) => some ((fun m2 => Γ.set i m2), M.nd sh cs) | _ => none) = _
  unfold vaM
  split <;> rfl
@[simp] theorem pFld_foc {p : Pt K ta} : (pFld p f T).foc Γ = (p.foc Γ).bind (fldM T f) := rfl
@[simp] theorem fldM_ins : fldM T f (put, .nd (.ins c ns) cs) = if c ∈ T then (ixOf ns f).bind fun j => (cs[j]?).map fun m => (fun m2 => put (.nd (.ins c ns) (cs.set j m2)), m) else none := rfl
@[simp] theorem pIxL_foc {p : Pt K ta} {b : Ph K tb} : (pIxL p b).foc Γ = (p.foc Γ).bind fun q => (b.ev Γ).bind fun k => ixM k q := rfl
@[simp] theorem ixM_lst {i : Int} : ixM (.int i) (put, .nd .lst cs) = (ixN cs.length i).bind fun j => (cs[j]?).map fun m => (fun m2 => put (.nd .lst (cs.set j m2)), m) := rfl
@[simp] theorem bPt_ev {p : Pt K ta} : (bPt p).ev Γ = (p.foc Γ).bind imM := rfl
@[simp] theorem imM_im {d : D} : imM (put, .im d) = some d := rfl
@[simp] theorem sDropE_ev {p : Pe K te} : (sDropE (pn := pn) p).ev Γ = (p.ev Γ).map fun q => .nx q.2 := rfl
@[simp] theorem sAsgE_ev {i : Nat} {p : Pe K te} : (sAsgE (pn := pn) i p).ev Γ = (p.ev Γ).bind fun q => if i < q.2.length ∧ pn i = false then some (.nx (q.2.set i q.1)) else none := rfl
@[simp] theorem sRetE_ev {p : Pe K te} : (sRetE (pn := pn) p).ev Γ = (p.ev Γ).map fun q => .rt q.1 q.2 := rfl
@[simp] theorem ixOf_nil : ixOf [] f = none := rfl
@[simp] theorem ixOf_cons {n : Str} : ixOf (n :: ns) f = if f = n then some 0 else (ixOf ns f).map (· + 1) := rfl
@[simp] theorem pn1_eq {i : Nat} : pn1 i = (i == 0) := rfl
@[simp] theorem bFld_ev {a : Pb K ta} : (bFld a f T).ev Γ = (a.ev Γ).bind (fldD T f) := rfl
@[simp] theorem hFld_ev {a : Ph K ta} : (hFld a f T).ev Γ = (a.ev Γ).bind (fldD T f) := rfl
@[simp] theorem fldD_obj {l : List D} : fldD T f (.obj c ns l) = if c ∈ T then (ixOf ns f).bind fun j => l[j]? else none := rfl
@[simp] theorem Pbo_ev {p : Pb K ta} : p.o.ev Γ = (p.ev Γ).map .im := rfl
@[simp] theorem Poe_ev {p : Po K ta} : p.e.ev Γ = (p.ev Γ).map fun m => (m, Γ) := rfl
@[simp] theorem sAppP_ev {p : Pt K ta} {e : Po K te} : (sAppP (pn := pn) p e).ev Γ = (p.foc Γ).bind fun q => (e.ev Γ).bind fun m => (appM m q).map .nx := rfl
@[simp] theorem appM_lst {m : M} : appM m (put, .nd .lst cs) = if lineD (cs.length + 1) then some (put (.nd .lst (cs ++ [m]))) else none := rfl
@[simp] theorem sFldP_ev {p : Pt K ta} {e : Po K te} : (sFldP (pn := pn) p f T e).ev Γ = (e.ev Γ).bind fun m => (p.foc Γ).bind fun q => (fldS T f m q).map .nx := rfl
def fldS2 (put : M → List M) (c : String) (ns : List Str) (f : Str) (cs : List M) (m : M) : Option Nat → List M
  | some j => put (.nd (.ins c ns) (cs.set j m))
  | none => put (.nd (.ins c (ns ++ [f])) (cs ++ [m]))
@[simp] theorem fldS2_s {m : M} {j : Nat} : fldS2 put c ns f cs m (some j) = put (.nd (.ins c ns) (cs.set j m)) := rfl
@[simp] theorem fldS2_n {m : M} : fldS2 put c ns f cs m none = put (.nd (.ins c (ns ++ [f])) (cs ++ [m])) := rfl
@[simp] theorem fldS_ins {m : M} : fldS T f m (put, .nd (.ins c ns) cs) = if c ∈ T ∧ ns.length < 900 then some (fldS2 put c ns f cs m (ixOf ns f)) else none := by
  show (if c ∈ T ∧ ns.length < 900 then (match ixOf ns f with | some j => some (put (.nd (.ins c ns) (cs.set j m))) | none => some (put (.nd (.ins c (ns ++ [f])) (cs ++ [m])))) else none) = _
  cases ixOf ns f <;> rfl
@[simp] theorem getT_nil {α : Type} : getT ([] : List (String × α)) c = none := rfl
@[simp] theorem getT_cons {α : Type} {q : String × α} {r : List (String × α)} : getT (q :: r) c = if c = q.1 then some q.2 else getT r c := rfl
@[simp] theorem eMeth_ev {p : Pt K ta} {T : TabI} {d : Dfl} {a : Ab K tr} : (eMeth p m T d a).ev Γ = (p.foc Γ).bind fun q => (a.ev Γ).bind fun ds => metM m T (ds ++ d.ds) q := rfl
@[simp] theorem metM_ins {T : TabI} {ds : List D} : metM m T ds (put, .nd (.ins c ns) cs) = if ixOf ns m = none then (getT T c).bind fun G => (G (.nd (.ins c ns) cs) ds).map fun q => (q.1, put q.2) else none := rfl
@[simp] theorem oMeth_ev {p : Pb K ta} {T : TabP} {d : Dfl} {a : Ab K tr} : (oMeth p m T d a).ev Γ = (p.ev Γ).bind fun x => (a.ev Γ).bind fun ds => metD m T (ds ++ d.ds) x := rfl
@[simp] theorem hMeth_ev {p : Ph K ta} {T : TabP} {d : Dfl} {a : Ah K tr} : (hMeth p m T d a).ev Γ = (p.ev Γ).bind fun x => (a.ev Γ).bind fun ds => (metD m T (ds ++ d.ds) x).bind M.fz := rfl
@[simp] theorem metD_obj {T : TabP} {ds l : List D} : metD m T ds (.obj c ns l) = if ixOf ns m = none then (getT T c).bind fun G => G (.obj c ns l :: ds) else none := rfl
def mkM : M × M → Option M
  | (.im .non, m1) => some m1
  | _ => none
@[simp] theorem mkM_s {m1 : M} : mkM (.im .non, m1) = some m1 := rfl
@[simp] theorem oMake_ev {G : M → List D → Option (M × M)} {d : Dfl} {a : Ab K tr} : (oMake c G d a).ev Γ = (a.ev Γ).bind fun ds => (G (.nd (.ins c []) []) (ds ++ d.ds)).bind mkM := by
  show ((a.ev Γ).bind fun ds => (G (.nd (.ins c []) []) (ds ++ d.ds)).bind fun q => match q with | (.im .non, m1) => some m1 | _ => none) = _
  congr 1
def callM (G : M → List D → Option (M × M)) (ds : Option (List D)) (f : List D) : (M → List M) × M → Option (M × List M)
  | (put, .nd sh cs) => ds.bind fun ds => (G (.nd sh cs) (ds ++ f)).map fun r => (r.1, put r.2)
  | _ => none
@[simp] theorem callM_nd {G : M → List D → Option (M × M)} {ds f : List D} {sh : Sh} : callM G (some ds) f (put, .nd sh cs) = (G (.nd sh cs) (ds ++ f)).map fun r => (r.1, put r.2) := rfl
@[simp] theorem eCall_ev {p : Pt K ta} {G : M → List D → Option (M × M)} {d : Dfl} {a : Ab K tr} : (eCall p G d a).ev Γ = (p.foc Γ).bind (callM G (a.ev Γ) d.ds) := by
  show ((p.foc Γ).bind fun q => match q with | (put, .nd sh cs) => (a.ev Γ).bind fun ds => (G (.nd sh cs) (ds ++ d.ds)).map fun r => (r.1, put r.2) | _ => none) = _
  congr 1
@[simp] theorem sFz_ev {i : Nat} {s : Sx K pn ts} : (sFz i s).ev Γ = (Γ[i]?).bind fun m => m.fz.bind fun d => s.ev (Γ.set i (.im d)) := rfl
@[simp] theorem sSetP_ev {p : Pt K ta} {e : Pb K te} {q : Ph K ti} : (sSetP (pn := pn) p e q).ev Γ = (e.ev Γ).bind fun d => (p.foc Γ).bind fun z => (q.ev Γ).bind fun k => (setM d k z).map .nx := rfl
@[simp] theorem setM_lst {d : D} {i : Int} : setM d (.int i) (put, .nd .lst cs) = (ixN cs.length i).bind fun j => if (cs[j]?).map isIm = some true then some (put (.nd .lst (cs.set j (.im d)))) else none := rfl
@[simp] theorem ePop_ev {p : Pt K ta} : (ePop p).ev Γ = (p.foc Γ).bind popM := rfl
@[simp] theorem sAugP_ev {p : Pt K ta} {h : Int → Int → Int} {rd : V → V → Hp → VK → Prop} {hrd : ∀ i j H (Q : VK), Q (.int (h i j)) H → rd (.int i) (.int j) H Q} {e : Ph K te} : (sAugP (pn := pn) p f T h rd hrd e).ev Γ = (p.foc Γ).bind fun z => (e.ev Γ).bind fun y => (augM T f h y z).map .nx := rfl
def augM2 (put : M → List M) (c : String) (ns : List Str) (cs : List M) (h : Int → Int → Int) (j : Nat) : Option M → D → Option (List M)
  | some (.im (.int x)), .int y => some (put (.nd (.ins c ns) (cs.set j (.im (.int (h x y))))))
  | _, _ => none
@[simp] theorem augM2_i {h : Int → Int → Int} {j : Nat} {x y : Int} : augM2 put c ns cs h j (some (.im (.int x))) (.int y) = some (put (.nd (.ins c ns) (cs.set j (.im (.int (h x y)))))) := rfl
@[simp] theorem augM_ins {h : Int → Int → Int} {y : D} : augM T f h y (put, .nd (.ins c ns) cs) = if c ∈ T ∧ ns.length < 900 then (ixOf ns f).bind fun j => augM2 put c ns cs h j cs[j]? y else none := by
  show (if c ∈ T ∧ ns.length < 900 then (ixOf ns f).bind fun j => (match cs[j]?, y with | some (.im (.int x)), .int y => some (put (.nd (.ins c ns) (cs.set j (.im (.int (h x y)))))) | _, _ => none) else none) = _
  congr 2
@[simp] theorem fz_nd_ins : (M.nd (.ins c ns) cs).fz = (M.fzs cs).map (D.obj c ns) := rfl
/-! ### defs that change their first argument -/
theorem runI_eq {np n : Nat} {ev : List M → Option Ct} {m0 : M} {ds : List D} (h : ds.length + 1 = np) : runI np n ev m0 ds = (ev (startI n m0 ds)).bind outI := by
  unfold runI
  rw [if_pos h]
@[simp] theorem runI_0 {n : Nat} {ev : List M → Option Ct} {m0 : M} : runI 1 n ev m0 [] = (ev (startI n m0 [])).bind outI := rfl
@[simp] theorem runI_1 {n : Nat} {ev : List M → Option Ct} {m0 : M} {a : D} : runI 2 n ev m0 [a] = (ev (startI n m0 [a])).bind outI := rfl
@[simp] theorem runI_2 {n : Nat} {ev : List M → Option Ct} {m0 : M} {a b : D} : runI 3 n ev m0 [a, b] = (ev (startI n m0 [a, b])).bind outI := rfl
@[simp] theorem runI_3 {n : Nat} {ev : List M → Option Ct} {m0 : M} {a b c : D} : runI 4 n ev m0 [a, b, c] = (ev (startI n m0 [a, b, c])).bind outI := rfl
@[simp] theorem runI_4 {n : Nat} {ev : List M → Option Ct} {m0 : M} {a b c d : D} : runI 5 n ev m0 [a, b, c, d] = (ev (startI n m0 [a, b, c, d])).bind outI := rfl
@[simp] theorem runI_5 {n : Nat} {ev : List M → Option Ct} {m0 : M} {a b c d e : D} : runI 6 n ev m0 [a, b, c, d, e] = (ev (startI n m0 [a, b, c, d, e])).bind outI := rfl
def outI1 (m : M) : Option M → Option (M × M)
  | some (.nd sh cs) => some (m, .nd sh cs)
  | some (.im d) => some (m, .im d)
  | _ => none
@[simp] theorem outI1_nd {m : M} {sh : Sh} : outI1 m (some (.nd sh cs)) = some (m, .nd sh cs) := rfl
@[simp] theorem outI_nx : outI (.nx Γ) = outI1 (.im .non) Γ[0]? := by
  show ((Γ[0]?).bind fun m1 => match m1 with | .emp => none | m1 => some (M.im .non, m1)) = _
  unfold outI1
  cases Γ[0]? with
  | none => rfl
  | some m1 => cases m1 <;> rfl
@[simp] theorem outI_rt {m : M} : outI (.rt m Γ) = outI1 m Γ[0]? := by
  show ((Γ[0]?).bind fun m1 => match m1 with | .emp => none | m1 => some (m, m1)) = _
  unfold outI1
  cases Γ[0]? with
  | none => rfl
  | some m1 => cases m1 <;> rfl
end
end KS

namespace KS
open PySem L2
mutual
/-- scalars and own things of these -/
def M.sca : M → Bool
  | .emp => false
  | .im d => d.sc.isSome
  | .nd _ cs => M.scas cs
def M.scas : List M → Bool
  | [] => true
  | m :: ms => M.sca m && M.scas ms
end
mutual
theorem Own.base {K : PySem.W.Frag} {Hb H Hb2 : Hp} : ∀ {m : M} {v : V} {F : List Addr}, m.sca = true → Own K Hb H m v F → Own K Hb2 H m v F
  | .emp, _, _, e, _ => by simp [M.sca] at e
  | .im d, v, F, e, h => by
    obtain ⟨z, hz⟩ := Option.isSome_iff_exists.mp (show d.sc.isSome = true from e)
    obtain ⟨h1, h2⟩ := h
    exact ⟨by rw [sc_rep hz h1]; exact rep_sc hz, h2⟩
  | .nd sh cs, v, F, e, h => by
    obtain ⟨a, dx, vs, F1, e1, e2, e3, e4, rfl⟩ := h
    exact ⟨a, dx, vs, F1, e1, e2, e3, OwnL.base (by simpa [M.sca] using e) e4, rfl⟩
theorem OwnL.base {K : PySem.W.Frag} {Hb H Hb2 : Hp} : ∀ {ms : List M} {vs : List V} {F : List Addr}, M.scas ms = true → OwnL K Hb H ms vs F → OwnL K Hb2 H ms vs F
  | [], _, _, _, h => h
  | m :: ms, vs, F, e, h => by
    simp only [M.scas, Bool.and_eq_true] at e
    obtain ⟨v, r, F1, F2, rfl, h1, h2, rfl⟩ := h
    exact ⟨v, r, F1, F2, rfl, Own.base e.1 h1, OwnL.base e.2 h2, rfl⟩
end
section
variable {K : PySem.W.Frag} {pn : Nat → Bool} {ta tb tc te ti : TE} {tr : TA} {t u : TT} {ts ts' tS : TS} {g : TG} {gs : TGs} {wi : TI} {Γ : List M}
/-- f(..) with arguments that the heap alone tells; a new thing of scalars comes out -/
def oCallH (G : List D → Option M) (f : Dfl) (a : Ah K tr) : Po K (tCall (spP K G) f.vs E0 tr) where
  ev := fun Γ => (a.ev Γ).bind fun ds => (G (ds ++ f.ds)).bind fun m => if m.sca = true then some m else none
  ok := fun {Γ m σ Hb H F Q} e w k => by
    obtain ⟨ds, e1, e'⟩ := Option.bind_eq_some_iff.mp e
    obtain ⟨m', e2, e3⟩ := Option.bind_eq_some_iff.mp e'
    split at e3
    · rename_i hs
      cases e3
      refine a.ok e1 w fun vs Hb2 H2 x1 x2 x3 x4 r => ⟨H2, ds ++ f.ds, _, Evl.Ex.refl _, reps_append r (f.ok K H2), e2, fun v Hb3 H3 Fr y1 y2 y3 y4 o nd fr => ?_⟩
      exact k v Hb2 H3 Fr x1 (Evl.Ex.trans x2 y2) (Evl.Ex.trans x3 y2) x4 (Own.base hs o) nd fun a ha => ⟨none_of_ex x3 (fr a ha).2, none_of_ex x2 (fr a ha).2⟩
    · cases e3
def oMethH (p : Ph K ta) (m : Str) (T : TabP) (f : Dfl) (a : Ah K tr) : Po K (tMethX m (tabP K T f) E0 ta tr) where
  ev := fun Γ => (p.ev Γ).bind fun x => (a.ev Γ).bind fun ds => (metD m T (ds ++ f.ds) x).bind fun m => if m.sca = true then some m else none
  ok := fun {Γ d σ Hb H F Q} e w k => by
    obtain ⟨x, e1, e'⟩ := Option.bind_eq_some_iff.mp e
    obtain ⟨ds, e2, e3'⟩ := Option.bind_eq_some_iff.mp e'
    obtain ⟨mr, e3, efz⟩ := Option.bind_eq_some_iff.mp e3'
    clear e e' e3'
    split at efz
    · rename_i hs
      cases efz
      unfold metD at e3
      split at e3
      · rename_i c ns l
        split at e3
        · rename_i hn
          obtain ⟨G, e4, e5⟩ := Option.bind_eq_some_iff.mp e3
          refine p.ok e1 w fun v Hb1 H1 x1 x2 x3 x4 r => ?_
          have r0 := r
          obtain ⟨a0, dx, xs, rfl, h1, h2, h3⟩ := r
          refine ⟨a0, dx, _, (clsA K c, spP K G, f.vs), rfl, h1, List.mem_map.mpr ⟨(c, G), getT_mem e4, rfl⟩, ixOf_none hn, ?_⟩
          refine a.ok e2 (w.pure x1 x2 x3 x4) fun vs Hb2 H2 y1 y2 y3 y4 r2 => ?_
          show spP K G (V.ref a0 :: (vs ++ f.vs)) H2 Q E0
          exact ⟨H2, .obj c ns l :: (ds ++ f.ds), _, Evl.Ex.refl _, ⟨_, _, rfl, rep_mono y2 r0, reps_append r2 (f.ok K H2)⟩, e5, fun v Hb3 H3 Fr z1 z2 z3 z4 o nd fr => k v Hb2 H3 Fr (Evl.Ex.trans x1 y1) (Evl.Ex.trans (Evl.Ex.trans x2 y2) z2) (Evl.Ex.trans y3 z2) (x4.trans y4 x2) (Own.base hs o) nd
            fun a ha => ⟨none_of_ex y3 (fr a ha).2, none_of_ex (Evl.Ex.trans x2 y2) (fr a ha).2⟩⟩
        · cases e3
      · cases e3
    · cases efz
def scaO (o : Option M) : Option M := o.bind fun m => if m.sca = true then some m else none
@[simp] theorem scaO_s {m : M} : scaO (some m) = if m.sca = true then some m else none := rfl
@[simp] theorem oCallH_ev {G : List D → Option M} {f : Dfl} {a : Ah K tr} : (oCallH G f a).ev Γ = (a.ev Γ).bind fun ds => scaO (G (ds ++ f.ds)) := rfl
@[simp] theorem oMethH_ev {p : Ph K ta} {m : Str} {T : TabP} {f : Dfl} {a : Ah K tr} : (oMethH p m T f a).ev Γ = (p.ev Γ).bind fun x => (a.ev Γ).bind fun ds => scaO (metD m T (ds ++ f.ds) x) := rfl
@[simp] theorem sca_int {i : Int} : M.sca (.im (.int i)) = true := rfl
@[simp] theorem sca_bl {i : Bool} : M.sca (.im (.bl i)) = true := rfl
@[simp] theorem sca_str {i : Str} : M.sca (.im (.str i)) = true := rfl
@[simp] theorem sca_non : M.sca (.im .non) = true := rfl
@[simp] theorem sca_nd {sh : Sh} {cs : List M} : M.sca (.nd sh cs) = M.scas cs := rfl
@[simp] theorem scas_nil : M.scas [] = true := rfl
@[simp] theorem scas_cons {m : M} {ms : List M} : M.scas (m :: ms) = (m.sca && M.scas ms) := rfl
theorem scas_map {α : Type} {f : α → M} (h : ∀ x, (f x).sca = true) : ∀ l : List α, M.scas (l.map f) = true
  | [] => rfl
  | x :: l => by simp [h x, scas_map h l]
@[simp] theorem scas_ints (l : List Int) : M.scas (l.map fun i => M.im (D.int i)) = true := scas_map (fun _ => rfl) l
@[simp] theorem scas_ints2 (l : List Int) : M.scas (l.map (M.im ∘ D.int)) = true := scas_map (fun _ => rfl) l
/-- xs * n -/
theorem reps_flat {H : Hp} {l : List D} {xs : List V} (h : reps K H l xs) : ∀ n, reps K H (List.replicate n l).flatten (List.replicate n xs).flatten
  | 0 => rfl
  | n + 1 => by
    rw [List.replicate_succ, List.replicate_succ, List.flatten_cons, List.flatten_cons]
    exact reps_append h (reps_flat h n)
def oRep : OpL2 K rRep where
  g := fun a b => match a, b with | .lst l, .int k => if -1000 ≤ k ∧ k ≤ 1000 ∧ l.length ≤ 100 then some (List.replicate k.toNat l).flatten else none | _, _ => none
  ok := fun {Hb H x y a b es} e ex ra rb => by
    split at e
    · split at e
      · rename_i l k hk
        cases e
        obtain ⟨p, xs, rfl, h1, h2⟩ := ra
        rw [show y = V.int k from rb]
        refine ⟨_, reps_flat h2 k.toNat, fun Q q => ⟨p, k, xs, rfl, rfl, ex _ _ h1, by omega, by omega, ?_, q⟩⟩
        have h3 : xs.length ≤ 100 := by rw [reps_len h2]; exact hk.2.2
        have h4 : k.toNat ≤ 1000 := by omega
        exact Evl.sz_of (Nat.le_trans (Nat.mul_le_mul h3 h4) (by decide))
      · cases e
    · cases e
@[simp] theorem oRep_g {l : List D} {k : Int} : (oRep (K := K)).g (.lst l) (.int k) = if -1000 ≤ k ∧ k ≤ 1000 ∧ l.length ≤ 100 then some (List.replicate k.toNat l).flatten else none := rfl
@[simp] theorem fzs_consA {m : M} {ms : List M} : M.fzs (m :: ms) = m.fz.bind fun d => (M.fzs ms).map fun ds => d :: ds := by
  simp only [M.fzs]
  cases m.fz with
  | none => rfl
  | some d => cases M.fzs ms <;> rfl
@[simp] theorem fzs_rep {n : Nat} {d : D} : M.fzs (List.replicate n (.im d)) = some (List.replicate n d) := by
  rw [← List.map_replicate, fzs_ims]
@[simp] theorem fzs_mapim {α : Type} {f : α → D} {l : List α} : M.fzs (l.map fun x => M.im (f x)) = some (l.map f) := by
  rw [show (l.map fun x => M.im (f x)) = (l.map f).map M.im by rw [List.map_map]; rfl, fzs_ims]
@[simp] theorem fzs_mapim2 {α : Type} {f : α → D} {l : List α} : M.fzs (l.map (M.im ∘ f)) = some (l.map f) := fzs_mapim
/-! ### displays of own things -/
structure Ao (K : PySem.W.Frag) (t : TA) where
  ev : List M → Option (List M)
  ok : ∀ {Γ ms : List M} {σ : St} {Hb H : Hp} {F : List Addr} {Q : List V → Hp → Prop}, ev Γ = some ms → WF K Γ σ Hb H F →
    (∀ vs Hb2 H2 Fr, Ex Hb Hb2 → Ex H H2 → Ex Hb2 H2 → NB Hb Hb2 H → OwnL K Hb2 H2 ms vs Fr → Fr.Nodup → (∀ a ∈ Fr, Hb2 a = none ∧ H a = none) → Q vs H2) → t σ H Q
def aoNil : Ao K tNil where
  ev := fun _ => some []
  ok := fun {Γ ms σ Hb H F Q} e w k => by
    cases e
    exact k [] Hb H [] (Evl.Ex.refl _) (Evl.Ex.refl _) w.ex NB.refl ⟨rfl, rfl⟩ List.nodup_nil (fun a h => by cases h)
def aoCons (a : Po K ta) (b : Ao K tr) : Ao K (tCons ta tr) where
  ev := fun Γ => (a.ev Γ).bind fun x => (b.ev Γ).map fun y => x :: y
  ok := fun {Γ ms σ Hb H F Q} e w k => by
    obtain ⟨x, e1, e'⟩ := Option.bind_eq_some_iff.mp e
    obtain ⟨y, e2, rfl⟩ := Option.map_eq_some_iff.mp e'
    refine a.ok e1 w fun v1 Hb1 H1 Fr1 x1 x2 x3 x4 o1 n1 f1 => ?_
    refine b.ok e2 (w.pure x1 x2 x3 x4) fun v2 Hb2 H2 Fr2 y1 y2 y3 y4 o2 n2 f2 => ?_
    have b1 : ∀ a ∈ Fr1, Hb2 a = none := fun a ha => by
      cases q : Hb2 a with
      | none => rfl
      | some u =>
        rcases y4 a (by rw [q]; simp) with z | z
        · exact absurd (f1 a ha).1 z
        · exact absurd z (o1.there a ha)
    refine k _ Hb2 H2 (Fr1 ++ Fr2) (Evl.Ex.trans x1 y1) (Evl.Ex.trans x2 y2) y3 (x4.trans y4 x2) ⟨v1, v2, Fr1, Fr2, rfl, o1.keep y1 fun a _ o h => y2 a o h, o2, rfl⟩ ?_ fun a ha => ?_
    · rw [List.nodup_append]
      refine ⟨n1, n2, fun a ha b hb e => ?_⟩
      subst e
      exact o1.there a ha (f2 a hb).2
    · rcases List.mem_append.mp ha with z | z
      · exact ⟨b1 a z, (f1 a z).2⟩
      · exact ⟨(f2 a z).1, none_of_ex x2 (f2 a z).2⟩
def oLstM (a : Ao K tr) : Po K (tLst tr) where
  ev := fun Γ => (a.ev Γ).bind fun ms => if lineD ms.length then some (.nd .lst ms) else none
  ok := fun {Γ m σ Hb H F Q} e w k => by
    obtain ⟨ms, e1, e'⟩ := Option.bind_eq_some_iff.mp e
    split at e'
    · rename_i hl
      cases e'
      refine a.ok e1 w fun vs Hb2 H2 Fr x1 x2 x3 x4 o nd fr => ⟨by rw [ownL_len o]; exact lineD_ok hl, fun p hp => ?_⟩
      have ex : Ex H2 (upd H2 p (.lst vs)) := Evl.Ex.new hp
      have hn : p ∉ Fr := fun z => o.there p z hp
      refine k (.ref p) Hb2 _ (p :: Fr) x1 (Evl.Ex.trans x2 ex) (Evl.Ex.trans x3 ex) x4 ⟨p, 0, vs, Fr, rfl, upd_same, True.intro, ownL_upd o hn, rfl⟩ (List.nodup_cons.mpr ⟨hn, nd⟩) fun a ha => ?_
      rcases List.mem_cons.mp ha with rfl | ha
      · exact ⟨none_of_ex x3 hp, none_of_ex x2 hp⟩
      · exact fr a ha
    · cases e'
@[simp] theorem aoNil_ev : (aoNil (K := K)).ev Γ = some [] := rfl
@[simp] theorem aoCons_ev {a : Po K ta} {b : Ao K tr} : (aoCons a b).ev Γ = (a.ev Γ).bind fun x => (b.ev Γ).map fun y => x :: y := rfl
@[simp] theorem oLstM_ev {a : Ao K tr} : (oLstM a).ev Γ = (a.ev Γ).bind fun ms => if lineD ms.length then some (.nd .lst ms) else none := rfl
end
/-- each turn adds one -/
theorem forRun_build {α γ : Type} {asg : List M → D → Option (List M)} {body : List M → Option Ct} (f : α → D) (g : α → γ) (S : List γ → List M → Prop) (N : Nat) : ∀ (l : List α) (b : List γ) (Γ : List M), S b Γ → b.length + l.length ≤ N →
    (∀ a ∈ l, ∀ b Γ, b.length < N → S b Γ → ∃ Γ1 Γ2, asg Γ (f a) = some Γ1 ∧ Onw (body Γ1) Γ2 ∧ S (b ++ [g a]) Γ2) → ∃ Γ', forRun asg body (l.map f) Γ = some (.nx Γ') ∧ S (b ++ l.map g) Γ'
  | [], b, Γ, r, _, _ => ⟨Γ, rfl, by simpa using r⟩
  | a :: l, b, Γ, r, hN, h => by
    simp only [List.length_cons] at hN
    obtain ⟨Γ1, Γ2, h1, h2, h3⟩ := h a List.mem_cons_self b Γ (by omega) r
    obtain ⟨Γ', h4, h5⟩ := forRun_build f g S N l (b ++ [g a]) Γ2 h3 (by simp; omega) fun x hx => h x (List.mem_cons_of_mem _ hx)
    exact ⟨Γ', (forRun_onw h1 h2).trans h4, by simpa using h5⟩
section
variable {K : PySem.W.Frag} {pn : Nat → Bool} {ta tb tc te ti : TE} {tr : TA} {t u : TT} {ts ts' tS : TS} {g : TG} {gs : TGs} {wi : TI} {Γ Γ1 : List M}
/-! ### one step at a time -/
theorem seq_nx {a : Sx K pn ts} {b : Sx K pn ts'} (h : a.ev Γ = some (.nx Γ1)) : (sSeq a b).ev Γ = b.ev Γ1 := by
  rw [sSeq_ev, h]; rfl
theorem srcR1_at {a : Ah K tr} {n : Nat} (h : a.ev Γ = some [.int (n : Int)]) (hn : n ≤ 1000000) : (srcR1 a).ev Γ = some (rangeD 0 n) := by
  rw [srcR1_ev, h, Option.bind_some]
  show (if -(2 ^ 62) ≤ (n : Int) ∧ (n : Int) < 2 ^ 62 then some (rangeD 0 ((n : Int)).toNat) else none) = _
  rw [if_pos ⟨by omega, by omega⟩]; rfl
theorem for_at {s : Src K wi} {q : Gt K pn g} {b : Sx K pn ts} {ds : List D} {c : Ct} (h : s.ev Γ = some ds) (r : forRun q.asg b.ev ds Γ = some c) : (sFor s q b).ev Γ = some c := by
  rw [sFor_ev, h]; exact r
theorem fz_at {i : Nat} {m : M} {d : D} {s : Sx K pn ts} {r : Option Ct} (h : Γ[i]? = some m) (hd : m.fz = some d) (e : s.ev (Γ.set i (.im d)) = r) : (sFz i s).ev Γ = r := by
  rw [sFz_ev, h, Option.bind_some, hd]; exact e
end
end KS

namespace Law
open PySem PySem.Spec L2 KS
def topS (i : Nat) : Stmt := PySem.Challenge.pw_keepsakes_k07_whole_row_of_days.main.body.getD i (.Pass ⟨0, 0, 0, 0⟩)
abbrev s__law_cell_at : Stmt := topS 13
abbrev N__law_cell_at : List Str := ["_law_script", "_law_k"]
theorem sc__law_cell_at : FnScope N__law_cell_at ["_law_script", "_law_k"] (defScope s__law_cell_at) := ⟨rfl, rfl, rfl, by decide +kernel, rfl, by decide +kernel, by decide +kernel⟩
abbrev s_Days_init : Stmt := inClass (topS 11) 0
abbrev N_Days_init : List Str := ["self", "wide"]
theorem sc_Days_init : FnScope N_Days_init ["self", "wide"] (defScope s_Days_init) := ⟨rfl, rfl, rfl, by decide +kernel, rfl, by decide +kernel, by decide +kernel⟩
abbrev s__law_mix : Stmt := topS 15
abbrev N__law_mix : List Str := ["_law_cell", "_law_k", "_law_m"]
theorem sc__law_mix : FnScope N__law_mix ["_law_cell", "_law_k"] (defScope s__law_mix) := ⟨rfl, rfl, rfl, by decide +kernel, rfl, by decide +kernel, by decide +kernel⟩
abbrev s__law_block : Stmt := topS 16
abbrev N__law_block : List Str := ["_law_cell", "_law_k", "_law_m"]
theorem sc__law_block : FnScope N__law_block ["_law_cell", "_law_k"] (defScope s__law_block) := ⟨rfl, rfl, rfl, by decide +kernel, rfl, by decide +kernel, by decide +kernel⟩
abbrev s__law_changes : Stmt := topS 17
abbrev N__law_changes : List Str := ["_law_cell", "_law_wide", "_law_k", "_law_changes_here", "_law_place"]
theorem sc__law_changes : FnScope N__law_changes ["_law_cell", "_law_wide"] (defScope s__law_changes) := ⟨rfl, rfl, rfl, by decide +kernel, rfl, by decide +kernel, by decide +kernel⟩
abbrev s__law_next : Stmt := topS 18
abbrev N__law_next : List Str := ["_law_table", "_law_changes_here", "_law_due", "_law_place", "_law_block_here"]
theorem sc__law_next : FnScope N__law_next ["_law_table", "_law_changes_here"] (defScope s__law_next) := ⟨rfl, rfl, rfl, by decide +kernel, rfl, by decide +kernel, by decide +kernel⟩
abbrev s_look_through : Stmt := topS 10
abbrev N_look_through : List Str := ["changes", "wide", "place", "block"]
theorem sc_look_through : FnScope N_look_through ["changes", "wide"] (defScope s_look_through) := ⟨rfl, rfl, rfl, by decide +kernel, rfl, by decide +kernel, by decide +kernel⟩
abbrev s_Days_passes : Stmt := inClass (topS 11) 1
abbrev N_Days_passes : List Str := ["self", "changes", "table", "places", "place", "block"]
theorem sc_Days_passes : FnScope N_Days_passes ["self", "changes"] (defScope s_Days_passes) := ⟨rfl, rfl, rfl, by decide +kernel, rfl, by decide +kernel, by decide +kernel⟩
abbrev s__law_whole : Stmt := topS 14
abbrev N__law_whole : List Str := ["_law_found"]
theorem sc__law_whole : FnScope N__law_whole ["_law_found"] (defScope s__law_whole) := ⟨rfl, rfl, rfl, by decide +kernel, rfl, by decide +kernel, by decide +kernel⟩
abbrev s_Days_need : Stmt := inClass (topS 11) 2
abbrev N_Days_need : List Str := ["self", "day"]
theorem sc_Days_need : FnScope N_Days_need ["self", "day"] (defScope s_Days_need) := ⟨rfl, rfl, rfl, by decide +kernel, rfl, by decide +kernel, by decide +kernel⟩
abbrev s_Days_table : Stmt := inClass (topS 11) 3
abbrev N_Days_table : List Str := ["self", "day"]
theorem sc_Days_table : FnScope N_Days_table ["self", "day"] (defScope s_Days_table) := ⟨rfl, rfl, rfl, by decide +kernel, rfl, by decide +kernel, by decide +kernel⟩
abbrev s__law_alike : Stmt := topS 19
abbrev N__law_alike : List Str := ["_law_found", "_law_due", "_law_one", "_law_other"]
theorem sc__law_alike : FnScope N__law_alike ["_law_found", "_law_due"] (defScope s__law_alike) := ⟨rfl, rfl, rfl, by decide +kernel, rfl, by decide +kernel, by decide +kernel⟩
abbrev s_law : Stmt := topS 20
abbrev N_law : List Str := ["_law_script", "_law_wides", "_law_rows", "_law_tables", "_law_kept", "_law_k", "_law_cell", "_law_side", "_law_changes_here", "_law_day", "_law_some", "_law_found"]
theorem sc_law : FnScope N_law ["_law_script"] (defScope s_law) := ⟨rfl, rfl, rfl, by decide +kernel, rfl, by decide +kernel, by decide +kernel⟩
@[simp] theorem nq_0_1 : ((("last" : Str)) = ("need" : Str)) = False := eq_false (by decide +kernel)
@[simp] theorem nq_0_2 : ((("last" : Str)) = ("passes" : Str)) = False := eq_false (by decide +kernel)
@[simp] theorem nq_0_3 : ((("last" : Str)) = ("places" : Str)) = False := eq_false (by decide +kernel)
@[simp] theorem nq_0_4 : ((("last" : Str)) = ("table" : Str)) = False := eq_false (by decide +kernel)
@[simp] theorem nq_0_5 : ((("last" : Str)) = ("tables" : Str)) = False := eq_false (by decide +kernel)
@[simp] theorem nq_0_6 : ((("last" : Str)) = ("wide" : Str)) = False := eq_false (by decide +kernel)
@[simp] theorem nq_1_0 : ((("need" : Str)) = ("last" : Str)) = False := eq_false (by decide +kernel)
@[simp] theorem nq_1_2 : ((("need" : Str)) = ("passes" : Str)) = False := eq_false (by decide +kernel)
@[simp] theorem nq_1_3 : ((("need" : Str)) = ("places" : Str)) = False := eq_false (by decide +kernel)
@[simp] theorem nq_1_4 : ((("need" : Str)) = ("table" : Str)) = False := eq_false (by decide +kernel)
@[simp] theorem nq_1_5 : ((("need" : Str)) = ("tables" : Str)) = False := eq_false (by decide +kernel)
@[simp] theorem nq_1_6 : ((("need" : Str)) = ("wide" : Str)) = False := eq_false (by decide +kernel)
@[simp] theorem nq_2_0 : ((("passes" : Str)) = ("last" : Str)) = False := eq_false (by decide +kernel)
@[simp] theorem nq_2_1 : ((("passes" : Str)) = ("need" : Str)) = False := eq_false (by decide +kernel)
@[simp] theorem nq_2_3 : ((("passes" : Str)) = ("places" : Str)) = False := eq_false (by decide +kernel)
@[simp] theorem nq_2_4 : ((("passes" : Str)) = ("table" : Str)) = False := eq_false (by decide +kernel)
@[simp] theorem nq_2_5 : ((("passes" : Str)) = ("tables" : Str)) = False := eq_false (by decide +kernel)
@[simp] theorem nq_2_6 : ((("passes" : Str)) = ("wide" : Str)) = False := eq_false (by decide +kernel)
@[simp] theorem nq_3_0 : ((("places" : Str)) = ("last" : Str)) = False := eq_false (by decide +kernel)
@[simp] theorem nq_3_1 : ((("places" : Str)) = ("need" : Str)) = False := eq_false (by decide +kernel)
@[simp] theorem nq_3_2 : ((("places" : Str)) = ("passes" : Str)) = False := eq_false (by decide +kernel)
@[simp] theorem nq_3_4 : ((("places" : Str)) = ("table" : Str)) = False := eq_false (by decide +kernel)
@[simp] theorem nq_3_5 : ((("places" : Str)) = ("tables" : Str)) = False := eq_false (by decide +kernel)
@[simp] theorem nq_3_6 : ((("places" : Str)) = ("wide" : Str)) = False := eq_false (by decide +kernel)
@[simp] theorem nq_4_0 : ((("table" : Str)) = ("last" : Str)) = False := eq_false (by decide +kernel)
@[simp] theorem nq_4_1 : ((("table" : Str)) = ("need" : Str)) = False := eq_false (by decide +kernel)
@[simp] theorem nq_4_2 : ((("table" : Str)) = ("passes" : Str)) = False := eq_false (by decide +kernel)
@[simp] theorem nq_4_3 : ((("table" : Str)) = ("places" : Str)) = False := eq_false (by decide +kernel)
@[simp] theorem nq_4_5 : ((("table" : Str)) = ("tables" : Str)) = False := eq_false (by decide +kernel)
@[simp] theorem nq_4_6 : ((("table" : Str)) = ("wide" : Str)) = False := eq_false (by decide +kernel)
@[simp] theorem nq_5_0 : ((("tables" : Str)) = ("last" : Str)) = False := eq_false (by decide +kernel)
@[simp] theorem nq_5_1 : ((("tables" : Str)) = ("need" : Str)) = False := eq_false (by decide +kernel)
@[simp] theorem nq_5_2 : ((("tables" : Str)) = ("passes" : Str)) = False := eq_false (by decide +kernel)
@[simp] theorem nq_5_3 : ((("tables" : Str)) = ("places" : Str)) = False := eq_false (by decide +kernel)
@[simp] theorem nq_5_4 : ((("tables" : Str)) = ("table" : Str)) = False := eq_false (by decide +kernel)
@[simp] theorem nq_5_6 : ((("tables" : Str)) = ("wide" : Str)) = False := eq_false (by decide +kernel)
@[simp] theorem nq_6_0 : ((("wide" : Str)) = ("last" : Str)) = False := eq_false (by decide +kernel)
@[simp] theorem nq_6_1 : ((("wide" : Str)) = ("need" : Str)) = False := eq_false (by decide +kernel)
@[simp] theorem nq_6_2 : ((("wide" : Str)) = ("passes" : Str)) = False := eq_false (by decide +kernel)
@[simp] theorem nq_6_3 : ((("wide" : Str)) = ("places" : Str)) = False := eq_false (by decide +kernel)
@[simp] theorem nq_6_4 : ((("wide" : Str)) = ("table" : Str)) = False := eq_false (by decide +kernel)
@[simp] theorem nq_6_5 : ((("wide" : Str)) = ("tables" : Str)) = False := eq_false (by decide +kernel)
/-- what the top has written -/
structure Txt (K : PySem.W.Frag) (mg : Str → Option Value) (fa : Nat → Addr) (fd : Nat → FuncData) : Prop where
  F__law_cell_at : Fun K "_law_cell_at" "_law_cell_at" s__law_cell_at (fa 13) (fd 13)
  g__law_cell_at : mg "_law_cell_at" = some (.ref (fa 13))
  b__law_cell_at : Binds K (fd 13) ["_law_script", "_law_k"] []
  F_Days_init : Fun K "__init__" "Days.__init__" s_Days_init (fa 1550) (fd 1550)
  b_Days_init : Binds K (fd 1550) ["self", "wide"] []
  F__law_mix : Fun K "_law_mix" "_law_mix" s__law_mix (fa 15) (fd 15)
  g__law_mix : mg "_law_mix" = some (.ref (fa 15))
  b__law_mix : Binds K (fd 15) ["_law_cell", "_law_k"] []
  F__law_block : Fun K "_law_block" "_law_block" s__law_block (fa 16) (fd 16)
  g__law_block : mg "_law_block" = some (.ref (fa 16))
  b__law_block : Binds K (fd 16) ["_law_cell", "_law_k"] []
  F__law_changes : Fun K "_law_changes" "_law_changes" s__law_changes (fa 17) (fd 17)
  g__law_changes : mg "_law_changes" = some (.ref (fa 17))
  b__law_changes : Binds K (fd 17) ["_law_cell", "_law_wide"] []
  F__law_next : Fun K "_law_next" "_law_next" s__law_next (fa 18) (fd 18)
  g__law_next : mg "_law_next" = some (.ref (fa 18))
  b__law_next : Binds K (fd 18) ["_law_table", "_law_changes_here"] []
  F_look_through : Fun K "look_through" "look_through" s_look_through (fa 10) (fd 10)
  g_look_through : mg "look_through" = some (.ref (fa 10))
  b_look_through : Binds K (fd 10) ["changes", "wide"] []
  F_Days_passes : Fun K "passes" "Days.passes" s_Days_passes (fa 1551) (fd 1551)
  b_Days_passes : Binds K (fd 1551) ["self", "changes"] []
  F__law_whole : Fun K "_law_whole" "_law_whole" s__law_whole (fa 14) (fd 14)
  g__law_whole : mg "_law_whole" = some (.ref (fa 14))
  b__law_whole : Binds K (fd 14) ["_law_found"] []
  F_Days_need : Fun K "need" "Days.need" s_Days_need (fa 1552) (fd 1552)
  b_Days_need : Binds K (fd 1552) ["self", "day"] []
  F_Days_table : Fun K "table" "Days.table" s_Days_table (fa 1553) (fd 1553)
  b_Days_table : Binds K (fd 1553) ["self", "day"] []
  F__law_alike : Fun K "_law_alike" "_law_alike" s__law_alike (fa 19) (fd 19)
  g__law_alike : mg "_law_alike" = some (.ref (fa 19))
  b__law_alike : Binds K (fd 19) ["_law_found", "_law_due"] []
  F_law : Fun K "law" "law" s_law (fa 20) (fd 20)
  g_law : mg "law" = some (.ref (fa 20))
  b_law : Binds K (fd 20) ["_law_script"] []
  cl_Days : Cls K (clsA K "Days")
  gc_Days : mg "Days" = some (.ref (clsA K "Days"))
  n_Days_last : NoAttr K (clsA K "Days") "last"
  n_Days_places : NoAttr K (clsA K "Days") "places"
  n_Days_tables : NoAttr K (clsA K "Days") "tables"
  n_Days_wide : NoAttr K (clsA K "Days") "wide"
  m_Days_need : Meth K (clsA K "Days") "need" (fa 1552)
  m_Days_passes : Meth K (clsA K "Days") "passes" (fa 1551)
  m_Days_table : Meth K (clsA K "Days") "table" (fa 1553)
  mk_Days_Days_init : Mk K (clsA K "Days") (fa 1550)
  z_bool : mg "bool" = none
  z_int : mg "int" = none
  z_isinstance : mg "isinstance" = none
  z_len : mg "len" = none
  z_list : mg "list" = none
  z_min : mg "min" = none
  z_range : mg "range" = none
  z_zip : mg "zip" = none
  c_MOST_BLOCK : ∃ t, mg "MOST_BLOCK" = some (.int 18446744073709551615 t)
  c_MOST_WIDE : ∃ t, mg "MOST_WIDE" = some (.int 40 t)
def LD : List Str := ["wide", "last", "tables", "places"]
def tabM (t : List Int) : M := .im (.lst (t.map D.int))
/-- a row of days as an own thing -/
def daysM (w : Int) (T : List (List Int)) (Q : List D) : M := .nd (.ins "Days" ["wide", "last", "tables", "places"]) [.im (.int w), .im (.int ((T.length : Int) - 1)), .nd .lst (T.map tabM), .nd .lst (Q.map M.im)]
def daysD (w : Int) (T : List (List Int)) (Q : List D) : D := .obj "Days" ["wide", "last", "tables", "places"] [.int w, .int ((T.length : Int) - 1), .lst (T.map fun t => .lst (t.map D.int)), .lst Q]
theorem tabs_fz (T : List (List Int)) : M.fzs (T.map tabM) = some (T.map fun t => D.lst (t.map D.int)) := by
  have : T.map tabM = (T.map fun t => D.lst (t.map D.int)).map M.im := by rw [List.map_map]; rfl
  rw [this, fzs_ims]
theorem days_fz (w : Int) (T : List (List Int)) (Q : List D) : (daysM w T Q).fz = some (daysD w T Q) := by
  simp [daysM, daysD, tabs_fz]
def okC (w : Int) (ch : List (Int × Int)) : Bool := ch.all fun c => decide (0 ≤ c.1) && decide (c.1 < w) && decide (0 ≤ c.2) && decide (c.2 ≤ 18446744073709551615)
def setAll (t : List Int) (ch : List (Int × Int)) : List Int := ch.foldl (fun t c => t.set c.1.toNat c.2) t
theorem setAll_len : ∀ (ch : List (Int × Int)) (t : List Int), (setAll t ch).length = t.length
  | [], _ => rfl
  | c :: ch, t => by
    show (setAll (t.set c.1.toNat c.2) ch).length = _
    rw [setAll_len ch, List.length_set]

def b__law_cell_at {K : PySem.W.Frag} := ((sSeq (sIf (tTst (b2 (oIB fun i j => decide (i < j)) ((bVar 1)).h ((bCB oLen (ahCons ((bVar 0)).h aNil.h))).h).h) (sRet (bIxL (bVar 0) ((bVar 1)).h)) sNext)
    (sRet (bInt 0))) : Sx K pn0 _)
def G__law_cell_at {K : PySem.W.Frag} (ds : List D) : Option M := runF 2 2 (b__law_cell_at (K := K)).ev ds
def m_cell0 : List D → Option M
  | [.scr l, .int k] => if 0 ≤ k then (if k < (l.length : Int) then (l[k.toNat]?).map M.im else some (.im (.int 0))) else none
  | _ => none
theorem e__law_cell_at {K : PySem.W.Frag} (ds : List D) (m : M) (h : m_cell0 ds = some m) : G__law_cell_at (K := K) ds = some m := by
  unfold m_cell0 at h
  split at h
  · rename_i l k
    split at h
    · rename_i h0
      split at h
      · rename_i h1
        obtain ⟨d, e1, rfl⟩ := Option.map_eq_some_iff.mp h
        have e2 : atD l k = some d := by
          unfold atD atI ixN
          rw [if_pos h0, if_pos h1]
          exact e1
        unfold G__law_cell_at b__law_cell_at
        simp [runF, runP, startG, sSeq, sIf, sRet, sRetO, sRetV, sRetN, sNext, sAsg, sAsgO, sApp, sFor, sDrop, sAug, sBrk, sCont, gN, gT, gsCons, gsNil, b2, oIC, oII, oIB, oEq, oNe, bVar, hVar, bInt, bStr, bBl, bNon, bC, bTy, bNeg, bIsN, bNotN, bAnV, bOrV, bNtV, bIf, bChain, Pb.h, Ph.s, Po.b, Po.h, Ab.h, tTst, tBv, tNt, tAn, tO, eqD, D.toP, asB, D.sc, D.isNon, D.asL, D.asS, D.tyn, sh_i, sh_b, oEqS, oNeS, eqS, ev_ii, ev_ss, ev_bb, aNil, aCons, ahCons, oLst, oTup, hTup, hLst, bCB, oLen, oLenS, oIsi, oInt1, oMin2, oMax2, oCBL, oList, o2L, oCat, oSlL, noPart, aPart, oLc, yTst, srcL, srcT, srcR1, srcR2, srcS, srcE, srcZ, bIxL, bIxT, hIxL, oCall, hCall, bCall, noDfl, M.fz, M.fzs, lineD, pn0, outM, kit_ii, kit_ib, kit_bi, kit_bb, kit_ll, kit_tt, kit_ss, h1, e2]
      · rename_i h1
        cases h
        unfold G__law_cell_at b__law_cell_at
        simp [runF, runP, startG, sSeq, sIf, sRet, sRetO, sRetV, sRetN, sNext, sAsg, sAsgO, sApp, sFor, sDrop, sAug, sBrk, sCont, gN, gT, gsCons, gsNil, b2, oIC, oII, oIB, oEq, oNe, bVar, hVar, bInt, bStr, bBl, bNon, bC, bTy, bNeg, bIsN, bNotN, bAnV, bOrV, bNtV, bIf, bChain, Pb.h, Ph.s, Po.b, Po.h, Ab.h, tTst, tBv, tNt, tAn, tO, eqD, D.toP, asB, D.sc, D.isNon, D.asL, D.asS, D.tyn, sh_i, sh_b, oEqS, oNeS, eqS, ev_ii, ev_ss, ev_bb, aNil, aCons, ahCons, oLst, oTup, hTup, hLst, bCB, oLen, oLenS, oIsi, oInt1, oMin2, oMax2, oCBL, oList, o2L, oCat, oSlL, noPart, aPart, oLc, yTst, srcL, srcT, srcR1, srcR2, srcS, srcE, srcZ, bIxL, bIxT, hIxL, oCall, hCall, bCall, noDfl, M.fz, M.fzs, lineD, pn0, outM, kit_ii, kit_ib, kit_bi, kit_bb, kit_ll, kit_tt, kit_ss, h1]
    · cases h
  · cases h

theorem ok__law_cell_at {P : Program} {w : World} {K : PySem.W.Frag} {mg : Str → Option Value} {base : Heap} {fa : Nat → Addr} {fd : Nat → FuncData} (Z : Txt K mg fa fd) : FnOk P w K mg base CX0 1 (fa 13) (fd 13) ["_law_script", "_law_k"] (spP K m_cell0) := by
  refine FnOk.imp (sp := spP K (G__law_cell_at (K := K))) ?_ (spP_imp fun ds m hm => e__law_cell_at ds m hm)
  refine Z.F__law_cell_at.ok sc__law_cell_at (spP_len runF_len) (fun cdv A outer s H vs Q E hr h => ?_)
  refine ⟨_, (pss_cons (ps_if (pt_cmpR op_lt (pv 1) (pe_callB call_len_seq (by rfl) Z.z_len (by decide +kernel) (pa_cons (pv 0) pa_nil)) (nomark _)) (pss_one (ps_ret (pe_ix ix_list (pv 0) (pv 1) (fun _ _ => rfl)))) pss_nil)
      (pss_one (ps_ret pe_int))), ?_⟩
  exact pure_bodyF b__law_cell_at h
def b_Days_init {K : PySem.W.Frag} := ((sSeq (sIf (tNt (tTst (bChain (oIB fun i j => decide (i ≤ j)) (oIB fun i j => decide (i ≤ j)) ((bInt 1)).h ((bVar 1)).h ((bInt 40)).h).h)) sNever sNext)
    (sSeq (sFldP (pVar 0) ("wide" : Str) ["Days"] ((bVar 1)).o)
    (sSeq (sFldP (pVar 0) ("last" : Str) ["Days"] ((bInt 0)).o)
    (sSeq (sFldP (pVar 0) ("tables" : Str) ["Days"] (oLst (aCons ((o2L oRep ((oLst (aCons (bInt 0) aNil))).b (bVar 1))).b aNil)))
    (sFldP (pVar 0) ("places" : Str) ["Days"] (oLst (aCons ((oLst aNil)).b aNil))))))) : Sx K pn1 _)
def G_Days_init {K : PySem.W.Frag} (m0 : M) (ds : List D) : Option (M × M) := runI 2 2 (b_Days_init (K := K)).ev m0 ds
def m_init : M → List D → Option (M × M)
  | .nd (.ins c []) [], [.int w] => if c = "Days" ∧ 1 ≤ w ∧ w ≤ 40 then some (.im .non, daysM w [List.replicate w.toNat 0] [.lst []]) else none
  | _, _ => none
theorem flat_one (n : Nat) : (List.replicate n [D.int 0]).flatten = (List.replicate n (0 : Int)).map D.int := by
  induction n with
  | zero => rfl
  | succ n ih => rw [List.replicate_succ, List.flatten_cons, ih, List.replicate_succ]; rfl
theorem e_Days_init {K : PySem.W.Frag} (m0 : M) (ds : List D) (q : M × M) (h : m_init m0 ds = some q) : G_Days_init (K := K) m0 ds = some q := by
  unfold m_init at h
  split at h
  · rename_i c w
    split at h
    · rename_i hc
      cases h
      obtain ⟨rfl, h1, h2⟩ := hc
      have h3 : (-1000 : Int) ≤ w := by omega
      have h4 : w ≤ 1000 := by omega
      unfold G_Days_init b_Days_init
      simp [startI, h1, h2, h3, h4, lineD, flat_one, daysM, tabM]
    · cases h
  · cases h

theorem ok_Days_init {P : Program} {w : World} {K : PySem.W.Frag} {mg : Str → Option Value} {base : Heap} {fa : Nat → Addr} {fd : Nat → FuncData} (Z : Txt K mg fa fd) : FnOk P w K mg base CX0 1 (fa 1550) (fd 1550) ["self", "wide"] (spI K m_init) := by
  obtain ⟨t_MOST_WIDE, c_MOST_WIDE⟩ := Z.c_MOST_WIDE
  refine FnOk.imp (sp := spI K (G_Days_init (K := K))) ?_ (spI_imp fun m0 ds q hm => e_Days_init m0 ds q hm)
  refine Z.F_Days_init.ok sc_Days_init (spI_len runI_len) (fun cdv A outer s H vs Q E hr h => ?_)
  refine ⟨_, (pss_cons (ps_if (pt_not (pt_chain op_le op_le pe_int (pv 1) (pe_glob (v := .int 40) rfl c_MOST_WIDE ⟨_, rfl⟩))) (pss_one ps_never) pss_nil)
      (pss_cons (ps_fldX (FOk.cons Z.cl_Days Z.n_Days_wide FOk.nil) (pv 0) (pv 1) rfl)
      (pss_cons (ps_fldX (FOk.cons Z.cl_Days Z.n_Days_last FOk.nil) (pv 0) pe_int rfl)
      (pss_cons (ps_fldX (FOk.cons Z.cl_Days Z.n_Days_tables FOk.nil) (pv 0) (pe_lst (pa_cons (pe_op op_rep (pe_lst (pa_cons pe_int pa_nil)) (pv 1)) pa_nil)) rfl)
      (pss_one (ps_fldX (FOk.cons Z.cl_Days Z.n_Days_places FOk.nil) (pv 0) (pe_lst (pa_cons (pe_lst pa_nil) pa_nil)) rfl)))))), ?_⟩
  exact inout_body b_Days_init h
def b__law_mix {K : PySem.W.Frag} := ((sSeq (sAsg (b2 (oIC (fun _ j => 0 < j) fun i j => i % j) ((b2 (oIC CMul fun i j => i * j) ((b2 (oII fun i j => i + j) ((b2 (oII fun i j => i + j) ((b2 (oIC (fun _ j => 0 < j) fun i j => i % j) ((bVar 0)).h ((bInt 2147483647)).h)).h ((b2 (oIC CMul fun i j => i * j) ((bInt 48271)).h ((bVar 1)).h)).h)).h ((bInt 11)).h)).h ((bInt 16807)).h)).h ((bInt 2147483629)).h) (gN 2))
    (sRet (b2 (oIC (fun _ j => 0 < j) fun i j => i % j) ((b2 (oII fun i j => i + j) ((b2 (oIC CMul fun i j => i * j) ((bVar 2)).h ((bVar 2)).h)).h ((b2 (oIC CMul fun i j => i * j) ((bInt 7919)).h ((bVar 1)).h)).h)).h ((bInt 2147483587)).h))) : Sx K pn0 _)
def G__law_mix {K : PySem.W.Frag} (ds : List D) : Option M := runF 2 3 (b__law_mix (K := K)).ev ds
def mixI (c k : Int) : Int := (((c % 2147483647 + 48271 * k + 11) * 16807 % 2147483629) * ((c % 2147483647 + 48271 * k + 11) * 16807 % 2147483629) + 7919 * k) % 2147483587
def m_mix : List D → Option M
  | [.int c, .int k] => some (.im (.int (mixI c k)))
  | _ => none
theorem e__law_mix {K : PySem.W.Frag} (ds : List D) (m : M) (h : m_mix ds = some m) : G__law_mix (K := K) ds = some m := by
  unfold m_mix at h
  split at h
  · rename_i c k
    cases h
    have h1 : CMul 48271 k := .inl ⟨by decide, by decide⟩
    have h2 : ∀ x, CMul x 16807 := fun x => .inr ⟨by decide, by decide⟩
    have h3 : CMul ((c % 2147483647 + 48271 * k + 11) * 16807 % 2147483629) ((c % 2147483647 + 48271 * k + 11) * 16807 % 2147483629) := .inl ⟨by omega, by omega⟩
    have h4 : CMul 7919 k := .inl ⟨by decide, by decide⟩
    unfold G__law_mix b__law_mix
    simp [runF, runP, startG, sSeq, sIf, sRet, sRetO, sRetV, sRetN, sNext, sAsg, sAsgO, sApp, sFor, sDrop, sAug, sBrk, sCont, gN, gT, gsCons, gsNil, b2, oIC, oII, oIB, oEq, oNe, bVar, hVar, bInt, bStr, bBl, bNon, bC, bTy, bNeg, bIsN, bNotN, bAnV, bOrV, bNtV, bIf, bChain, Pb.h, Ph.s, Po.b, Po.h, Ab.h, tTst, tBv, tNt, tAn, tO, eqD, D.toP, asB, D.sc, D.isNon, D.asL, D.asS, D.tyn, sh_i, sh_b, oEqS, oNeS, eqS, ev_ii, ev_ss, ev_bb, aNil, aCons, ahCons, oLst, oTup, hTup, hLst, bCB, oLen, oLenS, oIsi, oInt1, oMin2, oMax2, oCBL, oList, o2L, oCat, oSlL, noPart, aPart, oLc, yTst, srcL, srcT, srcR1, srcR2, srcS, srcE, srcZ, bIxL, bIxT, hIxL, oCall, hCall, bCall, noDfl, M.fz, M.fzs, lineD, pn0, outM, kit_ii, kit_ib, kit_bi, kit_bb, kit_ll, kit_tt, kit_ss, h1, h2, h3, h4, mixI]
  · cases h

theorem ok__law_mix {P : Program} {w : World} {K : PySem.W.Frag} {mg : Str → Option Value} {base : Heap} {fa : Nat → Addr} {fd : Nat → FuncData} (Z : Txt K mg fa fd) : FnOk P w K mg base CX0 1 (fa 15) (fd 15) ["_law_cell", "_law_k"] (spP K m_mix) := by
  refine FnOk.imp (sp := spP K (G__law_mix (K := K))) ?_ (spP_imp fun ds m hm => e__law_mix ds m hm)
  refine Z.F__law_mix.ok sc__law_mix (spP_len runF_len) (fun cdv A outer s H vs Q E hr h => ?_)
  refine ⟨_, (pss_cons (ps_set (i := 2) sc__law_mix.nd rfl (Or.inl rfl) (pe_op op_mod (pe_op op_mul (pe_op op_add (pe_op op_add (pe_op op_mod (pv 0) pe_int) (pe_op op_mul pe_int (pv 1))) pe_int) pe_int) pe_int))
      (pss_one (ps_ret (pe_op op_mod (pe_op op_add (pe_op op_mul (pv 2) (pv 2)) (pe_op op_mul pe_int (pv 1))) pe_int)))), ?_⟩
  exact pure_bodyF b__law_mix h
def b__law_block {K : PySem.W.Frag} := ((sSeq (sAsg ((oCall m_mix noDfl (aCons (bVar 0) (aCons (b2 (oIC CMul fun i j => i * j) ((bInt 2)).h ((bVar 1)).h) aNil)))).b (gN 2))
    (sSeq (sIf (tTst (b2 oEqS ((b2 (oIC (fun _ j => 0 < j) fun i j => i % j) ((bVar 0)).h ((bInt 3)).h)).h ((bInt 1)).h).h) (sRet (b2 (oIC (fun _ j => 0 < j) fun i j => i % j) ((bVar 2)).h ((bInt 5)).h)) sNext)
    (sRet (b2 (oIC (fun _ j => 0 < j) fun i j => i % j) ((b2 (oII fun i j => i + j) ((b2 (oIC CMul fun i j => i * j) ((bVar 2)).h ((bInt 8589934593)).h)).h ((oCall m_mix noDfl (aCons (bVar 0) (aCons (b2 (oII fun i j => i + j) ((b2 (oIC CMul fun i j => i * j) ((bInt 2)).h ((bVar 1)).h)).h ((bInt 1)).h) aNil)))).h)).h ((b2 (oIC CPow fun i j => i ^ j.toNat) ((bInt 2)).h ((bInt 64)).h)).h)))) : Sx K pn0 _)
def G__law_block {K : PySem.W.Frag} (ds : List D) : Option M := runF 2 3 (b__law_block (K := K)).ev ds
def blkI (c k : Int) : Int := if c % 3 = 1 then mixI c (2 * k) % 5 else (mixI c (2 * k) * 8589934593 + mixI c (2 * k + 1)) % 18446744073709551616
theorem blkI_lt (c k : Int) : 0 ≤ blkI c k ∧ blkI c k ≤ 18446744073709551615 := by unfold blkI; split <;> omega
def m_blk : List D → Option M
  | [.int c, .int k] => some (.im (.int (blkI c k)))
  | _ => none
theorem e__law_block {K : PySem.W.Frag} (ds : List D) (m : M) (h : m_blk ds = some m) : G__law_block (K := K) ds = some m := by
  unfold m_blk at h
  split at h
  · rename_i c k
    cases h
    have h1 : CMul 2 k := .inl ⟨by decide, by decide⟩
    have h2 : ∀ x, CMul x 8589934593 := fun x => .inr ⟨by decide, by decide⟩
    have s : ∀ x y : Int, m_mix [.int x, .int y] = some (.im (.int (mixI x y))) := fun _ _ => rfl
    unfold G__law_block b__law_block blkI
    by_cases g : c % 3 = 1
    · simp [runF, runP, startG, sSeq, sIf, sRet, sRetO, sRetV, sRetN, sNext, sAsg, sAsgO, sApp, sFor, sDrop, sAug, sBrk, sCont, gN, gT, gsCons, gsNil, b2, oIC, oII, oIB, oEq, oNe, bVar, hVar, bInt, bStr, bBl, bNon, bC, bTy, bNeg, bIsN, bNotN, bAnV, bOrV, bNtV, bIf, bChain, Pb.h, Ph.s, Po.b, Po.h, Ab.h, tTst, tBv, tNt, tAn, tO, eqD, D.toP, asB, D.sc, D.isNon, D.asL, D.asS, D.tyn, sh_i, sh_b, oEqS, oNeS, eqS, ev_ii, ev_ss, ev_bb, aNil, aCons, ahCons, oLst, oTup, hTup, hLst, bCB, oLen, oLenS, oIsi, oInt1, oMin2, oMax2, oCBL, oList, o2L, oCat, oSlL, noPart, aPart, oLc, yTst, srcL, srcT, srcR1, srcR2, srcS, srcE, srcZ, bIxL, bIxT, hIxL, oCall, hCall, bCall, noDfl, M.fz, M.fzs, lineD, pn0, outM, kit_ii, kit_ib, kit_bi, kit_bb, kit_ll, kit_tt, kit_ss, g, h1, s]
    · simp [runF, runP, startG, sSeq, sIf, sRet, sRetO, sRetV, sRetN, sNext, sAsg, sAsgO, sApp, sFor, sDrop, sAug, sBrk, sCont, gN, gT, gsCons, gsNil, b2, oIC, oII, oIB, oEq, oNe, bVar, hVar, bInt, bStr, bBl, bNon, bC, bTy, bNeg, bIsN, bNotN, bAnV, bOrV, bNtV, bIf, bChain, Pb.h, Ph.s, Po.b, Po.h, Ab.h, tTst, tBv, tNt, tAn, tO, eqD, D.toP, asB, D.sc, D.isNon, D.asL, D.asS, D.tyn, sh_i, sh_b, oEqS, oNeS, eqS, ev_ii, ev_ss, ev_bb, aNil, aCons, ahCons, oLst, oTup, hTup, hLst, bCB, oLen, oLenS, oIsi, oInt1, oMin2, oMax2, oCBL, oList, o2L, oCat, oSlL, noPart, aPart, oLc, yTst, srcL, srcT, srcR1, srcR2, srcS, srcE, srcZ, bIxL, bIxT, hIxL, oCall, hCall, bCall, noDfl, M.fz, M.fzs, lineD, pn0, outM, kit_ii, kit_ib, kit_bi, kit_bb, kit_ll, kit_tt, kit_ss, g, h1, h2, s, CPow]
  · cases h

theorem ok__law_block {P : Program} {w : World} {K : PySem.W.Frag} {mg : Str → Option Value} {base : Heap} {fa : Nat → Addr} {fd : Nat → FuncData} (Z : Txt K mg fa fd) : FnOk P w K mg base CX0 2 (fa 16) (fd 16) ["_law_cell", "_law_k"] (spP K m_blk) := by
  refine FnOk.imp (sp := spP K (G__law_block (K := K))) ?_ (spP_imp fun ds m hm => e__law_block ds m hm)
  refine Z.F__law_block.ok sc__law_block (spP_len runF_len) (fun cdv A outer s H vs Q E hr h => ?_)
  refine ⟨_, (pss_cons (ps_set (i := 2) sc__law_block.nd rfl (Or.inl rfl) (pe_call (ok__law_mix Z) (hr.mono (by decide)) (by rfl) Z.g__law_mix Z.F__law_mix.kp Z.b__law_mix .nil pass0 (pa_cons (pv 0) (pa_cons (pe_op op_mul pe_int (pv 1)) pa_nil))))
      (pss_cons (ps_if (pt_cmpR op_eq (pe_op op_mod (pv 0) pe_int) pe_int (nomark _)) (pss_one (ps_ret (pe_op op_mod (pv 2) pe_int))) pss_nil)
      (pss_one (ps_ret (pe_op op_mod (pe_op op_add (pe_op op_mul (pv 2) pe_int) (pe_call (ok__law_mix Z) (hr.mono (by decide)) (by rfl) Z.g__law_mix Z.F__law_mix.kp Z.b__law_mix .nil pass0 (pa_cons (pv 0) (pa_cons (pe_op op_add (pe_op op_mul pe_int (pv 1)) pe_int) pa_nil)))) (pe_op op_pow pe_int pe_int)))))), ?_⟩
  exact pure_bodyF b__law_block h
def le__law_changes_1 {K : PySem.W.Frag} := (((oTup (aCons (b2 (oII fun i j => i - j) ((b2 (oII fun i j => i - j) ((bVar 1)).h ((bInt 1)).h)).h ((bVar 2)).h) (aCons ((oCall m_blk noDfl (aCons (b2 (oIC CDiv fun i j => i / j) ((bVar 0)).h ((bInt 16)).h) (aCons (bVar 2) aNil)))).b aNil)))).b : Pb K _)
def lb__law_changes_1 {K : PySem.W.Frag} := ((sSeq (sAsg (b2 (oIC (fun _ j => 0 < j) fun i j => i % j) ((b2 (oII fun i j => i + j) ((b2 (oIC CDiv fun i j => i / j) ((bVar 0)).h ((bInt 8)).h)).h ((b2 (oIC CMul fun i j => i * j) ((bVar 2)).h ((b2 (oII fun i j => i + j) ((bInt 1)).h ((b2 (oIC (fun _ j => 0 < j) fun i j => i % j) ((b2 (oIC CDiv fun i j => i / j) ((bVar 0)).h ((bInt 320)).h)).h ((bInt 5)).h)).h)).h)).h)).h ((bVar 1)).h) (gN 4))
    (sApp 3 ((oTup (aCons (bVar 4) (aCons ((oCall m_blk noDfl (aCons (b2 (oIC CDiv fun i j => i / j) ((bVar 0)).h ((bInt 8)).h) (aCons (bVar 2) aNil)))).b aNil)))).b)) : Sx K pn0 _)
def b__law_changes {K : PySem.W.Frag} := ((sSeq (sIf (tTst (b2 oEqS ((b2 (oIC (fun _ j => 0 < j) fun i j => i % j) ((bVar 0)).h ((bInt 16)).h)).h ((bInt 9)).h).h) (sRetO (oLc [2] (srcR1 (ahCons ((bVar 1)).h aNil.h)) (gN 2) yTst (le__law_changes_1 (K := K)))) sNext)
    (sSeq (sAsgO 3 (oLst aNil))
    (sSeq (sFor (srcR1 (ahCons ((b2 (oIC (fun _ j => 0 < j) fun i j => i % j) ((bVar 0)).h ((bInt 8)).h)).h aNil.h)) (gN 2) (lb__law_changes_1 (K := K)))
    (sRetV 3)))) : Sx K pn0 _)
def G__law_changes {K : PySem.W.Frag} (ds : List D) : Option M := runF 2 5 (b__law_changes (K := K)).ev ds
def chI (c w : Int) : List (Int × Int) := if c % 16 = 9 then (List.range w.toNat).map fun (k : Nat) => (w - 1 - (k : Int), blkI (c / 16) k) else (List.range (c % 8).toNat).map fun (k : Nat) => ((c / 8 + (k : Int) * (1 + c / 320 % 5)) % w, blkI (c / 8) k)
theorem chI_len (c w : Int) (h1 : 1 ≤ w) (h2 : w ≤ 40) : (chI c w).length ≤ 40 := by
  unfold chI
  split <;> simp <;> omega
theorem chI_ok (c w : Int) (h1 : 1 ≤ w) : okC w (chI c w) = true := by
  unfold okC
  rw [List.all_eq_true]
  intro x hx
  unfold chI at hx
  split at hx
  · obtain ⟨k, hk, rfl⟩ := List.mem_map.mp hx
    have := blkI_lt (c / 16) k
    rw [List.mem_range] at hk
    simp only [Bool.and_eq_true, decide_eq_true_eq]
    exact ⟨⟨⟨by omega, by omega⟩, this.1⟩, this.2⟩
  · obtain ⟨k, hk, rfl⟩ := List.mem_map.mp hx
    have := blkI_lt (c / 8) k
    simp only [Bool.and_eq_true, decide_eq_true_eq]
    exact ⟨⟨⟨Int.emod_nonneg _ (by omega), Int.emod_lt_of_pos _ (by omega)⟩, this.1⟩, this.2⟩
theorem chg_turn {K : PySem.W.Frag} (c w k p v : Int) (cs : List (Int × Int)) (e : M) (hk0 : 0 ≤ k) (hk : k < 8) (hw : 1 ≤ w) (hl : cs.length ≤ 100) (hp : (c / 8 + k * (1 + c / 320 % 5)) % w = p) (hb : m_blk [.int (c / 8), .int k] = some (.im (.int v))) :
    (lb__law_changes_1 (K := K)).ev [.im (.int c), .im (.int w), .im (.int k), .nd .lst ((rowsD cs).map M.im), e] = some (.nx [.im (.int c), .im (.int w), .im (.int k), .nd .lst ((rowsD (cs ++ [(p, v)])).map M.im), .im (.int p)]) := by
  have h1 : CMul k (1 + c / 320 % 5) := .inl ⟨by omega, by omega⟩
  have h2 : 0 < w := by omega
  have h3 : (rowsD cs).length + 1 ≤ 100000 := by simp [rowsD]; omega
  unfold lb__law_changes_1
  simp [h1, h2, CDiv, hp, hb, lineD, h3]
  simp [rowsD, rowD]
theorem chg_el {K : PySem.W.Frag} (c w k v : Int) (Γ : List M) (h0 : Γ[0]? = some (.im (.int c))) (h1 : Γ[1]? = some (.im (.int w))) (h2 : Γ[2]? = some (.im (.int k))) (hb : m_blk [.int (c / 16), .int k] = some (.im (.int v))) :
    (le__law_changes_1 (K := K)).ev Γ = some (rowD (w - 1 - k, v)) := by
  unfold le__law_changes_1
  simp [h0, h1, h2, CDiv, hb, lineD, rowD]
theorem chg_core1 {K : PySem.W.Frag} (c w : Int) (n : Nat) (hn : w.toNat = n) (h9 : c % 16 = 9) (hw : -4611686018427387904 ≤ w ∧ w < 4611686018427387904) (hl : n ≤ 100) (R : List D) (hR : lcRun (gN (K := K) (pn := fun i => !([2] : List Nat).contains i) 2).asg (yTst (K := K)).ev (le__law_changes_1 (K := K)).ev [.im (.int c), .im (.int w), .emp, .emp, .emp] (rangeD 0 n) = some R) :
    G__law_changes (K := K) [.int c, .int w] = some (.nd .lst (R.map M.im)) := by
  have h2 : n ≤ 100000 := by omega
  unfold G__law_changes b__law_changes
  simp [startG, h9, hn, hw, lineD, rangeD_len, h2, hR]
theorem chg_core2 {K : PySem.W.Frag} (c w : Int) (n : Nat) (hn : (c % 8).toNat = n) (h9 : ¬ c % 16 = 9) (hw : -4611686018427387904 ≤ c % 8 ∧ c % 8 < 4611686018427387904) (R : List M) (x y : M) (hR : forRun (gN (K := K) (pn := pn0) 2).asg (lb__law_changes_1 (K := K)).ev (rangeD 0 n) [.im (.int c), .im (.int w), .emp, .nd .lst [], .emp] = some (.nx [.im (.int c), .im (.int w), x, .nd .lst R, y])) :
    G__law_changes (K := K) [.int c, .int w] = some (.nd .lst R) := by
  have h9' : (c % 16 == 9) = false := by simp [h9]
  unfold G__law_changes b__law_changes
  simp [startG, h9', hn, hw, lineD, hR]
theorem t_changes {K : PySem.W.Frag} (c w : Int) (h1 : 1 ≤ w) (h2 : w ≤ 40) : G__law_changes (K := K) [.int c, .int w] = some (.nd .lst ((rowsD (chI c w)).map M.im)) := by
  by_cases h9 : c % 16 = 9
  · refine chg_core1 c w w.toNat rfl h9 ⟨by omega, by omega⟩ (by omega) _ ?_
    have : rowsD (chI c w) = (rangeD 0 w.toNat).map fun d => match d with | .int k => rowD (w - 1 - k, blkI (c / 16) k) | d => d := by
      unfold chI rowsD rangeD
      rw [if_pos h9, List.map_map, List.map_map]
      apply List.map_congr_left
      intro k _
      simp
    rw [this]
    apply lcRun_map
    intro d hd
    obtain ⟨k, _, rfl⟩ := List.mem_map.mp hd
    exact ⟨_, rfl, rfl, chg_el c w _ _ _ rfl rfl rfl rfl⟩
  · obtain ⟨Γ', r1, x, y, r2⟩ := forRun_build (asg := (gN (K := K) (pn := pn0) 2).asg) (body := (lb__law_changes_1 (K := K)).ev) (fun (k : Nat) => D.int (0 + (k : Int))) (fun (k : Nat) => ((c / 8 + (k : Int) * (1 + c / 320 % 5)) % w, blkI (c / 8) k)) (fun b Γ => ∃ x y, Γ = [.im (.int c), .im (.int w), x, .nd .lst ((rowsD b).map M.im), y]) 50
      (List.range (c % 8).toNat) [] [.im (.int c), .im (.int w), .emp, .nd .lst [], .emp] ⟨.emp, .emp, rfl⟩ (by simp; omega) (by
      rintro k hk b Γ hb ⟨x, y, rfl⟩
      rw [List.mem_range] at hk
      refine ⟨[.im (.int c), .im (.int w), .im (.int k), .nd .lst ((rowsD b).map M.im), y], _, by simp, .inl (chg_turn c w k _ _ b y (by omega) (by omega) h1 (by omega) rfl rfl), ⟨_, _, rfl⟩⟩)
    subst r2
    have : rowsD (chI c w) = rowsD ([] ++ (List.range (c % 8).toNat).map fun (k : Nat) => ((c / 8 + (k : Int) * (1 + c / 320 % 5)) % w, blkI (c / 8) k)) := by
      unfold chI
      rw [if_neg h9]; rfl
    rw [this]
    exact chg_core2 c w _ rfl h9 ⟨by omega, by omega⟩ _ x y r1

theorem ok__law_changes {P : Program} {w : World} {K : PySem.W.Frag} {mg : Str → Option Value} {base : Heap} {fa : Nat → Addr} {fd : Nat → FuncData} (Z : Txt K mg fa fd) : FnOk P w K mg base CX0 3 (fa 17) (fd 17) ["_law_cell", "_law_wide"] (spP K (G__law_changes (K := K))) := by
  refine Z.F__law_changes.ok sc__law_changes (spP_len runF_len) (fun cdv A outer s H vs Q E hr h => ?_)
  refine ⟨_, (pss_cons (ps_if (pt_cmpR op_eq (pe_op op_mod (pv 0) pe_int) pe_int (nomark _)) (pss_one (ps_ret (pe_lc (own := [(("_law_k" : Str), 2)]) rfl sc__law_changes.nd (pi_range1 (by rfl) Z.z_range (pa_cons (pv 1) pa_nil)) (blkOk_by (N := N__law_changes) (sc := defScope s__law_changes) (by decide +kernel)) (fun _ _ _ _ _ => (pg_name (i := 2) sc__law_changes.nd rfl (Or.inl rfl))) (fun _ _ _ _ _ => pts_nil) (fun _ _ _ _ _ => (pe_tup (pa_cons (pe_op op_sub (pe_op op_sub (pv 1) pe_int) (pv 2)) (pa_cons (pe_call (ok__law_block Z) (hr.mono (by decide)) (by rfl) Z.g__law_block Z.F__law_block.kp Z.b__law_block .nil pass0 (pa_cons (pe_op op_fdiv (pv 0) pe_int) (pa_cons (pv 2) pa_nil))) pa_nil))))))) pss_nil)
      (pss_cons (ps_set (i := 3) sc__law_changes.nd rfl (Or.inl rfl) (pe_lst pa_nil))
      (pss_cons (ps_for PassesOwn.never rfl (pi_range1 (by rfl) Z.z_range (pa_cons (pe_op op_mod (pv 0) pe_int) pa_nil)) (pg_name (i := 2) sc__law_changes.nd rfl (Or.inl rfl)) (pss_cons (ps_set (i := 4) sc__law_changes.nd rfl (Or.inl rfl) (pe_op op_mod (pe_op op_add (pe_op op_fdiv (pv 0) pe_int) (pe_op op_mul (pv 2) (pe_op op_add pe_int (pe_op op_mod (pe_op op_fdiv (pv 0) pe_int) pe_int)))) (pv 1)))
      (pss_one (ps_expr (pe_bm PySem.F.plainAttrs_list PySem.F.slot_list_append PySem.F.type_list_append mt_append (pv 3) (pa_cons (pe_tup (pa_cons (pv 4) (pa_cons (pe_call (ok__law_block Z) (hr.mono (by decide)) (by rfl) Z.g__law_block Z.F__law_block.kp Z.b__law_block .nil pass0 (pa_cons (pe_op op_fdiv (pv 0) pe_int) (pa_cons (pv 2) pa_nil))) pa_nil))) pa_nil))))))
      (pss_one (ps_ret (pv 3)))))), ?_⟩
  exact pure_bodyF b__law_changes h
def lb__law_next_1 {K : PySem.W.Frag} := ((sSetL 2 (bVar 4) ((bVar 3)).h) : Sx K pn0 _)
def b__law_next {K : PySem.W.Frag} := ((sSeq (sAsgO 2 (oCBL oList (aCons (bVar 0) aNil)))
    (sSeq (sFor (srcL (bVar 1)) (gT 2 (gsCons (gN 3) (gsCons (gN 4) gsNil))) (lb__law_next_1 (K := K)))
    (sRetV 2))) : Sx K pn0 _)
def G__law_next {K : PySem.W.Frag} (ds : List D) : Option M := runF 2 5 (b__law_next (K := K)).ev ds
theorem next_turn {K : PySem.W.Frag} (a b : M) (d e : M) (cs : List D) (p v : Int) (hp : 0 ≤ p) (hl : p < cs.length) :
    (lb__law_next_1 (K := K)).ev [a, b, .nd .lst (cs.map M.im), .im (.int p), .im (.int v)] = some (.nx [a, b, .nd .lst ((cs.set p.toNat (.int v)).map M.im), .im (.int p), .im (.int v)]) := by
  have h1 : ixN cs.length p = some p.toNat := by
    unfold ixN
    rw [if_pos hp, if_pos hl]
  have h2 : p.toNat < cs.length := by omega
  unfold lb__law_next_1
  simp [h1, h2, List.map_set]
theorem next_run {K : PySem.W.Frag} (a b : M) : ∀ (ch : List (Int × Int)) (w : Int) (t : List Int) (x y : M), okC w ch = true → (t.length : Int) = w →
    ∃ x' y', forRun (gT (K := K) (pn := pn0) 2 (gsCons (gN 3) (gsCons (gN 4) gsNil))).asg (lb__law_next_1 (K := K)).ev (rowsD ch) [a, b, .nd .lst ((t.map D.int).map M.im), x, y] = some (.nx [a, b, .nd .lst (((setAll t ch).map D.int).map M.im), x', y'])
  | [], w, t, x, y, _, _ => ⟨x, y, by simp [rowsD, setAll]⟩
  | (p, v) :: ch, w, t, x, y, h, hw => by
    simp only [okC, List.all_cons, Bool.and_eq_true, decide_eq_true_eq] at h
    obtain ⟨⟨⟨⟨h1, h2⟩, h3⟩, h4⟩, h5⟩ := h
    obtain ⟨x', y', e⟩ := next_run (K := K) a b ch w (t.set p.toNat v) (.im (.int p)) (.im (.int v)) h5 (by rw [List.length_set]; exact hw)
    refine ⟨x', y', (forRun_step (ds := rowsD ch) (Γ1 := [a, b, .nd .lst ((t.map D.int).map M.im), .im (.int p), .im (.int v)]) (Γ2 := [a, b, .nd .lst (((t.set p.toNat v).map D.int).map M.im), .im (.int p), .im (.int v)]) ?_ ?_).trans e⟩
    · simp [rowD]
    · rw [next_turn a b x y (t.map D.int) p v h1 (by rw [List.length_map]; omega)]
      simp only [List.map_set]
theorem next_core {K : PySem.W.Frag} (t t2 L : List D) (x y : M) (e : forRun (gT (K := K) (pn := pn0) 2 (gsCons (gN 3) (gsCons (gN 4) gsNil))).asg (lb__law_next_1 (K := K)).ev L [.im (.lst t), .im (.lst L), .nd .lst (t.map M.im), .emp, .emp] = some (.nx [.im (.lst t), .im (.lst L), .nd .lst (t2.map M.im), x, y])) :
    G__law_next (K := K) [.lst t, .lst L] = some (.nd .lst (t2.map M.im)) := by
  unfold G__law_next b__law_next
  simp [startG, e]
theorem t_next {K : PySem.W.Frag} (w : Int) (t : List Int) (ch : List (Int × Int)) (hc : okC w ch = true) (hw : (t.length : Int) = w) : G__law_next (K := K) [.lst (t.map D.int), .lst (rowsD ch)] = some (.nd .lst (((setAll t ch).map D.int).map M.im)) := by
  obtain ⟨x', y', e⟩ := next_run (K := K) (.im (.lst (t.map D.int))) (.im (.lst (rowsD ch))) ch w t .emp .emp hc hw
  exact next_core _ _ _ x' y' e

theorem ok__law_next {P : Program} {w : World} {K : PySem.W.Frag} {mg : Str → Option Value} {base : Heap} {fa : Nat → Addr} {fd : Nat → FuncData} (Z : Txt K mg fa fd) : FnOk P w K mg base CX0 1 (fa 18) (fd 18) ["_law_table", "_law_changes_here"] (spP K (G__law_next (K := K))) := by
  refine Z.F__law_next.ok sc__law_next (spP_len runF_len) (fun cdv A outer s H vs Q E hr h => ?_)
  refine ⟨_, (pss_cons (ps_set (i := 2) sc__law_next.nd rfl (Or.inl rfl) (pe_callTy call_list_of (by rfl) Z.z_list (by decide +kernel) (pa_cons (pv 0) pa_nil)))
      (pss_cons (ps_for PassesOwn.never rfl (pi_list (pv 1)) (pg_tup rfl (pgs_cons (pg_name (i := 3) sc__law_next.nd rfl (Or.inl rfl)) (pgs_cons (pg_name (i := 4) sc__law_next.nd rfl (Or.inl rfl)) pgs_nil))) (pss_one (ps_asg (pv 4) (pg_sub (pv 2) (pv 3) set_list))))
      (pss_one (ps_ret (pv 2))))), ?_⟩
  exact pure_bodyF b__law_next h
def lb_look_through_1 {K : PySem.W.Frag} := ((sSeq (sIf (tNt (tTst (bChain (oIB fun i j => decide (i ≤ j)) (oIB fun i j => decide (i < j)) ((bInt 0)).h ((bVar 2)).h ((bVar 1)).h).h)) sNever sNext)
    (sIf (tNt (tTst (bChain (oIB fun i j => decide (i ≤ j)) (oIB fun i j => decide (i ≤ j)) ((bInt 0)).h ((bVar 3)).h ((bInt 18446744073709551615)).h).h)) sNever sNext)) : Sx K pn0 _)
def b_look_through {K : PySem.W.Frag} := ((sFor (srcL (bVar 0)) (gT 2 (gsCons (gN 2) (gsCons (gN 3) gsNil))) (lb_look_through_1 (K := K))) : Sx K pn0 _)
def G_look_through {K : PySem.W.Frag} (ds : List D) : Option M := runF 2 4 (b_look_through (K := K)).ev ds
def m_look : List D → Option M
  | [.lst l, .int w] => (pairsOf l).bind fun ch => if okC w ch = true then some (.im .non) else none
  | _ => none
theorem look_run {K : PySem.W.Frag} (a w : D) (wi : Int) (hw : w = .int wi) : ∀ (ch : List (Int × Int)) (x y : M), okC wi ch = true → ∃ x' y', forRun (gT (K := K) (pn := pn0) 2 (gsCons (gN 2) (gsCons (gN 3) gsNil))).asg (lb_look_through_1 (K := K)).ev (rowsD ch) [.im a, .im w, x, y] = some (.nx [.im a, .im w, x', y'])
  | [], x, y, _ => ⟨x, y, rfl⟩
  | (p, b) :: ch, x, y, h => by
    subst hw
    simp only [okC, List.all_cons, Bool.and_eq_true, decide_eq_true_eq] at h
    obtain ⟨⟨⟨⟨h1, h2⟩, h3⟩, h4⟩, h5⟩ := h
    obtain ⟨x', y', e⟩ := look_run (K := K) a (.int wi) wi rfl ch (.im (.int p)) (.im (.int b)) h5
    refine ⟨x', y', (forRun_step (Γ1 := [.im a, .im (.int wi), .im (.int p), .im (.int b)]) (Γ2 := [.im a, .im (.int wi), .im (.int p), .im (.int b)]) ?_ ?_).trans e⟩
    · simp [rowD]
    · unfold lb_look_through_1
      simp [h1, h2, h3, h4]
theorem e_look_through {K : PySem.W.Frag} (ds : List D) (m : M) (h : m_look ds = some m) : G_look_through (K := K) ds = some m := by
  unfold m_look at h
  split at h
  · rename_i l w
    obtain ⟨ch, h1, h2⟩ := Option.bind_eq_some_iff.mp h
    split at h2
    · rename_i hc
      cases h2
      rw [pairsOf_eq h1]
      obtain ⟨x', y', e⟩ := look_run (K := K) (.lst (rowsD ch)) (.int w) w rfl ch .emp .emp hc
      unfold G_look_through b_look_through
      simp [startG, e]
    · cases h2
  · cases h

theorem ok_look_through {P : Program} {w : World} {K : PySem.W.Frag} {mg : Str → Option Value} {base : Heap} {fa : Nat → Addr} {fd : Nat → FuncData} (Z : Txt K mg fa fd) : FnOk P w K mg base CX0 1 (fa 10) (fd 10) ["changes", "wide"] (spP K m_look) := by
  obtain ⟨t_MOST_BLOCK, c_MOST_BLOCK⟩ := Z.c_MOST_BLOCK
  refine FnOk.imp (sp := spP K (G_look_through (K := K))) ?_ (spP_imp fun ds m hm => e_look_through ds m hm)
  refine Z.F_look_through.ok sc_look_through (spP_len runF_len) (fun cdv A outer s H vs Q E hr h => ?_)
  refine ⟨_, (pss_one (ps_for PassesOwn.never rfl (pi_list (pv 0)) (pg_tup rfl (pgs_cons (pg_name (i := 2) sc_look_through.nd rfl (Or.inl rfl)) (pgs_cons (pg_name (i := 3) sc_look_through.nd rfl (Or.inl rfl)) pgs_nil))) (pss_cons (ps_if (pt_not (pt_chain op_le op_lt pe_int (pv 2) (pv 1))) (pss_one ps_never) pss_nil)
      (pss_one (ps_if (pt_not (pt_chain op_le op_le pe_int (pv 3) (pe_glob (v := .int 18446744073709551615) rfl c_MOST_BLOCK ⟨_, rfl⟩))) (pss_one ps_never) pss_nil))))), ?_⟩
  exact pure_bodyF b_look_through h
def lb_Days_passes_1 {K : PySem.W.Frag} := ((sSeq (sSetL 2 (bVar 5) ((bVar 4)).h)
    (sApp 3 (bVar 4))) : Sx K pn1 _)
def b_Days_passes {K : PySem.W.Frag} := ((sSeq (sDrop ((oCall m_look noDfl (aCons (bVar 1) (aCons (bPt (pFld (pVar 0) ("wide" : Str) ["Days"])) aNil)))).h)
    (sSeq (sAsgO 2 (oCBL oList (aCons (bPt (pIxL (pFld (pVar 0) ("tables" : Str) ["Days"]) ((bNeg ((bInt 1)).h)).h)) aNil)))
    (sSeq (sAsgO 3 (oLst aNil))
    (sSeq (sFor (srcL (bVar 1)) (gT 2 (gsCons (gN 4) (gsCons (gN 5) gsNil))) (lb_Days_passes_1 (K := K)))
    (sSeq (sFz 2 (sAppP (pFld (pVar 0) ("tables" : Str) ["Days"]) ((bVar 2)).o))
    (sSeq (sFz 3 (sAppP (pFld (pVar 0) ("places" : Str) ["Days"]) ((bVar 3)).o))
    (sSeq (sAugP (pVar 0) ("last" : Str) ["Days"] (fun i j => i + j) L2.rAdd rd_add ((bInt 1)).h)
    (sRet (bPt (pFld (pVar 0) ("last" : Str) ["Days"])))))))))) : Sx K pn1 _)
def G_Days_passes {K : PySem.W.Frag} (m0 : M) (ds : List D) : Option (M × M) := runI 2 6 (b_Days_passes (K := K)).ev m0 ds
theorem pass_turn {K : PySem.W.Frag} (a b d e : M) (cs qs : List D) (p v : Int) (hp : 0 ≤ p) (hl : p < cs.length) (hq : qs.length ≤ 1000) :
    (lb_Days_passes_1 (K := K)).ev [a, b, .nd .lst (cs.map M.im), .nd .lst (qs.map M.im), .im (.int p), .im (.int v)] = some (.nx [a, b, .nd .lst ((cs.set p.toNat (.int v)).map M.im), .nd .lst ((qs ++ [D.int p]).map M.im), .im (.int p), .im (.int v)]) := by
  have h1 : ixN cs.length p = some p.toNat := by
    unfold ixN
    rw [if_pos hp, if_pos hl]
  have h2 : p.toNat < cs.length := by omega
  have h3 : qs.length + 1 ≤ 100000 := by omega
  unfold lb_Days_passes_1
  simp [h1, h2, lineD, h3, List.map_set]
theorem pass_run {K : PySem.W.Frag} (a b : M) : ∀ (ch : List (Int × Int)) (w : Int) (t : List Int) (qs : List D) (x y : M), okC w ch = true → (t.length : Int) = w → qs.length + ch.length ≤ 900 →
    ∃ x' y', forRun (gT (K := K) (pn := pn1) 2 (gsCons (gN 4) (gsCons (gN 5) gsNil))).asg (lb_Days_passes_1 (K := K)).ev (rowsD ch) [a, b, .nd .lst ((t.map D.int).map M.im), .nd .lst (qs.map M.im), x, y] = some (.nx [a, b, .nd .lst (((setAll t ch).map D.int).map M.im), .nd .lst ((qs ++ ch.map fun c => D.int c.1).map M.im), x', y'])
  | [], w, t, qs, x, y, _, _, _ => ⟨x, y, by simp [rowsD, setAll]⟩
  | (p, v) :: ch, w, t, qs, x, y, h, hw, hq => by
    simp only [okC, List.all_cons, Bool.and_eq_true, decide_eq_true_eq] at h
    obtain ⟨⟨⟨⟨h1, h2⟩, h3⟩, h4⟩, h5⟩ := h
    simp only [List.length_cons] at hq
    obtain ⟨x', y', e⟩ := pass_run (K := K) a b ch w (t.set p.toNat v) (qs ++ [D.int p]) (.im (.int p)) (.im (.int v)) h5 (by rw [List.length_set]; exact hw) (by simp; omega)
    refine ⟨x', y', (forRun_step (ds := rowsD ch) (Γ1 := [a, b, .nd .lst ((t.map D.int).map M.im), .nd .lst (qs.map M.im), .im (.int p), .im (.int v)]) (Γ2 := [a, b, .nd .lst (((t.set p.toNat v).map D.int).map M.im), .nd .lst ((qs ++ [D.int p]).map M.im), .im (.int p), .im (.int v)]) ?_ ?_).trans (e.trans (by simp [setAll]))⟩
    · simp [rowD]
    · rw [pass_turn a b x y (t.map D.int) qs p v h1 (by rw [List.length_map]; omega) (by omega)]
      simp only [List.map_set]
theorem ixN_last (n : Nat) (h : 0 < n) : ixN n (-1) = some (n - 1) := by
  unfold ixN
  rw [if_neg (by decide), if_pos (by omega)]
  congr 1
  omega
theorem passes_core {K : PySem.W.Frag} (w l : Int) (ts qs : List M) (t t2 p2 L : List D) (x' y' : M) (n : Nat) (hn : ts.length = n) (hn0 : 0 < n) (hlast : ts[n - 1]? = some (.im (.lst t))) (hl : m_look [.lst L, .int w] = some (.im .non)) (hnl : n ≤ 1000) (hql : qs.length ≤ 1000)
    (e : forRun (gT (K := K) (pn := pn1) 2 (gsCons (gN 4) (gsCons (gN 5) gsNil))).asg (lb_Days_passes_1 (K := K)).ev L [.nd (.ins "Days" ["wide", "last", "tables", "places"]) [.im (.int w), .im (.int l), .nd .lst ts, .nd .lst qs], .im (.lst L), .nd .lst (t.map M.im), .nd .lst [], .emp, .emp] =
      some (.nx [.nd (.ins "Days" ["wide", "last", "tables", "places"]) [.im (.int w), .im (.int l), .nd .lst ts, .nd .lst qs], .im (.lst L), .nd .lst (t2.map M.im), .nd .lst (p2.map M.im), x', y'])) :
    G_Days_passes (K := K) (.nd (.ins "Days" ["wide", "last", "tables", "places"]) [.im (.int w), .im (.int l), .nd .lst ts, .nd .lst qs]) [.lst L] =
      some (.im (.int (l + 1)), .nd (.ins "Days" ["wide", "last", "tables", "places"]) [.im (.int w), .im (.int (l + 1)), .nd .lst (ts ++ [.im (.lst t2)]), .nd .lst (qs ++ [.im (.lst p2)])]) := by
  have h1 := ixN_last n hn0
  have h2 : n + 1 ≤ 100000 := by omega
  have h3 : qs.length + 1 ≤ 100000 := by omega
  unfold G_Days_passes b_Days_passes
  simp [startI, hl, hn, h1, hlast, lineD, e, h2, h3]
theorem t_passes {K : PySem.W.Frag} (w : Int) (T0 : List (List Int)) (t : List Int) (Q : List D) (ch : List (Int × Int)) (hc : okC w ch = true) (hw : (t.length : Int) = w) (hn : T0.length ≤ 900) (hq : Q.length ≤ 900) (hch : ch.length ≤ 900) :
    G_Days_passes (K := K) (daysM w (T0 ++ [t]) Q) [.lst (rowsD ch)] = some (.im (.int ((T0.length : Int) + 1)), daysM w (T0 ++ [t] ++ [setAll t ch]) (Q ++ [.lst (ch.map fun c => D.int c.1)])) := by
  obtain ⟨x', y', e⟩ := pass_run (K := K) (daysM w (T0 ++ [t]) Q) (.im (.lst (rowsD ch))) ch w t [] .emp .emp hc hw (by simp; omega)
  have hl : m_look [.lst (rowsD ch), .int w] = some (.im .non) := by simp [m_look, hc]
  have e2 : (((T0 ++ [t]).length : Nat) : Int) - 1 = (T0.length : Int) := by simp
  have e3 : (((T0 ++ [t] ++ [setAll t ch]).length : Nat) : Int) - 1 = (T0.length : Int) + 1 := by simp; omega
  rw [List.nil_append] at e
  have := passes_core (K := K) w ((((T0 ++ [t]).length : Nat) : Int) - 1) ((T0 ++ [t]).map tabM) (Q.map M.im) (t.map D.int) ((setAll t ch).map D.int) (ch.map fun c => D.int c.1) (rowsD ch) x' y' (T0.length + 1) (by simp) (by omega) (by simp [tabM]) hl (by omega) (by simp; omega) e
  unfold daysM
  rw [this, e2, e3]
  simp [tabM]

theorem ok_Days_passes {P : Program} {w : World} {K : PySem.W.Frag} {mg : Str → Option Value} {base : Heap} {fa : Nat → Addr} {fd : Nat → FuncData} (Z : Txt K mg fa fd) : FnOk P w K mg base CX0 2 (fa 1551) (fd 1551) ["self", "changes"] (spI K (G_Days_passes (K := K))) := by
  refine Z.F_Days_passes.ok sc_Days_passes (spI_len runI_len) (fun cdv A outer s H vs Q E hr h => ?_)
  refine ⟨_, (pss_cons (ps_expr (pe_call (ok_look_through Z) (hr.mono (by decide)) (by rfl) Z.g_look_through Z.F_look_through.kp Z.b_look_through .nil pass0 (pa_cons (pv 1) (pa_cons (pe_fldX (FOk.cons Z.cl_Days Z.n_Days_wide FOk.nil) (pv 0) rfl) pa_nil))))
      (pss_cons (ps_set (i := 2) sc_Days_passes.nd rfl (Or.inl rfl) (pe_callTy call_list_of (by rfl) Z.z_list (by decide +kernel) (pa_cons (pe_ix ix_list (pe_fldX (FOk.cons Z.cl_Days Z.n_Days_tables FOk.nil) (pv 0) rfl) (pe_un un_neg pe_int) (fun _ _ => rfl)) pa_nil)))
      (pss_cons (ps_set (i := 3) sc_Days_passes.nd rfl (Or.inl rfl) (pe_lst pa_nil))
      (pss_cons (ps_for PassesOwn.never rfl (pi_list (pv 1)) (pg_tup rfl (pgs_cons (pg_name (i := 4) sc_Days_passes.nd rfl (Or.inl rfl)) (pgs_cons (pg_name (i := 5) sc_Days_passes.nd rfl (Or.inl rfl)) pgs_nil))) (pss_cons (ps_asg (pv 5) (pg_sub (pv 2) (pv 4) set_list))
      (pss_one (ps_expr (pe_bm PySem.F.plainAttrs_list PySem.F.slot_list_append PySem.F.type_list_append mt_append (pv 3) (pa_cons (pv 4) pa_nil))))))
      (pss_cons (ps_expr (pe_bm PySem.F.plainAttrs_list PySem.F.slot_list_append PySem.F.type_list_append mt_append (pe_fldX (FOk.cons Z.cl_Days Z.n_Days_tables FOk.nil) (pv 0) rfl) (pa_cons (pv 2) pa_nil)))
      (pss_cons (ps_expr (pe_bm PySem.F.plainAttrs_list PySem.F.slot_list_append PySem.F.type_list_append mt_append (pe_fldX (FOk.cons Z.cl_Days Z.n_Days_places FOk.nil) (pv 0) rfl) (pa_cons (pv 3) pa_nil)))
      (pss_cons (ps_fldaugX (FOk.cons Z.cl_Days Z.n_Days_last FOk.nil) (pv 0) pe_int in_add)
      (pss_one (ps_ret (pe_fldX (FOk.cons Z.cl_Days Z.n_Days_last FOk.nil) (pv 0) rfl)))))))))), ?_⟩
  exact inout_body b_Days_passes h
def b__law_whole {K : PySem.W.Frag} := ((sRet (bAnV ((bCB oIsi (ahCons ((bVar 0)).h (ahCons ((bTy "int")).h aNil.h)))).h ((bNtV ((bCB oIsi (ahCons ((bVar 0)).h (ahCons ((bTy "bool")).h aNil.h)))).h)).h)) : Sx K pn0 _)
def G__law_whole {K : PySem.W.Frag} (ds : List D) : Option M := runF 1 1 (b__law_whole (K := K)).ev ds
def m_whole : List D → Option M
  | [.int _] => some (.im (.bl true))
  | _ => none
theorem e__law_whole {K : PySem.W.Frag} (ds : List D) (m : M) (h : m_whole ds = some m) : G__law_whole (K := K) ds = some m := by
  unfold m_whole at h
  split at h
  · cases h
    unfold G__law_whole b__law_whole
    simp [runF, runP, startG, sSeq, sIf, sRet, sRetO, sRetV, sRetN, sNext, sAsg, sAsgO, sApp, sFor, sDrop, sAug, sBrk, sCont, gN, gT, gsCons, gsNil, b2, oIC, oII, oIB, oEq, oNe, bVar, hVar, bInt, bStr, bBl, bNon, bC, bTy, bNeg, bIsN, bNotN, bAnV, bOrV, bNtV, bIf, bChain, Pb.h, Ph.s, Po.b, Po.h, Ab.h, tTst, tBv, tNt, tAn, tO, eqD, D.toP, asB, D.sc, D.isNon, D.asL, D.asS, D.tyn, sh_i, sh_b, oEqS, oNeS, eqS, ev_ii, ev_ss, ev_bb, aNil, aCons, ahCons, oLst, oTup, hTup, hLst, bCB, oLen, oLenS, oIsi, oInt1, oMin2, oMax2, oCBL, oList, o2L, oCat, oSlL, noPart, aPart, oLc, yTst, srcL, srcT, srcR1, srcR2, srcS, srcE, srcZ, bIxL, bIxT, hIxL, oCall, hCall, bCall, noDfl, M.fz, M.fzs, lineD, pn0, outM, kit_ii, kit_ib, kit_bi, kit_bb, kit_ll, kit_tt, kit_ss]
  · cases h

theorem ok__law_whole {P : Program} {w : World} {K : PySem.W.Frag} {mg : Str → Option Value} {base : Heap} {fa : Nat → Addr} {fd : Nat → FuncData} (Z : Txt K mg fa fd) : FnOk P w K mg base CX0 1 (fa 14) (fd 14) ["_law_found"] (spP K m_whole) := by
  refine FnOk.imp (sp := spP K (G__law_whole (K := K))) ?_ (spP_imp fun ds m hm => e__law_whole ds m hm)
  refine Z.F__law_whole.ok sc__law_whole (spP_len runF_len) (fun cdv A outer s H vs Q E hr h => ?_)
  refine ⟨_, (pss_one (ps_ret (pe_and (pe_callB call_isi (by rfl) Z.z_isinstance (by decide +kernel) (pa_cons (pv 0) (pa_cons (pe_bltn (v := .ty "int") (u := .type "int") (by rfl) Z.z_int (by decide +kernel) rfl) pa_nil))) (pe_one (pe_not (pe_callB call_isi (by rfl) Z.z_isinstance (by decide +kernel) (pa_cons (pv 0) (pa_cons (pe_bltn (v := .ty "bool") (u := .type "bool") (by rfl) Z.z_bool (by decide +kernel) rfl) pa_nil)))))))), ?_⟩
  exact pure_bodyF b__law_whole h
def b_Days_need {K : PySem.W.Frag} := ((sIf (tNt (tTst (bChain (oIB fun i j => decide (i ≤ j)) (oIB fun i j => decide (i ≤ j)) ((bInt 0)).h ((bVar 1)).h ((bFld (bVar 0) ("last" : Str) ["Days"])).h).h)) sNever sNext) : Sx K pn0 _)
def G_Days_need {K : PySem.W.Frag} (ds : List D) : Option M := runF 2 2 (b_Days_need (K := K)).ev ds
theorem ok_Days_need {P : Program} {w : World} {K : PySem.W.Frag} {mg : Str → Option Value} {base : Heap} {fa : Nat → Addr} {fd : Nat → FuncData} (Z : Txt K mg fa fd) : FnOk P w K mg base CX0 1 (fa 1552) (fd 1552) ["self", "day"] (spP K (G_Days_need (K := K))) := by
  refine Z.F_Days_need.ok sc_Days_need (spP_len runF_len) (fun cdv A outer s H vs Q E hr h => ?_)
  refine ⟨_, (pss_one (ps_if (pt_not (pt_chain op_le op_le pe_int (pv 1) (pe_fldX (FOk.cons Z.cl_Days Z.n_Days_last FOk.nil) (pv 0) rfl))) (pss_one ps_never) pss_nil)), ?_⟩
  exact pure_bodyF b_Days_need h
def b_Days_table {K : PySem.W.Frag} := ((sSeq (sDrop ((oMeth (bVar 0) ("need" : Str) [("Days", (G_Days_need (K := K)))] noDfl (aCons (bVar 1) aNil))).h)
    (sRetO (oCBL oList (aCons (bIxL (bFld (bVar 0) ("tables" : Str) ["Days"]) ((bVar 1)).h) aNil)))) : Sx K pn0 _)
def G_Days_table {K : PySem.W.Frag} (ds : List D) : Option M := runF 2 2 (b_Days_table (K := K)).ev ds
theorem t_table {K : PySem.W.Frag} (w : Int) (T : List (List Int)) (Q : List D) (k : Nat) (t : List Int) (ht : T[k]? = some t) :
    G_Days_table (K := K) [daysD w T Q, .int (k : Int)] = some (.nd .lst ((t.map D.int).map M.im)) := by
  have hk : k < T.length := (List.getElem?_eq_some_iff.mp ht).1
  have h1 : (k : Int) ≤ (T.length : Int) - 1 := by omega
  have h2 : atD (T.map fun t => D.lst (t.map D.int)) (k : Int) = some (.lst (t.map D.int)) := by rw [atD_nat, List.getElem?_map, ht]; rfl
  have hneed : G_Days_need (K := K) [daysD w T Q, .int (k : Int)] = some (.im .non) := by
    unfold G_Days_need b_Days_need daysD
    simp [startG, h1]
  unfold G_Days_table b_Days_table
  have hneed' := hneed
  unfold daysD at hneed'
  unfold daysD
  simp [startG, hneed', h2]

theorem ok_Days_table {P : Program} {w : World} {K : PySem.W.Frag} {mg : Str → Option Value} {base : Heap} {fa : Nat → Addr} {fd : Nat → FuncData} (Z : Txt K mg fa fd) : FnOk P w K mg base CX0 2 (fa 1553) (fd 1553) ["self", "day"] (spP K (G_Days_table (K := K))) := by
  refine Z.F_Days_table.ok sc_Days_table (spP_len runF_len) (fun cdv A outer s H vs Q E hr h => ?_)
  refine ⟨_, (pss_cons (ps_expr (pe_methX (k := 1) (AllM.cons (MtE.mk Z.cl_Days Z.m_Days_need (ok_Days_need Z) (by decide) Z.b_Days_need .nil) AllM.nil) (hr.mono (by decide)) pass0 (pv 0) (pa_cons (pv 1) pa_nil)))
      (pss_one (ps_ret (pe_callTy call_list_of (by rfl) Z.z_list (by decide +kernel) (pa_cons (pe_ix ix_list (pe_fldX (FOk.cons Z.cl_Days Z.n_Days_tables FOk.nil) (pv 0) rfl) (pv 1) (fun _ _ => rfl)) pa_nil))))), ?_⟩
  exact pure_bodyF b_Days_table h
def lb__law_alike_1 {K : PySem.W.Frag} := ((sIf (tO (tNt (tBv ((oCall m_whole noDfl (aCons (bVar 2) aNil))).h)) (tTst (b2 oNeS ((bVar 2)).h ((bVar 3)).h).h)) (sRet (bBl false)) sNext) : Sx K pn0 _)
def b__law_alike {K : PySem.W.Frag} := ((sSeq (sIf (tO (tNt (tBv ((bCB oIsi (ahCons ((bVar 0)).h (ahCons ((bTy "list")).h aNil.h)))).h)) (tTst (b2 oNeS ((bCB oLen (ahCons ((bVar 0)).h aNil.h))).h ((bCB oLen (ahCons ((bVar 1)).h aNil.h))).h).h)) (sRet (bBl false)) sNext)
    (sSeq (sFor (srcZ (aCons (bVar 0) (aCons (bVar 1) aNil))) (gT 2 (gsCons (gN 2) (gsCons (gN 3) gsNil))) (lb__law_alike_1 (K := K)))
    (sRet (bBl true)))) : Sx K pn0 _)
def G__law_alike {K : PySem.W.Frag} (ds : List D) : Option M := runF 2 4 (b__law_alike (K := K)).ev ds
theorem alike_run {K : PySem.W.Frag} (a b : M) : ∀ (t : List Int) (x y : M), ∃ x' y', forRun (gT (K := K) (pn := pn0) 2 (gsCons (gN 2) (gsCons (gN 3) gsNil))).asg (lb__law_alike_1 (K := K)).ev (zipD (t.map D.int) (t.map D.int)) [a, b, x, y] = some (.nx [a, b, x', y'])
  | [], x, y => ⟨x, y, rfl⟩
  | n :: t, x, y => by
    obtain ⟨x', y', e⟩ := alike_run (K := K) a b t (.im (.int n)) (.im (.int n))
    have w0 : m_whole [.int n] = some (.im (.bl true)) := rfl
    refine ⟨x', y', (forRun_step (ds := zipD (t.map D.int) (t.map D.int)) (Γ1 := [a, b, .im (.int n), .im (.int n)]) (Γ2 := [a, b, .im (.int n), .im (.int n)]) ?_ ?_).trans e⟩
    · simp
    · unfold lb__law_alike_1
      simp [w0]
theorem t_alike {K : PySem.W.Frag} (t : List Int) : G__law_alike (K := K) [.lst (t.map D.int), .lst (t.map D.int)] = some (.im (.bl true)) := by
  obtain ⟨x', y', e⟩ := alike_run (K := K) (.im (.lst (t.map D.int))) (.im (.lst (t.map D.int))) t .emp .emp
  unfold G__law_alike b__law_alike
  simp [startG, D.tyn, e]

theorem ok__law_alike {P : Program} {w : World} {K : PySem.W.Frag} {mg : Str → Option Value} {base : Heap} {fa : Nat → Addr} {fd : Nat → FuncData} (Z : Txt K mg fa fd) : FnOk P w K mg base CX0 2 (fa 19) (fd 19) ["_law_found", "_law_due"] (spP K (G__law_alike (K := K))) := by
  refine Z.F__law_alike.ok sc__law_alike (spP_len runF_len) (fun cdv A outer s H vs Q E hr h => ?_)
  refine ⟨_, (pss_cons (ps_if (PW.pt (pw_or (pt_not (pt_val (pe_callB call_isi (by rfl) Z.z_isinstance (by decide +kernel) (pa_cons (pv 0) (pa_cons (pe_bltn (v := .ty "list") (u := .type "list") (by rfl) Z.z_list (by decide +kernel) rfl) pa_nil))))) (pw_or1 (pt_cmpR op_ne (pe_callB call_len_seq (by rfl) Z.z_len (by decide +kernel) (pa_cons (pv 0) pa_nil)) (pe_callB call_len_seq (by rfl) Z.z_len (by decide +kernel) (pa_cons (pv 1) pa_nil)) (nomark _))))) (pss_one (ps_ret pe_bl)) pss_nil)
      (pss_cons (ps_for PassesOwn.never rfl (pi_zip (by rfl) Z.z_zip (pa_cons (pv 0) (pa_cons (pv 1) pa_nil))) (pg_tup rfl (pgs_cons (pg_name (i := 2) sc__law_alike.nd rfl (Or.inl rfl)) (pgs_cons (pg_name (i := 3) sc__law_alike.nd rfl (Or.inl rfl)) pgs_nil))) (pss_one (ps_if (PW.pt (pw_or (pt_not (pt_val (pe_call (ok__law_whole Z) (hr.mono (by decide)) (by rfl) Z.g__law_whole Z.F__law_whole.kp Z.b__law_whole .nil pass0 (pa_cons (pv 2) pa_nil)))) (pw_or1 (pt_cmpR op_ne (pv 2) (pv 3) (nomark _))))) (pss_one (ps_ret pe_bl)) pss_nil)))
      (pss_one (ps_ret pe_bl)))), ?_⟩
  exact pure_bodyF b__law_alike h
def lb_law_1 {K : PySem.W.Frag} := ((sSeq (sAsg (bIxL (bVar 0) ((bVar 5)).h) (gN 6))
    (sSeq (sAsg (b2 (oIC (fun _ j => 0 < j) fun i j => i % j) ((b2 (oIC CDiv fun i j => i / j) ((bVar 6)).h ((bInt 7)).h)).h ((bInt 2)).h) (gN 7))
    (sSeq (sAsg ((oCall (G__law_changes (K := K)) noDfl (aCons (bVar 6) (aCons (bIxL (bVar 1) ((bVar 7)).h) aNil)))).b (gN 8))
    (sSeq (sAppP (pIxL (pVar 3) ((bVar 7)).h) (((oCall (G__law_next (K := K)) noDfl (aCons (bPt (pIxL (pIxL (pVar 3) ((bVar 7)).h) ((bNeg ((bInt 1)).h)).h)) (aCons (bVar 8) aNil)))).b).o)
    (sSeq (sAsgE 9 (eMeth (pIxL (pVar 2) ((bVar 7)).h) ("passes" : Str) [("Days", (G_Days_passes (K := K)))] noDfl (aCons (bVar 8) aNil)))
    (sSeq (sIf (tO (tNt (tBv ((oCall m_whole noDfl (aCons (bVar 9) aNil))).h)) (tO (tTst (b2 oNeS ((bVar 9)).h ((b2 (oII fun i j => i - j) ((bCB oLen (ahCons (hIxL (hVar 3) ((bVar 7)).h) aNil.h))).h ((bInt 1)).h)).h).h) (tTst (b2 oNeS (hFld (hIxL (hVar 2) ((bVar 7)).h) ("last" : Str) ["Days"]) ((bVar 9)).h).h))) (sRet (bBl false)) sNext)
    (sSeq (sAsg (b2 (oIC (fun _ j => 0 < j) fun i j => i % j) ((b2 (oIC CDiv fun i j => i / j) ((bVar 6)).h ((bInt 14)).h)).h ((b2 (oII fun i j => i + j) ((bVar 9)).h ((bInt 1)).h)).h) (gN 10))
    (sSeq (sAsg ((oMethH (hIxL (hVar 2) ((bVar 7)).h) ("table" : Str) [("Days", (G_Days_table (K := K)))] noDfl (aCons (bVar 10) aNil).h)).b (gN 11))
    (sSeq (sIf (tNt (tBv ((oCall (G__law_alike (K := K)) noDfl (aCons (bVar 11) (aCons (bPt (pIxL (pIxL (pVar 3) ((bVar 7)).h) ((bVar 10)).h)) aNil)))).h)) (sRet (bBl false)) sNext)
    (sAppP (pVar 4) (((oTup (aCons (bVar 11) (aCons (bVar 7) (aCons (bVar 10) aNil))))).b).o)))))))))) : Sx K pn0 _)
def lb_law_2 {K : PySem.W.Frag} := ((sIf (tNt (tBv ((oCall (G__law_alike (K := K)) noDfl (aCons ((oMethH (hIxL (hVar 2) ((bVar 7)).h) ("table" : Str) [("Days", (G_Days_table (K := K)))] noDfl (aCons (bVar 9) aNil).h)).b (aCons (bPt (pIxL (pIxL (pVar 3) ((bVar 7)).h) ((bVar 9)).h)) aNil)))).h)) (sRet (bBl false)) sNext) : Sx K pn0 _)
def lb_law_3 {K : PySem.W.Frag} := ((sFor (srcR1 (ahCons ((bCB oLen (ahCons (hIxL (hVar 3) ((bVar 7)).h) aNil.h))).h aNil.h)) (gN 9) (lb_law_2 (K := K))) : Sx K pn0 _)
def lb_law_4 {K : PySem.W.Frag} := ((sIf (tNt (tBv ((oCall (G__law_alike (K := K)) noDfl (aCons (bVar 11) (aCons (bPt (pIxL (pIxL (pVar 3) ((bVar 7)).h) ((bVar 10)).h)) aNil)))).h)) (sRet (bBl false)) sNext) : Sx K pn0 _)
def b_law {K : PySem.W.Frag} := ((sSeq (sAsg ((oLst (aCons (b2 (oII fun i j => i + j) ((bInt 1)).h ((b2 (oIC (fun _ j => 0 < j) fun i j => i % j) ((oCall m_cell0 noDfl (aCons (bVar 0) (aCons (bInt 0) aNil)))).h ((bInt 40)).h)).h) (aCons (b2 (oII fun i j => i + j) ((bInt 1)).h ((b2 (oIC (fun _ j => 0 < j) fun i j => i % j) ((b2 (oIC CDiv fun i j => i / j) ((oCall m_cell0 noDfl (aCons (bVar 0) (aCons (bInt 0) aNil)))).h ((bInt 40)).h)).h ((bInt 40)).h)).h) aNil)))).b (gN 1))
    (sSeq (sAsgO 2 (oLstM (aoCons (oMake "Days" m_init noDfl (aCons (bIxL (bVar 1) ((bInt 0)).h) aNil)) (aoCons (oMake "Days" m_init noDfl (aCons (bIxL (bVar 1) ((bInt 1)).h) aNil)) aoNil))))
    (sSeq (sAsgO 3 (oLstM (aoCons (oLst (aCons ((o2L oRep ((oLst (aCons (bInt 0) aNil))).b (bIxL (bVar 1) ((bInt 0)).h))).b aNil)) (aoCons (oLst (aCons ((o2L oRep ((oLst (aCons (bInt 0) aNil))).b (bIxL (bVar 1) ((bInt 1)).h))).b aNil)) aoNil))))
    (sSeq (sAsgO 4 (oLst aNil))
    (sSeq (sFor (srcR1 (ahCons ((bCB oMin2 (ahCons ((bCB oLen (ahCons ((bVar 0)).h aNil.h))).h (ahCons ((bInt 299)).h aNil.h)))).h aNil.h)) (gN 5) (lb_law_1 (K := K)))
    (sSeq (sFor (srcR1 (ahCons ((bInt 2)).h aNil.h)) (gN 7) (lb_law_3 (K := K)))
    (sSeq (sFz 4 (sFor (srcL (bVar 4)) (gT 3 (gsCons (gN 11) (gsCons (gN 7) (gsCons (gN 10) gsNil)))) (lb_law_4 (K := K))))
    (sRet (bBl true))))))))) : Sx K pn0 _)
def G_law {K : PySem.W.Frag} (ds : List D) : Option M := runF 1 12 (b_law (K := K)).ev ds
theorem ok_law {P : Program} {w : World} {K : PySem.W.Frag} {mg : Str → Option Value} {base : Heap} {fa : Nat → Addr} {fd : Nat → FuncData} (Z : Txt K mg fa fd) : FnOk P w K mg base CX0 4 (fa 20) (fd 20) ["_law_script"] (spP K (G_law (K := K))) := by
  refine Z.F_law.ok sc_law (spP_len runF_len) (fun cdv A outer s H vs Q E hr h => ?_)
  refine ⟨_, (pss_cons (ps_set (i := 1) sc_law.nd rfl (Or.inl rfl) (pe_lst (pa_cons (pe_op op_add pe_int (pe_op op_mod (pe_call (ok__law_cell_at Z) (hr.mono (by decide)) (by rfl) Z.g__law_cell_at Z.F__law_cell_at.kp Z.b__law_cell_at .nil pass0 (pa_cons (pv 0) (pa_cons pe_int pa_nil))) pe_int)) (pa_cons (pe_op op_add pe_int (pe_op op_mod (pe_op op_fdiv (pe_call (ok__law_cell_at Z) (hr.mono (by decide)) (by rfl) Z.g__law_cell_at Z.F__law_cell_at.kp Z.b__law_cell_at .nil pass0 (pa_cons (pv 0) (pa_cons pe_int pa_nil))) pe_int) pe_int)) pa_nil))))
      (pss_cons (ps_set (i := 2) sc_law.nd rfl (Or.inl rfl) (pe_lst (pa_cons (pe_make Z.mk_Days_Days_init (ok_Days_init Z) (hr.mono (by decide)) (by rfl) Z.gc_Days Z.b_Days_init .nil pass0 (pa_cons (pe_ix ix_list (pv 1) pe_int (fun _ _ => rfl)) pa_nil)) (pa_cons (pe_make Z.mk_Days_Days_init (ok_Days_init Z) (hr.mono (by decide)) (by rfl) Z.gc_Days Z.b_Days_init .nil pass0 (pa_cons (pe_ix ix_list (pv 1) pe_int (fun _ _ => rfl)) pa_nil)) pa_nil))))
      (pss_cons (ps_set (i := 3) sc_law.nd rfl (Or.inl rfl) (pe_lst (pa_cons (pe_lst (pa_cons (pe_op op_rep (pe_lst (pa_cons pe_int pa_nil)) (pe_ix ix_list (pv 1) pe_int (fun _ _ => rfl))) pa_nil)) (pa_cons (pe_lst (pa_cons (pe_op op_rep (pe_lst (pa_cons pe_int pa_nil)) (pe_ix ix_list (pv 1) pe_int (fun _ _ => rfl))) pa_nil)) pa_nil))))
      (pss_cons (ps_set (i := 4) sc_law.nd rfl (Or.inl rfl) (pe_lst pa_nil))
      (pss_cons (ps_for PassesOwn.never rfl (pi_range1 (by rfl) Z.z_range (pa_cons (pe_callB (call_min2 rfl) (by rfl) Z.z_min (by decide +kernel) (pa_cons (pe_callB call_len_seq (by rfl) Z.z_len (by decide +kernel) (pa_cons (pv 0) pa_nil)) (pa_cons pe_int pa_nil))) pa_nil)) (pg_name (i := 5) sc_law.nd rfl (Or.inl rfl)) (pss_cons (ps_set (i := 6) sc_law.nd rfl (Or.inl rfl) (pe_ix ix_list (pv 0) (pv 5) (fun _ _ => rfl)))
      (pss_cons (ps_set (i := 7) sc_law.nd rfl (Or.inl rfl) (pe_op op_mod (pe_op op_fdiv (pv 6) pe_int) pe_int))
      (pss_cons (ps_set (i := 8) sc_law.nd rfl (Or.inl rfl) (pe_call (ok__law_changes Z) (hr.mono (by decide)) (by rfl) Z.g__law_changes Z.F__law_changes.kp Z.b__law_changes .nil pass0 (pa_cons (pv 6) (pa_cons (pe_ix ix_list (pv 1) (pv 7) (fun _ _ => rfl)) pa_nil))))
      (pss_cons (ps_expr (pe_bm PySem.F.plainAttrs_list PySem.F.slot_list_append PySem.F.type_list_append mt_append (pe_ix ix_list (pv 3) (pv 7) (fun _ _ => rfl)) (pa_cons (pe_call (ok__law_next Z) (hr.mono (by decide)) (by rfl) Z.g__law_next Z.F__law_next.kp Z.b__law_next .nil pass0 (pa_cons (pe_ix ix_list (pe_ix ix_list (pv 3) (pv 7) (fun _ _ => rfl)) (pe_un un_neg pe_int) (fun _ _ => rfl)) (pa_cons (pv 8) pa_nil))) pa_nil)))
      (pss_cons (ps_set (i := 9) sc_law.nd rfl (Or.inl rfl) (pe_methX (k := 2) (AllM.cons (MtE.mk Z.cl_Days Z.m_Days_passes (ok_Days_passes Z) (by decide) Z.b_Days_passes .nil) AllM.nil) (hr.mono (by decide)) pass0 (pe_ix ix_list (pv 2) (pv 7) (fun _ _ => rfl)) (pa_cons (pv 8) pa_nil)))
      (pss_cons (ps_if (PW.pt (pw_or (pt_not (pt_val (pe_call (ok__law_whole Z) (hr.mono (by decide)) (by rfl) Z.g__law_whole Z.F__law_whole.kp Z.b__law_whole .nil pass0 (pa_cons (pv 9) pa_nil)))) (pw_or (pt_cmpR op_ne (pv 9) (pe_op op_sub (pe_callB call_len_seq (by rfl) Z.z_len (by decide +kernel) (pa_cons (pe_ix ix_list (pv 3) (pv 7) (fun _ _ => rfl)) pa_nil)) pe_int) (nomark _)) (pw_or1 (pt_cmpR op_ne (pe_fldX (FOk.cons Z.cl_Days Z.n_Days_last FOk.nil) (pe_ix ix_list (pv 2) (pv 7) (fun _ _ => rfl)) rfl) (pv 9) (nomark _)))))) (pss_one (ps_ret pe_bl)) pss_nil)
      (pss_cons (ps_set (i := 10) sc_law.nd rfl (Or.inl rfl) (pe_op op_mod (pe_op op_fdiv (pv 6) pe_int) (pe_op op_add (pv 9) pe_int)))
      (pss_cons (ps_set (i := 11) sc_law.nd rfl (Or.inl rfl) (pe_methX (k := 2) (AllM.cons (MtE.mk Z.cl_Days Z.m_Days_table (ok_Days_table Z) (by decide) Z.b_Days_table .nil) AllM.nil) (hr.mono (by decide)) pass0 (pe_ix ix_list (pv 2) (pv 7) (fun _ _ => rfl)) (pa_cons (pv 10) pa_nil)))
      (pss_cons (ps_if (pt_not (pt_val (pe_call (ok__law_alike Z) (hr.mono (by decide)) (by rfl) Z.g__law_alike Z.F__law_alike.kp Z.b__law_alike .nil pass0 (pa_cons (pv 11) (pa_cons (pe_ix ix_list (pe_ix ix_list (pv 3) (pv 7) (fun _ _ => rfl)) (pv 10) (fun _ _ => rfl)) pa_nil))))) (pss_one (ps_ret pe_bl)) pss_nil)
      (pss_one (ps_expr (pe_bm PySem.F.plainAttrs_list PySem.F.slot_list_append PySem.F.type_list_append mt_append (pv 4) (pa_cons (pe_tup (pa_cons (pv 11) (pa_cons (pv 7) (pa_cons (pv 10) pa_nil)))) pa_nil))))))))))))))
      (pss_cons (ps_for PassesOwn.never rfl (pi_range1 (by rfl) Z.z_range (pa_cons pe_int pa_nil)) (pg_name (i := 7) sc_law.nd rfl (Or.inl rfl)) (pss_one (ps_for PassesOwn.never rfl (pi_range1 (by rfl) Z.z_range (pa_cons (pe_callB call_len_seq (by rfl) Z.z_len (by decide +kernel) (pa_cons (pe_ix ix_list (pv 3) (pv 7) (fun _ _ => rfl)) pa_nil)) pa_nil)) (pg_name (i := 9) sc_law.nd rfl (Or.inl rfl)) (pss_one (ps_if (pt_not (pt_val (pe_call (ok__law_alike Z) (hr.mono (by decide)) (by rfl) Z.g__law_alike Z.F__law_alike.kp Z.b__law_alike .nil pass0 (pa_cons (pe_methX (k := 2) (AllM.cons (MtE.mk Z.cl_Days Z.m_Days_table (ok_Days_table Z) (by decide) Z.b_Days_table .nil) AllM.nil) (hr.mono (by decide)) pass0 (pe_ix ix_list (pv 2) (pv 7) (fun _ _ => rfl)) (pa_cons (pv 9) pa_nil)) (pa_cons (pe_ix ix_list (pe_ix ix_list (pv 3) (pv 7) (fun _ _ => rfl)) (pv 9) (fun _ _ => rfl)) pa_nil))))) (pss_one (ps_ret pe_bl)) pss_nil)))))
      (pss_cons (ps_for PassesOwn.never rfl (pi_list (pv 4)) (pg_tup rfl (pgs_cons (pg_name (i := 11) sc_law.nd rfl (Or.inl rfl)) (pgs_cons (pg_name (i := 7) sc_law.nd rfl (Or.inl rfl)) (pgs_cons (pg_name (i := 10) sc_law.nd rfl (Or.inl rfl)) pgs_nil)))) (pss_one (ps_if (pt_not (pt_val (pe_call (ok__law_alike Z) (hr.mono (by decide)) (by rfl) Z.g__law_alike Z.F__law_alike.kp Z.b__law_alike .nil pass0 (pa_cons (pv 11) (pa_cons (pe_ix ix_list (pe_ix ix_list (pv 3) (pv 7) (fun _ _ => rfl)) (pv 10) (fun _ _ => rfl)) pa_nil))))) (pss_one (ps_ret pe_bl)) pss_nil)))
      (pss_one (ps_ret pe_bl))))))))), ?_⟩
  exact pure_bodyF b_law h
theorem cell0_int (ns : List Int) (k : Int) (h0 : 0 ≤ k) : ∃ c, m_cell0 [.scr (ns.map D.int), .int k] = some (.im (.int c)) := by
  simp only [m_cell0]
  rw [if_pos h0]
  split
  · rename_i h
    have h' : k.toNat < ns.length := by simp at h; omega
    exact ⟨ns[k.toNat], by simp [h']⟩
  · exact ⟨_, rfl⟩
@[simp] theorem ixN_20 : ixN 2 0 = some 0 := rfl
@[simp] theorem ixN_21 : ixN 2 1 = some 1 := rfl
theorem metM_days {T : TabI} {ds : List D} {put : M → List M} {w : Int} {A : List (List Int)} {Q : List D} : metM "passes" T ds (put, daysM w A Q) = (getT T "Days").bind fun G => (G (daysM w A Q) ds).map fun q => (q.1, put q.2) := by
  unfold daysM
  simp
theorem metD_days {T : TabP} {ds : List D} {w : Int} {A : List (List Int)} {Q : List D} : metD "table" T ds (daysD w A Q) = (getT T "Days").bind fun G => G (daysD w A Q :: ds) := by
  unfold daysD
  simp
theorem fld_days {w : Int} {A : List (List Int)} {Q : List D} : fldD ["Days"] "last" (daysD w A Q) = some (.int ((A.length : Int) - 1)) := by
  unfold daysD
  simp
def stG (s : D) (w0 w1 : Int) (T0 T1 : List (List Int)) (Q0 Q1 KS : List D) (v5 v6 v7 v8 v9 v10 v11 : M) : List M :=
  [.im s, .im (.lst [.int w0, .int w1]), .nd .lst [daysM w0 T0 Q0, daysM w1 T1 Q1], .nd .lst [.nd .lst (T0.map tabM), .nd .lst (T1.map tabM)], .nd .lst (KS.map M.im), v5, v6, v7, v8, v9, v10, v11]
theorem ixN_natX {n k : Nat} (h : k < n) : ixN n (k : Int) = some k := by
  unfold ixN
  rw [if_pos (Int.natCast_nonneg _), if_pos (by omega)]
  simp
theorem turn0 {K : PySem.W.Frag} (S : List D) (w0 w1 k c : Int) (T0 T1 : List (List Int)) (t t2 f : List Int) (Q0 Q1 KS L : List D) (q : D) (k2 : Nat) (v6 v7 v8 v9 v10 v11 : M)
    (hcell : atD S k = some (.int c)) (hside : c / 7 % 2 = 0) (hch : G__law_changes (K := K) [.int c, .int w0] = some (.nd .lst (L.map M.im))) (hnext : G__law_next (K := K) [.lst (t.map D.int), .lst L] = some (.nd .lst ((t2.map D.int).map M.im)))
    (hpass : G_Days_passes (K := K) (daysM w0 T0 Q0) [.lst L] = some (.im (.int (T0.length : Int)), daysM w0 (T0 ++ [t2]) (Q0 ++ [q]))) (hpos : 0 < T0.length) (hlast : T0[T0.length - 1]? = some t) (hlen : T0.length ≤ 900) (hks : KS.length ≤ 900)
    (hk2 : c / 14 % ((T0.length : Int) + 1) = (k2 : Int)) (hk3 : k2 < T0.length + 1) (hf : (T0.map tabM ++ [.im (.lst (t2.map D.int))])[k2]? = some (.im (.lst (f.map D.int))))
    (htab : G_Days_table (K := K) [daysD w0 (T0 ++ [t2]) (Q0 ++ [q]), .int (k2 : Int)] = some (.nd .lst ((f.map D.int).map M.im))) (hal : G__law_alike (K := K) [.lst (f.map D.int), .lst (f.map D.int)] = some (.im (.bl true))) :
    ∃ a6 a7 a8 a9 a10 a11, (lb_law_1 (K := K)).ev (stG (.scr S) w0 w1 T0 T1 Q0 Q1 KS (.im (.int k)) v6 v7 v8 v9 v10 v11) = some (.nx (stG (.scr S) w0 w1 (T0 ++ [t2]) T1 (Q0 ++ [q]) Q1 (KS ++ [.tup [.lst (f.map D.int), .int 0, .int (k2 : Int)]]) (.im (.int k)) a6 a7 a8 a9 a10 a11)) := by
  have w0' : m_whole [.int (T0.length : Int)] = some (.im (.bl true)) := rfl
  have h1 := ixN_last T0.length hpos
  have h2 : T0.length + 1 ≤ 100000 := by omega
  have h3 : KS.length + 1 ≤ 100000 := by omega
  have h4 : (0 : Int) < (T0.length : Int) + 1 := by omega
  have h5 := ixN_natX hk3
  have h6 : ((T0.length : Int) + 1 - 1) = (T0.length : Int) := by omega
  unfold lb_law_1 stG
  refine ⟨.im (.int c), .im (.int 0), .im (.lst L), .im (.int (T0.length : Int)), .im (.int (k2 : Int)), .im (.lst (f.map D.int)), ?_⟩
  simp [hcell, hside, hch, hnext, hpass, hlast, lineD, h1, h2, h3, h4, h5, h6, hk2, hf, htab, hal, w0', metM_days, metD_days, fld_days, days_fz, tabs_fz, tabM, CDiv]
theorem turn1 {K : PySem.W.Frag} (S : List D) (w0 w1 k c : Int) (T0 T1 : List (List Int)) (t t2 f : List Int) (Q0 Q1 KS L : List D) (q : D) (k2 : Nat) (v6 v7 v8 v9 v10 v11 : M)
    (hcell : atD S k = some (.int c)) (hside : c / 7 % 2 = 1) (hch : G__law_changes (K := K) [.int c, .int w1] = some (.nd .lst (L.map M.im))) (hnext : G__law_next (K := K) [.lst (t.map D.int), .lst L] = some (.nd .lst ((t2.map D.int).map M.im)))
    (hpass : G_Days_passes (K := K) (daysM w1 T1 Q1) [.lst L] = some (.im (.int (T1.length : Int)), daysM w1 (T1 ++ [t2]) (Q1 ++ [q]))) (hpos : 0 < T1.length) (hlast : T1[T1.length - 1]? = some t) (hlen : T1.length ≤ 900) (hks : KS.length ≤ 900)
    (hk2 : c / 14 % ((T1.length : Int) + 1) = (k2 : Int)) (hk3 : k2 < T1.length + 1) (hf : (T1.map tabM ++ [.im (.lst (t2.map D.int))])[k2]? = some (.im (.lst (f.map D.int))))
    (htab : G_Days_table (K := K) [daysD w1 (T1 ++ [t2]) (Q1 ++ [q]), .int (k2 : Int)] = some (.nd .lst ((f.map D.int).map M.im))) (hal : G__law_alike (K := K) [.lst (f.map D.int), .lst (f.map D.int)] = some (.im (.bl true))) :
    ∃ a6 a7 a8 a9 a10 a11, (lb_law_1 (K := K)).ev (stG (.scr S) w0 w1 T0 T1 Q0 Q1 KS (.im (.int k)) v6 v7 v8 v9 v10 v11) = some (.nx (stG (.scr S) w0 w1 T0 (T1 ++ [t2]) Q0 (Q1 ++ [q]) (KS ++ [.tup [.lst (f.map D.int), .int 1, .int (k2 : Int)]]) (.im (.int k)) a6 a7 a8 a9 a10 a11)) := by
  have w0' : m_whole [.int (T1.length : Int)] = some (.im (.bl true)) := rfl
  have h1 := ixN_last T1.length hpos
  have h2 : T1.length + 1 ≤ 100000 := by omega
  have h3 : KS.length + 1 ≤ 100000 := by omega
  have h4 : (0 : Int) < (T1.length : Int) + 1 := by omega
  have h5 := ixN_natX hk3
  have h6 : ((T1.length : Int) + 1 - 1) = (T1.length : Int) := by omega
  unfold lb_law_1 stG
  refine ⟨.im (.int c), .im (.int 1), .im (.lst L), .im (.int (T1.length : Int)), .im (.int (k2 : Int)), .im (.lst (f.map D.int)), ?_⟩
  simp [hcell, hside, hch, hnext, hpass, hlast, lineD, h1, h2, h3, h4, h5, h6, hk2, hf, htab, hal, w0', metM_days, metD_days, fld_days, days_fz, tabs_fz, tabM, CDiv]

def okS (w : Int) (T : List (List Int)) : Prop := ∀ t ∈ T, (t.length : Int) = w
def okK (KS : List D) (T0 T1 : List (List Int)) : Prop := ∀ x ∈ KS, ∃ (k2 : Nat) (f : List Int), (x = .tup [.lst (f.map D.int), .int 0, .int (k2 : Int)] ∧ T0[k2]? = some f) ∨ (x = .tup [.lst (f.map D.int), .int 1, .int (k2 : Int)] ∧ T1[k2]? = some f)
theorem get_app {T : List (List Int)} {k : Nat} {f t : List Int} (h : T[k]? = some f) : (T ++ [t])[k]? = some f := by
  rw [List.getElem?_append_left (List.getElem?_eq_some_iff.mp h).1]; exact h
theorem okK0 {KS : List D} {T0 T1 : List (List Int)} {t : List Int} (h : okK KS T0 T1) : okK KS (T0 ++ [t]) T1 := fun x hx => by
  obtain ⟨k2, f, h | h⟩ := h x hx
  · exact ⟨k2, f, .inl ⟨h.1, get_app h.2⟩⟩
  · exact ⟨k2, f, .inr h⟩
theorem okK1 {KS : List D} {T0 T1 : List (List Int)} {t : List Int} (h : okK KS T0 T1) : okK KS T0 (T1 ++ [t]) := fun x hx => by
  obtain ⟨k2, f, h | h⟩ := h x hx
  · exact ⟨k2, f, .inl h⟩
  · exact ⟨k2, f, .inr ⟨h.1, get_app h.2⟩⟩
/-- the last table, the new one, the told one -/
theorem day_data {K : PySem.W.Frag} (w c : Int) (T : List (List Int)) (Q : List D) (h1 : 1 ≤ w) (h2 : w ≤ 40) (ok : okS w T) (hpos : 0 < T.length) (hlen : T.length ≤ 900) (hq : Q.length ≤ 900) :
    ∃ (t t2 f : List Int) (L : List D) (q : D) (k2 : Nat), G__law_changes (K := K) [.int c, .int w] = some (.nd .lst (L.map M.im)) ∧ G__law_next (K := K) [.lst (t.map D.int), .lst L] = some (.nd .lst ((t2.map D.int).map M.im)) ∧
      G_Days_passes (K := K) (daysM w T Q) [.lst L] = some (.im (.int (T.length : Int)), daysM w (T ++ [t2]) (Q ++ [q])) ∧ T[T.length - 1]? = some t ∧ c / 14 % ((T.length : Int) + 1) = (k2 : Int) ∧ k2 < T.length + 1 ∧ (T ++ [t2])[k2]? = some f ∧ (t2.length : Int) = w := by
  have hlast : T[T.length - 1]? = some (T[T.length - 1]'(by omega)) := List.getElem?_eq_getElem _
  obtain ⟨T', t, rfl⟩ : ∃ T' t, T = T' ++ [t] := ⟨T.dropLast, T.getLast (by intro z; subst z; simp at hpos), (List.dropLast_concat_getLast _).symm⟩
  have ht : (t.length : Int) = w := ok t (by simp)
  have hc := chI_ok c w h1
  have hl := chI_len c w h1 h2
  obtain ⟨k2, hk2⟩ := Int.eq_ofNat_of_zero_le (Int.emod_nonneg (c / 14) (b := (((T' ++ [t]).length : Nat) : Int) + 1) (by omega))
  have hk3 : k2 < (T' ++ [t]).length + 1 := by
    have := Int.emod_lt_of_pos (c / 14) (b := (((T' ++ [t]).length : Nat) : Int) + 1) (by omega)
    omega
  have hp := t_passes (K := K) w T' t Q (chI c w) hc ht (by simp at hlen; omega) hq (by omega)
  have e1 : ((T' ++ [t]).length : Int) = (T'.length : Int) + 1 := by simp
  have hk4 : k2 < (T' ++ [t] ++ [setAll t (chI c w)]).length := by simp at hk3 ⊢; omega
  refine ⟨t, setAll t (chI c w), (T' ++ [t] ++ [setAll t (chI c w)])[k2], rowsD (chI c w), .lst ((chI c w).map fun c => D.int c.1), k2, t_changes c w h1 h2, t_next w t _ hc ht, ?_, by simp, hk2, hk3, List.getElem?_eq_getElem hk4, by rw [setAll_len]; exact ht⟩
  rw [e1]
  exact hp
theorem tab_get {T : List (List Int)} {t2 f : List Int} {k2 : Nat} (h : (T ++ [t2])[k2]? = some f) : (T.map tabM ++ [.im (.lst (t2.map D.int))])[k2]? = some (.im (.lst (f.map D.int))) := by
  have e : T.map tabM ++ [.im (.lst (t2.map D.int))] = (T ++ [t2]).map tabM := by rw [List.map_append]; rfl
  rw [e, List.getElem?_map, h]; rfl
def Inv1 (ns : List Int) (w0 w1 : Int) (i : Nat) (Γ : List M) : Prop := ∃ T0 T1 Q0 Q1 KS v5 v6 v7 v8 v9 v10 v11, Γ = stG (.scr (ns.map D.int)) w0 w1 T0 T1 Q0 Q1 KS v5 v6 v7 v8 v9 v10 v11 ∧ okS w0 T0 ∧ okS w1 T1 ∧ okK KS T0 T1 ∧
  0 < T0.length ∧ 0 < T1.length ∧ T0.length ≤ i + 1 ∧ T1.length ≤ i + 1 ∧ Q0.length ≤ i + 1 ∧ Q1.length ≤ i + 1 ∧ KS.length ≤ i
theorem loop1 {K : PySem.W.Frag} (ns : List Int) (hns : ns.length ≤ 63) (w0 w1 : Int) (a0 : 1 ≤ w0) (a1 : w0 ≤ 40) (b0 : 1 ≤ w1) (b1 : w1 ≤ 40) (Γ : List M) (h : Inv1 ns w0 w1 0 Γ) :
    ∃ Γ', forRun (gN (K := K) (pn := pn0) 5).asg (lb_law_1 (K := K)).ev (rangeD 0 ns.length) Γ = some (.nx Γ') ∧ Inv1 ns w0 w1 (0 + (rangeD 0 ns.length).length) Γ' := by
  refine forRun_inv (Inv1 ns w0 w1) (rangeD 0 ns.length) 0 Γ h ?_
  rintro i Γ d hd ⟨T0, T1, Q0, Q1, KS, v5, v6, v7, v8, v9, v10, v11, rfl, o0, o1, oK, p0, p1, l0, l1, q0, q1, lk⟩
  have hi : i < ns.length := by
    have := (List.getElem?_eq_some_iff.mp hd).1
    rwa [rangeD_len] at this
  have hd2 : d = .int (i : Int) := by
    simp [rangeD, hi] at hd
    exact hd.symm
  subst hd2
  have hcell : atD (ns.map D.int) (i : Int) = some (.int ns[i]) := by rw [atD_nat]; simp [hi]
  rw [Nat.zero_add] at l0 l1 q0 q1 lk ⊢
  generalize hc : ns[i] = c at hcell
  rcases (show c / 7 % 2 = 0 ∨ c / 7 % 2 = 1 by omega) with hs | hs
  · obtain ⟨t, t2, f, L, q, k2, d1, d2, d3, d4, d5, d6, d7, d8⟩ := day_data (K := K) w0 c T0 Q0 a0 a1 o0 p0 (by omega) (by omega)
    obtain ⟨a6, a7, a8, a9, a10, a11, e⟩ := turn0 (K := K) (ns.map D.int) w0 w1 (i : Int) c T0 T1 t t2 f Q0 Q1 KS L q k2 v6 v7 v8 v9 v10 v11 hcell hs d1 d2 d3 p0 d4 (by omega) (by omega) d5 d6 (tab_get d7) (t_table w0 _ _ k2 f d7) (t_alike f)
    refine ⟨stG (.scr (ns.map D.int)) w0 w1 T0 T1 Q0 Q1 KS (.im (.int (i : Int))) v6 v7 v8 v9 v10 v11, _, by simp [stG], .inl e, T0 ++ [t2], T1, Q0 ++ [q], Q1, _, _, a6, a7, a8, a9, a10, a11, rfl, ?_, o1, ?_, by simp, p1, by simp; omega, by omega, by simp; omega, by omega, by simp; omega⟩
    · intro x hx
      rcases List.mem_append.mp hx with z | z
      · exact o0 x z
      · simp at z; rw [z]; exact d8
    · intro x hx
      rcases List.mem_append.mp hx with z | z
      · exact okK0 oK x z
      · simp at z; exact ⟨k2, f, .inl ⟨z, d7⟩⟩
  · obtain ⟨t, t2, f, L, q, k2, d1, d2, d3, d4, d5, d6, d7, d8⟩ := day_data (K := K) w1 c T1 Q1 b0 b1 o1 p1 (by omega) (by omega)
    obtain ⟨a6, a7, a8, a9, a10, a11, e⟩ := turn1 (K := K) (ns.map D.int) w0 w1 (i : Int) c T0 T1 t t2 f Q0 Q1 KS L q k2 v6 v7 v8 v9 v10 v11 hcell hs d1 d2 d3 p1 d4 (by omega) (by omega) d5 d6 (tab_get d7) (t_table w1 _ _ k2 f d7) (t_alike f)
    refine ⟨stG (.scr (ns.map D.int)) w0 w1 T0 T1 Q0 Q1 KS (.im (.int (i : Int))) v6 v7 v8 v9 v10 v11, _, by simp [stG], .inl e, T0, T1 ++ [t2], Q0, Q1 ++ [q], _, _, a6, a7, a8, a9, a10, a11, rfl, o0, ?_, ?_, p0, by simp, by omega, by simp; omega, by omega, by simp; omega, by simp; omega⟩
    · intro x hx
      rcases List.mem_append.mp hx with z | z
      · exact o1 x z
      · simp at z; rw [z]; exact d8
    · intro x hx
      rcases List.mem_append.mp hx with z | z
      · exact okK1 oK x z
      · simp at z; exact ⟨k2, f, .inr ⟨z, d7⟩⟩
/-! the second loop -/
theorem day0 {K : PySem.W.Frag} (s : D) (w0 w1 : Int) (T0 T1 : List (List Int)) (f : List Int) (Q0 Q1 KS : List D) (k : Nat) (v5 v6 v8 v10 v11 : M) (hf : T0[k]? = some f) (ht : G_Days_table (K := K) [daysD w0 T0 Q0, .int (k : Int)] = some (.nd .lst ((f.map D.int).map M.im))) (ha : G__law_alike (K := K) [.lst (f.map D.int), .lst (f.map D.int)] = some (.im (.bl true))) :
    (lb_law_2 (K := K)).ev (stG s w0 w1 T0 T1 Q0 Q1 KS v5 v6 (.im (.int 0)) v8 (.im (.int (k : Int))) v10 v11) = some (.nx (stG s w0 w1 T0 T1 Q0 Q1 KS v5 v6 (.im (.int 0)) v8 (.im (.int (k : Int))) v10 v11)) := by
  have h1 := ixN_natX (List.getElem?_eq_some_iff.mp hf).1
  unfold lb_law_2 stG
  simp [h1, hf, ht, ha, metD_days, days_fz, tabM]
theorem day1 {K : PySem.W.Frag} (s : D) (w0 w1 : Int) (T0 T1 : List (List Int)) (f : List Int) (Q0 Q1 KS : List D) (k : Nat) (v5 v6 v8 v10 v11 : M) (hf : T1[k]? = some f) (ht : G_Days_table (K := K) [daysD w1 T1 Q1, .int (k : Int)] = some (.nd .lst ((f.map D.int).map M.im))) (ha : G__law_alike (K := K) [.lst (f.map D.int), .lst (f.map D.int)] = some (.im (.bl true))) :
    (lb_law_2 (K := K)).ev (stG s w0 w1 T0 T1 Q0 Q1 KS v5 v6 (.im (.int 1)) v8 (.im (.int (k : Int))) v10 v11) = some (.nx (stG s w0 w1 T0 T1 Q0 Q1 KS v5 v6 (.im (.int 1)) v8 (.im (.int (k : Int))) v10 v11)) := by
  have h1 := ixN_natX (List.getElem?_eq_some_iff.mp hf).1
  unfold lb_law_2 stG
  simp [h1, hf, ht, ha, metD_days, days_fz, tabM]
theorem side0 {K : PySem.W.Frag} (s : D) (w0 w1 : Int) (T0 T1 : List (List Int)) (Q0 Q1 KS : List D) (v5 v6 v8 v9 v10 v11 : M) (hl : T0.length ≤ 900) : ∃ v9', (lb_law_3 (K := K)).ev (stG s w0 w1 T0 T1 Q0 Q1 KS v5 v6 (.im (.int 0)) v8 v9 v10 v11) = some (.nx (stG s w0 w1 T0 T1 Q0 Q1 KS v5 v6 (.im (.int 0)) v8 v9' v10 v11)) := by
  obtain ⟨Γ', r, v9', rfl⟩ := forRun_inv (asg := (gN (K := K) (pn := pn0) 9).asg) (body := (lb_law_2 (K := K)).ev) (fun _ Γ => ∃ v9', Γ = stG s w0 w1 T0 T1 Q0 Q1 KS v5 v6 (.im (.int 0)) v8 v9' v10 v11) (rangeD 0 T0.length) 0 _ ⟨v9, rfl⟩ (by
    rintro i Γ d hd ⟨v9', rfl⟩
    have hi : i < T0.length := by
      have := (List.getElem?_eq_some_iff.mp hd).1
      rwa [rangeD_len] at this
    have hd2 : d = .int (i : Int) := by
      simp [rangeD, hi] at hd
      exact hd.symm
    subst hd2
    exact ⟨_, _, by simp [stG], .inl (day0 s w0 w1 T0 T1 _ Q0 Q1 KS i v5 v6 v8 v10 v11 (List.getElem?_eq_getElem hi) (t_table w0 T0 Q0 i _ (List.getElem?_eq_getElem hi)) (t_alike _)), _, rfl⟩)
  refine ⟨v9', ?_⟩
  unfold lb_law_3
  refine for_at (srcR1_at (n := T0.length) ?_ (by omega)) r
  simp [stG, days_fz, tabs_fz]
theorem side1 {K : PySem.W.Frag} (s : D) (w0 w1 : Int) (T0 T1 : List (List Int)) (Q0 Q1 KS : List D) (v5 v6 v8 v9 v10 v11 : M) (hl : T1.length ≤ 900) : ∃ v9', (lb_law_3 (K := K)).ev (stG s w0 w1 T0 T1 Q0 Q1 KS v5 v6 (.im (.int 1)) v8 v9 v10 v11) = some (.nx (stG s w0 w1 T0 T1 Q0 Q1 KS v5 v6 (.im (.int 1)) v8 v9' v10 v11)) := by
  obtain ⟨Γ', r, v9', rfl⟩ := forRun_inv (asg := (gN (K := K) (pn := pn0) 9).asg) (body := (lb_law_2 (K := K)).ev) (fun _ Γ => ∃ v9', Γ = stG s w0 w1 T0 T1 Q0 Q1 KS v5 v6 (.im (.int 1)) v8 v9' v10 v11) (rangeD 0 T1.length) 0 _ ⟨v9, rfl⟩ (by
    rintro i Γ d hd ⟨v9', rfl⟩
    have hi : i < T1.length := by
      have := (List.getElem?_eq_some_iff.mp hd).1
      rwa [rangeD_len] at this
    have hd2 : d = .int (i : Int) := by
      simp [rangeD, hi] at hd
      exact hd.symm
    subst hd2
    exact ⟨_, _, by simp [stG], .inl (day1 s w0 w1 T0 T1 _ Q0 Q1 KS i v5 v6 v8 v10 v11 (List.getElem?_eq_getElem hi) (t_table w1 T1 Q1 i _ (List.getElem?_eq_getElem hi)) (t_alike _)), _, rfl⟩)
  refine ⟨v9', ?_⟩
  unfold lb_law_3
  refine for_at (srcR1_at (n := T1.length) ?_ (by omega)) r
  simp [stG, days_fz, tabs_fz]
/-! the third loop -/
def stF (s : D) (w0 w1 : Int) (T0 T1 : List (List Int)) (Q0 Q1 KS : List D) (v5 v6 v7 v8 v9 v10 v11 : M) : List M :=
  [.im s, .im (.lst [.int w0, .int w1]), .nd .lst [daysM w0 T0 Q0, daysM w1 T1 Q1], .nd .lst [.nd .lst (T0.map tabM), .nd .lst (T1.map tabM)], .im (.lst KS), v5, v6, v7, v8, v9, v10, v11]
theorem kept0 {K : PySem.W.Frag} (s : D) (w0 w1 : Int) (T0 T1 : List (List Int)) (f : List Int) (Q0 Q1 KS : List D) (k : Nat) (v5 v6 v8 v9 : M) (hf : T0[k]? = some f) (ha : G__law_alike (K := K) [.lst (f.map D.int), .lst (f.map D.int)] = some (.im (.bl true))) :
    (lb_law_4 (K := K)).ev (stF s w0 w1 T0 T1 Q0 Q1 KS v5 v6 (.im (.int 0)) v8 v9 (.im (.int (k : Int))) (.im (.lst (f.map D.int)))) = some (.nx (stF s w0 w1 T0 T1 Q0 Q1 KS v5 v6 (.im (.int 0)) v8 v9 (.im (.int (k : Int))) (.im (.lst (f.map D.int))))) := by
  have h1 := ixN_natX (List.getElem?_eq_some_iff.mp hf).1
  unfold lb_law_4 stF
  simp [h1, hf, ha, tabM]
theorem kept1 {K : PySem.W.Frag} (s : D) (w0 w1 : Int) (T0 T1 : List (List Int)) (f : List Int) (Q0 Q1 KS : List D) (k : Nat) (v5 v6 v8 v9 : M) (hf : T1[k]? = some f) (ha : G__law_alike (K := K) [.lst (f.map D.int), .lst (f.map D.int)] = some (.im (.bl true))) :
    (lb_law_4 (K := K)).ev (stF s w0 w1 T0 T1 Q0 Q1 KS v5 v6 (.im (.int 1)) v8 v9 (.im (.int (k : Int))) (.im (.lst (f.map D.int)))) = some (.nx (stF s w0 w1 T0 T1 Q0 Q1 KS v5 v6 (.im (.int 1)) v8 v9 (.im (.int (k : Int))) (.im (.lst (f.map D.int))))) := by
  have h1 := ixN_natX (List.getElem?_eq_some_iff.mp hf).1
  unfold lb_law_4 stF
  simp [h1, hf, ha, tabM]
theorem loop3 {K : PySem.W.Frag} (s : D) (w0 w1 : Int) (T0 T1 : List (List Int)) (Q0 Q1 KS : List D) (v5 v6 v8 v9 : M) : ∀ (xs : List D) (v7 v10 v11 : M), okK xs T0 T1 → ∃ a7 a10 a11, forRun (gT (K := K) (pn := pn0) 3 (gsCons (gN 11) (gsCons (gN 7) (gsCons (gN 10) gsNil)))).asg (lb_law_4 (K := K)).ev xs (stF s w0 w1 T0 T1 Q0 Q1 KS v5 v6 v7 v8 v9 v10 v11) = some (.nx (stF s w0 w1 T0 T1 Q0 Q1 KS v5 v6 a7 v8 v9 a10 a11))
  | [], v7, v10, v11, _ => ⟨v7, v10, v11, rfl⟩
  | x :: xs, v7, v10, v11, h => by
    obtain ⟨k2, f, ⟨rfl, hf⟩ | ⟨rfl, hf⟩⟩ := h x List.mem_cons_self
    · obtain ⟨a7, a10, a11, e⟩ := loop3 (K := K) s w0 w1 T0 T1 Q0 Q1 KS v5 v6 v8 v9 xs (.im (.int 0)) (.im (.int (k2 : Int))) (.im (.lst (f.map D.int))) fun y hy => h y (List.mem_cons_of_mem _ hy)
      exact ⟨a7, a10, a11, (forRun_step (by simp [stF]) (kept0 s w0 w1 T0 T1 f Q0 Q1 KS k2 v5 v6 v8 v9 hf (t_alike f))).trans e⟩
    · obtain ⟨a7, a10, a11, e⟩ := loop3 (K := K) s w0 w1 T0 T1 Q0 Q1 KS v5 v6 v8 v9 xs (.im (.int 1)) (.im (.int (k2 : Int))) (.im (.lst (f.map D.int))) fun y hy => h y (List.mem_cons_of_mem _ hy)
      exact ⟨a7, a10, a11, (forRun_step (by simp [stF]) (kept1 s w0 w1 T0 T1 f Q0 Q1 KS k2 v5 v6 v8 v9 hf (t_alike f))).trans e⟩
theorem law_core {K : PySem.W.Frag} (ns : List Int) (c0 w0 w1 : Int) (n : Nat) (e0 : m_cell0 [.scr (ns.map D.int), .int 0] = some (.im (.int c0))) (hw0 : 1 + c0 % 40 = w0) (hw1 : 1 + c0 / 40 % 40 = w1) (i0 : m_init (.nd (.ins "Days" []) []) [.int w0] = some (.im .non, daysM w0 [List.replicate w0.toNat 0] [.lst []])) (i1 : m_init (.nd (.ins "Days" []) []) [.int w1] = some (.im .non, daysM w1 [List.replicate w1.toNat 0] [.lst []]))
    (a0 : 1 ≤ w0 ∧ w0 ≤ 1000) (a1 : 1 ≤ w1 ∧ w1 ≤ 1000) (hn : (ns.length : Int) ≤ 299) (T0 T1 : List (List Int)) (Q0 Q1 KS : List D) (v5 v6 v7 v8 v9 v10 v11 b9 c9 d7 d10 d11 : M)
    (r1 : forRun (gN (K := K) (pn := pn0) 5).asg (lb_law_1 (K := K)).ev (rangeD 0 ns.length) (stG (.scr (ns.map D.int)) w0 w1 [List.replicate w0.toNat 0] [List.replicate w1.toNat 0] [.lst []] [.lst []] [] .emp .emp .emp .emp .emp .emp .emp) = some (.nx (stG (.scr (ns.map D.int)) w0 w1 T0 T1 Q0 Q1 KS v5 v6 v7 v8 v9 v10 v11)))
    (r2 : (lb_law_3 (K := K)).ev (stG (.scr (ns.map D.int)) w0 w1 T0 T1 Q0 Q1 KS v5 v6 (.im (.int 0)) v8 v9 v10 v11) = some (.nx (stG (.scr (ns.map D.int)) w0 w1 T0 T1 Q0 Q1 KS v5 v6 (.im (.int 0)) v8 b9 v10 v11)))
    (r3 : (lb_law_3 (K := K)).ev (stG (.scr (ns.map D.int)) w0 w1 T0 T1 Q0 Q1 KS v5 v6 (.im (.int 1)) v8 b9 v10 v11) = some (.nx (stG (.scr (ns.map D.int)) w0 w1 T0 T1 Q0 Q1 KS v5 v6 (.im (.int 1)) v8 c9 v10 v11)))
    (r4 : forRun (gT (K := K) (pn := pn0) 3 (gsCons (gN 11) (gsCons (gN 7) (gsCons (gN 10) gsNil)))).asg (lb_law_4 (K := K)).ev KS (stF (.scr (ns.map D.int)) w0 w1 T0 T1 Q0 Q1 KS v5 v6 (.im (.int 1)) v8 c9 v10 v11) = some (.nx (stF (.scr (ns.map D.int)) w0 w1 T0 T1 Q0 Q1 KS v5 v6 d7 v8 c9 d10 d11))) :
    G_law (K := K) [.scr (ns.map D.int)] = some (.im (.bl true)) := by
  have hr : rangeD 0 2 = [.int 0, .int 1] := rfl
  have h1 : -1000 ≤ w0 := by omega
  have h2 : -1000 ≤ w1 := by omega
  have h3 : ¬ (299 : Int) < (ns.length : Int) := by omega
  have hf : (List.replicate w0.toNat [D.int 0]).flatten = (List.replicate w0.toNat (0 : Int)).map D.int := flat_one _
  have hf' : (List.replicate w1.toNat [D.int 0]).flatten = (List.replicate w1.toNat (0 : Int)).map D.int := flat_one _
  unfold G_law
  rw [runF_1]
  have key : (b_law (K := K)).ev [.im (.scr (ns.map D.int)), .emp, .emp, .emp, .emp, .emp, .emp, .emp, .emp, .emp, .emp, .emp] = some (.rt (.im (.bl true)) (stF (.scr (ns.map D.int)) w0 w1 T0 T1 Q0 Q1 KS v5 v6 d7 v8 c9 d10 d11)) := by
    unfold b_law
    refine (seq_nx (Γ1 := [.im (.scr (ns.map D.int)), .im (.lst [.int w0, .int w1]), .emp, .emp, .emp, .emp, .emp, .emp, .emp, .emp, .emp, .emp]) ?_).trans ?_
    · simp [e0, hw0, hw1, lineD, CDiv]
    refine (seq_nx (Γ1 := [.im (.scr (ns.map D.int)), .im (.lst [.int w0, .int w1]), .nd .lst [daysM w0 [List.replicate w0.toNat 0] [.lst []], daysM w1 [List.replicate w1.toNat 0] [.lst []]], .emp, .emp, .emp, .emp, .emp, .emp, .emp, .emp, .emp]) ?_).trans ?_
    · simp [i0, i1, lineD]
    refine (seq_nx (Γ1 := [.im (.scr (ns.map D.int)), .im (.lst [.int w0, .int w1]), .nd .lst [daysM w0 [List.replicate w0.toNat 0] [.lst []], daysM w1 [List.replicate w1.toNat 0] [.lst []]], .nd .lst [.nd .lst ([List.replicate w0.toNat 0].map tabM), .nd .lst ([List.replicate w1.toNat 0].map tabM)], .emp, .emp, .emp, .emp, .emp, .emp, .emp, .emp]) ?_).trans ?_
    · simp [lineD, h1, h2, a0.2, a1.2, hf, hf', tabM]
    refine (seq_nx (Γ1 := stG (.scr (ns.map D.int)) w0 w1 [List.replicate w0.toNat 0] [List.replicate w1.toNat 0] [.lst []] [.lst []] [] .emp .emp .emp .emp .emp .emp .emp) ?_).trans ?_
    · simp [lineD, stG]
    refine (seq_nx (for_at (srcR1_at (n := ns.length) ?_ (by omega)) r1)).trans ?_
    · simp [stG, h3]
    refine (seq_nx (Γ1 := stG (.scr (ns.map D.int)) w0 w1 T0 T1 Q0 Q1 KS v5 v6 (.im (.int 1)) v8 c9 v10 v11) (for_at (srcR1_at (n := 2) rfl (by omega)) ?_)).trans ?_
    · rw [hr]
      refine (forRun_step ?_ r2).trans ((forRun_step ?_ r3).trans rfl)
      · simp [stG]
      · simp [stG]
    refine (seq_nx (Γ1 := stF (.scr (ns.map D.int)) w0 w1 T0 T1 Q0 Q1 KS v5 v6 d7 v8 c9 d10 d11) ?_).trans ?_
    · refine fz_at (m := .nd .lst (KS.map M.im)) (d := .lst KS) rfl fz_lst (for_at (ds := KS) ?_ r4)
      simp [stG]
    rfl
  show ((b_law (K := K)).ev [.im (.scr (ns.map D.int)), .emp, .emp, .emp, .emp, .emp, .emp, .emp, .emp, .emp, .emp, .emp]).bind outM = _
  rw [key]; rfl
theorem law_true {K : PySem.W.Frag} (ns : List Int) (h : ns.length ≤ 63) : G_law (K := K) [.scr (ns.map D.int)] = some (.im (.bl true)) := by
  obtain ⟨c0, e0⟩ := cell0_int ns 0 (by decide)
  have hw0 : 1 ≤ 1 + c0 % 40 ∧ 1 + c0 % 40 ≤ 40 := ⟨by omega, by omega⟩
  have hw1 : 1 ≤ 1 + c0 / 40 % 40 ∧ 1 + c0 / 40 % 40 ≤ 40 := ⟨by omega, by omega⟩
  generalize ew0 : 1 + c0 % 40 = w0 at hw0
  generalize ew1 : 1 + c0 / 40 % 40 = w1 at hw1
  have i0 : m_init (.nd (.ins "Days" []) []) [.int w0] = some (.im .non, daysM w0 [List.replicate w0.toNat 0] [.lst []]) := by simp [m_init, hw0]
  have i1 : m_init (.nd (.ins "Days" []) []) [.int w1] = some (.im .non, daysM w1 [List.replicate w1.toNat 0] [.lst []]) := by simp [m_init, hw1]
  have z0 : okS w0 [List.replicate w0.toNat 0] := fun t ht => by
    simp at ht
    rw [ht, List.length_replicate]
    omega
  have z1 : okS w1 [List.replicate w1.toNat 0] := fun t ht => by
    simp at ht
    rw [ht, List.length_replicate]
    omega
  have zK : okK [] [List.replicate w0.toNat 0] [List.replicate w1.toNat 0] := fun x hx => by cases hx
  have z : Inv1 ns w0 w1 0 (stG (.scr (ns.map D.int)) w0 w1 [List.replicate w0.toNat 0] [List.replicate w1.toNat 0] [.lst []] [.lst []] [] .emp .emp .emp .emp .emp .emp .emp) :=
    ⟨[List.replicate w0.toNat 0], [List.replicate w1.toNat 0], [.lst []], [.lst []], [], .emp, .emp, .emp, .emp, .emp, .emp, .emp, rfl, z0, z1, zK, Nat.one_pos, Nat.one_pos, Nat.le_refl 1, Nat.le_refl 1, Nat.le_refl 1, Nat.le_refl 1, Nat.le_refl 0⟩
  obtain ⟨Γ', r1, T0, T1, Q0, Q1, KS, v5, v6, v7, v8, v9, v10, v11, rfl, o0, o1, oK, p0, p1, l0, l1, q0, q1, lk⟩ := loop1 (K := K) ns h w0 w1 hw0.1 hw0.2 hw1.1 hw1.2 _ z
  rw [rangeD_len, Nat.zero_add] at l0 l1
  obtain ⟨b9, r2⟩ := side0 (K := K) (.scr (ns.map D.int)) w0 w1 T0 T1 Q0 Q1 KS v5 v6 v8 v9 v10 v11 (by omega)
  obtain ⟨c9, r3⟩ := side1 (K := K) (.scr (ns.map D.int)) w0 w1 T0 T1 Q0 Q1 KS v5 v6 v8 b9 v10 v11 (by omega)
  obtain ⟨d7, d10, d11, r4⟩ := loop3 (K := K) (.scr (ns.map D.int)) w0 w1 T0 T1 Q0 Q1 KS v5 v6 v8 c9 KS (.im (.int 1)) v10 v11 oK
  exact law_core ns c0 w0 w1 ns.length e0 ew0 ew1 i0 i1 ⟨hw0.1, by omega⟩ ⟨hw1.1, by omega⟩ (by omega) T0 T1 Q0 Q1 KS v5 v6 v7 v8 v9 v10 v11 b9 c9 d7 d10 d11 r1 r2 r3 r4


def spLaw (K : PySem.W.Frag) : Sp := fun vs H Q _ => ∃ (a : Addr) (ns : List Int), vs = [.ref a] ∧ SqL K H a (ns.map V.int) ∧ ns.length ≤ 63 ∧ ∀ H', Q (.bl true) H'
theorem ok_end {P : Program} {w : World} {K : PySem.W.Frag} {mg : Str → Option Value} {base : Heap} {fa : Nat → Addr} {fd : Nat → FuncData} (Z : Txt K mg fa fd) : FnOk P w K mg base CX0 4 (fa 20) (fd 20) ["_law_script"] (spLaw K) := by
  refine FnOk.imp (ok_law Z) fun vs H Q E h => ?_
  obtain ⟨a, ns, rfl, hS, hl, q⟩ := h
  exact ⟨H, [.scr (ns.map D.int)], .im (.bl true), Evl.Ex.refl _, ⟨_, [], rfl, ⟨a, ns.map V.int, rfl, hS, reps_of_ints ns⟩, rfl⟩, law_true ns hl, fun v Hb2 H2 Fr _ _ _ _ o _ _ => by
    obtain ⟨o1, _⟩ := o
    rw [show v = V.bl true from o1]
    exact q H2⟩
theorem all_mk {l : PySem.W.OpenLaw} {K : PySem.W.Frag} {h : Heap} {mg : Str → Option Value} {fl : Addr} (X : K.In h) (G : h.Ns mainGlobals mg) (hfa : mg "law" = some (.ref fl))
    {A_Days : Addr}
    {f13 : Addr} {od13 an13 : Option Addr} {sl13 : Array (Option Value)} {oc13 kV13 dc13 pm13 cd13 ct13 : Value}
    {f1550 : Addr} {od1550 an1550 : Option Addr} {sl1550 : Array (Option Value)} {oc1550 kV1550 dc1550 pm1550 cd1550 ct1550 : Value}
    {f15 : Addr} {od15 an15 : Option Addr} {sl15 : Array (Option Value)} {oc15 kV15 dc15 pm15 cd15 ct15 : Value}
    {f16 : Addr} {od16 an16 : Option Addr} {sl16 : Array (Option Value)} {oc16 kV16 dc16 pm16 cd16 ct16 : Value}
    {f17 : Addr} {od17 an17 : Option Addr} {sl17 : Array (Option Value)} {oc17 kV17 dc17 pm17 cd17 ct17 : Value}
    {f18 : Addr} {od18 an18 : Option Addr} {sl18 : Array (Option Value)} {oc18 kV18 dc18 pm18 cd18 ct18 : Value}
    {f10 : Addr} {od10 an10 : Option Addr} {sl10 : Array (Option Value)} {oc10 kV10 dc10 pm10 cd10 ct10 : Value}
    {f1551 : Addr} {od1551 an1551 : Option Addr} {sl1551 : Array (Option Value)} {oc1551 kV1551 dc1551 pm1551 cd1551 ct1551 : Value}
    {f14 : Addr} {od14 an14 : Option Addr} {sl14 : Array (Option Value)} {oc14 kV14 dc14 pm14 cd14 ct14 : Value}
    {f1552 : Addr} {od1552 an1552 : Option Addr} {sl1552 : Array (Option Value)} {oc1552 kV1552 dc1552 pm1552 cd1552 ct1552 : Value}
    {f1553 : Addr} {od1553 an1553 : Option Addr} {sl1553 : Array (Option Value)} {oc1553 kV1553 dc1553 pm1553 cd1553 ct1553 : Value}
    {f19 : Addr} {od19 an19 : Option Addr} {sl19 : Array (Option Value)} {oc19 kV19 dc19 pm19 cd19 ct19 : Value}
    {f20 : Addr} {od20 an20 : Option Addr} {sl20 : Array (Option Value)} {oc20 kV20 dc20 pm20 cd20 ct20 : Value}
    {t_MOST_BLOCK : Tok}
    {t_MOST_WIDE : Tok}
    (aC_Days : PySem.W.nsIn K mainGlobals "Days" = some (some (.ref A_Days)))
    (pg_Days : PySem.W.plainGet K A_Days Str.empty = true)
    (hd_Days : PySem.W.hasDictIn K A_Days = true)
    (po_Days : PySem.W.plainOver K A_Days = true)
    (sa_Days : PySem.W.findIn K (.ref A_Days) "__setattr__" = some (some (.builtin "object.__setattr__")))
    (n_Days_last : PySem.W.findIn K (.ref A_Days) "last" = some none)
    (n_Days_places : PySem.W.findIn K (.ref A_Days) "places" = some none)
    (n_Days_tables : PySem.W.findIn K (.ref A_Days) "tables" = some none)
    (n_Days_wide : PySem.W.findIn K (.ref A_Days) "wide" = some none)
    (mf_Days_need : PySem.W.findIn K (.ref A_Days) "need" = some (some (.ref f1552)))
    (mf_Days_passes : PySem.W.findIn K (.ref A_Days) "passes" = some (some (.ref f1551)))
    (mf_Days_table : PySem.W.findIn K (.ref A_Days) "table" = some (some (.ref f1553)))
    (mf_Days_init : PySem.W.findIn K (.ref A_Days) "__init__" = some (some (.ref f1550)))
    (mk_Days : PySem.W.makesIn K A_Days = true)
    (kc_Days : PySem.W.keepIn K (.ref A_Days) = true)
    (a13 : PySem.W.nsIn K mainGlobals "_law_cell_at" = some (some (.ref f13)))
    (l13 : K.lookup f13 = some ⟨oc13, od13, .func (PySem.W.fnOf "_law_cell_at" "_law_cell_at" (defArgs s__law_cell_at) (defBody s__law_cell_at) (defScope s__law_cell_at) .none kV13 dc13 pm13 an13 cd13 ct13), sl13⟩)
    (c13 : PySem.W.codeIn K cd13 "_law_cell_at" = true)
    (k13 : PySem.W.keepIn K (.ref f13) = true)
    (l1550 : K.lookup f1550 = some ⟨oc1550, od1550, .func (PySem.W.fnOf "__init__" "Days.__init__" (defArgs s_Days_init) (defBody s_Days_init) (defScope s_Days_init) .none kV1550 dc1550 pm1550 an1550 cd1550 ct1550), sl1550⟩)
    (c1550 : PySem.W.codeIn K cd1550 "Days.__init__" = true)
    (k1550 : PySem.W.keepIn K (.ref f1550) = true)
    (if1550 : PySem.W.isFn K (.ref f1550) = true)
    (a15 : PySem.W.nsIn K mainGlobals "_law_mix" = some (some (.ref f15)))
    (l15 : K.lookup f15 = some ⟨oc15, od15, .func (PySem.W.fnOf "_law_mix" "_law_mix" (defArgs s__law_mix) (defBody s__law_mix) (defScope s__law_mix) .none kV15 dc15 pm15 an15 cd15 ct15), sl15⟩)
    (c15 : PySem.W.codeIn K cd15 "_law_mix" = true)
    (k15 : PySem.W.keepIn K (.ref f15) = true)
    (a16 : PySem.W.nsIn K mainGlobals "_law_block" = some (some (.ref f16)))
    (l16 : K.lookup f16 = some ⟨oc16, od16, .func (PySem.W.fnOf "_law_block" "_law_block" (defArgs s__law_block) (defBody s__law_block) (defScope s__law_block) .none kV16 dc16 pm16 an16 cd16 ct16), sl16⟩)
    (c16 : PySem.W.codeIn K cd16 "_law_block" = true)
    (k16 : PySem.W.keepIn K (.ref f16) = true)
    (a17 : PySem.W.nsIn K mainGlobals "_law_changes" = some (some (.ref f17)))
    (l17 : K.lookup f17 = some ⟨oc17, od17, .func (PySem.W.fnOf "_law_changes" "_law_changes" (defArgs s__law_changes) (defBody s__law_changes) (defScope s__law_changes) .none kV17 dc17 pm17 an17 cd17 ct17), sl17⟩)
    (c17 : PySem.W.codeIn K cd17 "_law_changes" = true)
    (k17 : PySem.W.keepIn K (.ref f17) = true)
    (a18 : PySem.W.nsIn K mainGlobals "_law_next" = some (some (.ref f18)))
    (l18 : K.lookup f18 = some ⟨oc18, od18, .func (PySem.W.fnOf "_law_next" "_law_next" (defArgs s__law_next) (defBody s__law_next) (defScope s__law_next) .none kV18 dc18 pm18 an18 cd18 ct18), sl18⟩)
    (c18 : PySem.W.codeIn K cd18 "_law_next" = true)
    (k18 : PySem.W.keepIn K (.ref f18) = true)
    (a10 : PySem.W.nsIn K mainGlobals "look_through" = some (some (.ref f10)))
    (l10 : K.lookup f10 = some ⟨oc10, od10, .func (PySem.W.fnOf "look_through" "look_through" (defArgs s_look_through) (defBody s_look_through) (defScope s_look_through) .none kV10 dc10 pm10 an10 cd10 ct10), sl10⟩)
    (c10 : PySem.W.codeIn K cd10 "look_through" = true)
    (k10 : PySem.W.keepIn K (.ref f10) = true)
    (l1551 : K.lookup f1551 = some ⟨oc1551, od1551, .func (PySem.W.fnOf "passes" "Days.passes" (defArgs s_Days_passes) (defBody s_Days_passes) (defScope s_Days_passes) .none kV1551 dc1551 pm1551 an1551 cd1551 ct1551), sl1551⟩)
    (c1551 : PySem.W.codeIn K cd1551 "Days.passes" = true)
    (k1551 : PySem.W.keepIn K (.ref f1551) = true)
    (if1551 : PySem.W.isFn K (.ref f1551) = true)
    (a14 : PySem.W.nsIn K mainGlobals "_law_whole" = some (some (.ref f14)))
    (l14 : K.lookup f14 = some ⟨oc14, od14, .func (PySem.W.fnOf "_law_whole" "_law_whole" (defArgs s__law_whole) (defBody s__law_whole) (defScope s__law_whole) .none kV14 dc14 pm14 an14 cd14 ct14), sl14⟩)
    (c14 : PySem.W.codeIn K cd14 "_law_whole" = true)
    (k14 : PySem.W.keepIn K (.ref f14) = true)
    (l1552 : K.lookup f1552 = some ⟨oc1552, od1552, .func (PySem.W.fnOf "need" "Days.need" (defArgs s_Days_need) (defBody s_Days_need) (defScope s_Days_need) .none kV1552 dc1552 pm1552 an1552 cd1552 ct1552), sl1552⟩)
    (c1552 : PySem.W.codeIn K cd1552 "Days.need" = true)
    (k1552 : PySem.W.keepIn K (.ref f1552) = true)
    (if1552 : PySem.W.isFn K (.ref f1552) = true)
    (l1553 : K.lookup f1553 = some ⟨oc1553, od1553, .func (PySem.W.fnOf "table" "Days.table" (defArgs s_Days_table) (defBody s_Days_table) (defScope s_Days_table) .none kV1553 dc1553 pm1553 an1553 cd1553 ct1553), sl1553⟩)
    (c1553 : PySem.W.codeIn K cd1553 "Days.table" = true)
    (k1553 : PySem.W.keepIn K (.ref f1553) = true)
    (if1553 : PySem.W.isFn K (.ref f1553) = true)
    (a19 : PySem.W.nsIn K mainGlobals "_law_alike" = some (some (.ref f19)))
    (l19 : K.lookup f19 = some ⟨oc19, od19, .func (PySem.W.fnOf "_law_alike" "_law_alike" (defArgs s__law_alike) (defBody s__law_alike) (defScope s__law_alike) .none kV19 dc19 pm19 an19 cd19 ct19), sl19⟩)
    (c19 : PySem.W.codeIn K cd19 "_law_alike" = true)
    (k19 : PySem.W.keepIn K (.ref f19) = true)
    (a20 : PySem.W.nsIn K mainGlobals "law" = some (some (.ref f20)))
    (l20 : K.lookup f20 = some ⟨oc20, od20, .func (PySem.W.fnOf "law" "law" (defArgs s_law) (defBody s_law) (defScope s_law) .none kV20 dc20 pm20 an20 cd20 ct20), sl20⟩)
    (c20 : PySem.W.codeIn K cd20 "law" = true)
    (k20 : PySem.W.keepIn K (.ref f20) = true)
    (z_bool : PySem.W.nsIn K mainGlobals "bool" = some none)
    (z_int : PySem.W.nsIn K mainGlobals "int" = some none)
    (z_isinstance : PySem.W.nsIn K mainGlobals "isinstance" = some none)
    (z_len : PySem.W.nsIn K mainGlobals "len" = some none)
    (z_list : PySem.W.nsIn K mainGlobals "list" = some none)
    (z_min : PySem.W.nsIn K mainGlobals "min" = some none)
    (z_range : PySem.W.nsIn K mainGlobals "range" = some none)
    (z_zip : PySem.W.nsIn K mainGlobals "zip" = some none)
    (c_MOST_BLOCK : PySem.W.nsIn K mainGlobals "MOST_BLOCK" = some (some (.int 18446744073709551615 t_MOST_BLOCK)))
    (c_MOST_WIDE : PySem.W.nsIn K mainGlobals "MOST_WIDE" = some (some (.int 40 t_MOST_WIDE)))
    : ∃ fd : FuncData, (∀ (s : Shared) (v : Value), BindsTo s fd ⟨[v], []⟩ [("_law_script", v)]) ∧ ∀ (w : World) (base : Heap), K.In base → base.Ns mainGlobals mg → FnOk l.prog w K mg base CX0 4 fl fd ["_law_script"] (spLaw K) := by
  have e := hfa.symm.trans (PySem.W.mg_of X G a20)
  cases e
  have gC_Days := PySem.W.mg_of X G aC_Days
  have eC_Days : clsA K "Days" = A_Days := clsA_of aC_Days
  subst eC_Days
  have F13 := fun_mk (st := s__law_cell_at) l13 c13 k13
  have b13 := F13.binds (ps := ["_law_script", "_law_k"]) fun _ _ _ _ _ _ us hl => match us, hl with | [_, _], _ => rfl
  have F1550 := fun_mk (st := s_Days_init) l1550 c1550 k1550
  have b1550 := F1550.binds (ps := ["self", "wide"]) fun _ _ _ _ _ _ us hl => match us, hl with | [_, _], _ => rfl
  have F15 := fun_mk (st := s__law_mix) l15 c15 k15
  have b15 := F15.binds (ps := ["_law_cell", "_law_k"]) fun _ _ _ _ _ _ us hl => match us, hl with | [_, _], _ => rfl
  have F16 := fun_mk (st := s__law_block) l16 c16 k16
  have b16 := F16.binds (ps := ["_law_cell", "_law_k"]) fun _ _ _ _ _ _ us hl => match us, hl with | [_, _], _ => rfl
  have F17 := fun_mk (st := s__law_changes) l17 c17 k17
  have b17 := F17.binds (ps := ["_law_cell", "_law_wide"]) fun _ _ _ _ _ _ us hl => match us, hl with | [_, _], _ => rfl
  have F18 := fun_mk (st := s__law_next) l18 c18 k18
  have b18 := F18.binds (ps := ["_law_table", "_law_changes_here"]) fun _ _ _ _ _ _ us hl => match us, hl with | [_, _], _ => rfl
  have F10 := fun_mk (st := s_look_through) l10 c10 k10
  have b10 := F10.binds (ps := ["changes", "wide"]) fun _ _ _ _ _ _ us hl => match us, hl with | [_, _], _ => rfl
  have F1551 := fun_mk (st := s_Days_passes) l1551 c1551 k1551
  have b1551 := F1551.binds (ps := ["self", "changes"]) fun _ _ _ _ _ _ us hl => match us, hl with | [_, _], _ => rfl
  have F14 := fun_mk (st := s__law_whole) l14 c14 k14
  have b14 := F14.binds (ps := ["_law_found"]) fun _ _ _ _ _ _ us hl => match us, hl with | [_], _ => rfl
  have F1552 := fun_mk (st := s_Days_need) l1552 c1552 k1552
  have b1552 := F1552.binds (ps := ["self", "day"]) fun _ _ _ _ _ _ us hl => match us, hl with | [_, _], _ => rfl
  have F1553 := fun_mk (st := s_Days_table) l1553 c1553 k1553
  have b1553 := F1553.binds (ps := ["self", "day"]) fun _ _ _ _ _ _ us hl => match us, hl with | [_, _], _ => rfl
  have F19 := fun_mk (st := s__law_alike) l19 c19 k19
  have b19 := F19.binds (ps := ["_law_found", "_law_due"]) fun _ _ _ _ _ _ us hl => match us, hl with | [_, _], _ => rfl
  have F20 := fun_mk (st := s_law) l20 c20 k20
  have b20 := F20.binds (ps := ["_law_script"]) fun _ _ _ _ _ _ us hl => match us, hl with | [_], _ => rfl
  let fa : Nat → Addr := fun i => match i with | 13 => f13 | 1550 => f1550 | 15 => f15 | 16 => f16 | 17 => f17 | 18 => f18 | 10 => f10 | 1551 => f1551 | 14 => f14 | 1552 => f1552 | 1553 => f1553 | 19 => f19 | 20 => fl | _ => 0
  let fd : Nat → FuncData := fun i => match i with | 13 => PySem.W.fnOf "_law_cell_at" "_law_cell_at" (defArgs s__law_cell_at) (defBody s__law_cell_at) (defScope s__law_cell_at) .none kV13 dc13 pm13 an13 cd13 ct13 | 1550 => PySem.W.fnOf "__init__" "Days.__init__" (defArgs s_Days_init) (defBody s_Days_init) (defScope s_Days_init) .none kV1550 dc1550 pm1550 an1550 cd1550 ct1550 | 15 => PySem.W.fnOf "_law_mix" "_law_mix" (defArgs s__law_mix) (defBody s__law_mix) (defScope s__law_mix) .none kV15 dc15 pm15 an15 cd15 ct15 | 16 => PySem.W.fnOf "_law_block" "_law_block" (defArgs s__law_block) (defBody s__law_block) (defScope s__law_block) .none kV16 dc16 pm16 an16 cd16 ct16 | 17 => PySem.W.fnOf "_law_changes" "_law_changes" (defArgs s__law_changes) (defBody s__law_changes) (defScope s__law_changes) .none kV17 dc17 pm17 an17 cd17 ct17 | 18 => PySem.W.fnOf "_law_next" "_law_next" (defArgs s__law_next) (defBody s__law_next) (defScope s__law_next) .none kV18 dc18 pm18 an18 cd18 ct18 | 10 => PySem.W.fnOf "look_through" "look_through" (defArgs s_look_through) (defBody s_look_through) (defScope s_look_through) .none kV10 dc10 pm10 an10 cd10 ct10 | 1551 => PySem.W.fnOf "passes" "Days.passes" (defArgs s_Days_passes) (defBody s_Days_passes) (defScope s_Days_passes) .none kV1551 dc1551 pm1551 an1551 cd1551 ct1551 | 14 => PySem.W.fnOf "_law_whole" "_law_whole" (defArgs s__law_whole) (defBody s__law_whole) (defScope s__law_whole) .none kV14 dc14 pm14 an14 cd14 ct14 | 1552 => PySem.W.fnOf "need" "Days.need" (defArgs s_Days_need) (defBody s_Days_need) (defScope s_Days_need) .none kV1552 dc1552 pm1552 an1552 cd1552 ct1552 | 1553 => PySem.W.fnOf "table" "Days.table" (defArgs s_Days_table) (defBody s_Days_table) (defScope s_Days_table) .none kV1553 dc1553 pm1553 an1553 cd1553 ct1553 | 19 => PySem.W.fnOf "_law_alike" "_law_alike" (defArgs s__law_alike) (defBody s__law_alike) (defScope s__law_alike) .none kV19 dc19 pm19 an19 cd19 ct19 | 20 => PySem.W.fnOf "law" "law" (defArgs s_law) (defBody s_law) (defScope s_law) .none kV20 dc20 pm20 an20 cd20 ct20 | _ => PySem.W.fnOf "law" "law" (defArgs s_law) (defBody s_law) (defScope s_law) .none kV20 dc20 pm20 an20 cd20 ct20
  have Z : Txt K mg fa fd := { F__law_cell_at := F13, b__law_cell_at := b13, g__law_cell_at := PySem.W.mg_of X G a13, F_Days_init := F1550, b_Days_init := b1550, F__law_mix := F15, b__law_mix := b15, g__law_mix := PySem.W.mg_of X G a15, F__law_block := F16, b__law_block := b16, g__law_block := PySem.W.mg_of X G a16, F__law_changes := F17, b__law_changes := b17, g__law_changes := PySem.W.mg_of X G a17, F__law_next := F18, b__law_next := b18, g__law_next := PySem.W.mg_of X G a18, F_look_through := F10, b_look_through := b10, g_look_through := PySem.W.mg_of X G a10, F_Days_passes := F1551, b_Days_passes := b1551, F__law_whole := F14, b__law_whole := b14, g__law_whole := PySem.W.mg_of X G a14, F_Days_need := F1552, b_Days_need := b1552, F_Days_table := F1553, b_Days_table := b1553, F__law_alike := F19, b__law_alike := b19, g__law_alike := PySem.W.mg_of X G a19, F_law := F20, b_law := b20, g_law := PySem.W.mg_of X G a20, cl_Days := ⟨pg_Days, hd_Days, po_Days, sa_Days⟩, gc_Days := gC_Days, n_Days_last := n_Days_last, n_Days_places := n_Days_places, n_Days_tables := n_Days_tables, n_Days_wide := n_Days_wide, m_Days_need := ⟨mf_Days_need, if1552, k1552⟩, m_Days_passes := ⟨mf_Days_passes, if1551, k1551⟩, m_Days_table := ⟨mf_Days_table, if1553, k1553⟩, mk_Days_Days_init := ⟨mk_Days, mf_Days_init, if1550, kc_Days⟩, z_bool := PySem.W.mg_none_of X G z_bool, z_int := PySem.W.mg_none_of X G z_int, z_isinstance := PySem.W.mg_none_of X G z_isinstance, z_len := PySem.W.mg_none_of X G z_len, z_list := PySem.W.mg_none_of X G z_list, z_min := PySem.W.mg_none_of X G z_min, z_range := PySem.W.mg_none_of X G z_range, z_zip := PySem.W.mg_none_of X G z_zip, c_MOST_BLOCK := ⟨_, PySem.W.mg_of X G c_MOST_BLOCK⟩, c_MOST_WIDE := ⟨_, PySem.W.mg_of X G c_MOST_WIDE⟩ }
  exact ⟨fd 20, fun s v => .of_eq rfl, fun w base _ _ => ok_end Z⟩
theorem fin_w {l : PySem.W.OpenLaw} {K : PySem.W.Frag} {mg : Str → Option Value} {fl : Addr} {k : Nat} (w : World) (z : ∃ fd : FuncData, (∀ (s : Shared) (v : Value), BindsTo s fd ⟨[v], []⟩ [("_law_script", v)]) ∧ ∀ (w : World) (base : Heap), K.In base → base.Ns mainGlobals mg → FnOk l.prog w K mg base CX0 k fl fd ["_law_script"] (spLaw K)) : ∃ fd : FuncData, (∀ (s : Shared) (v : Value), BindsTo s fd ⟨[v], []⟩ [("_law_script", v)]) ∧ ∀ base : Heap, K.In base → base.Ns mainGlobals mg → FnOk l.prog w K mg base CX0 k fl fd ["_law_script"] (spLaw K) := let ⟨fd, h1, h2⟩ := z; ⟨fd, h1, h2 w⟩
end Law
open PySem PySem.W PyProof.Rows
set_option maxHeartbeats 0 in
theorem PySem.Challenge.cw_keepsakes_k07_whole_row_of_days_holds : PySem.Challenge.rw_keepsakes_k07_whole_row_of_days.Holds := by
  w_on; o_law; k_head; (case hw => w_witness2)
  k_fill
  refine L2.walk_of (l := PySem.Challenge.rw_keepsakes_k07_whole_row_of_days) (n := 63) (k := 4) (x := "_law_script") (CX := fun _ => L2.CX0) (sp := fun w => Law.spLaw _) rfl (by decide) rfl ⟨rfl, by decide, by decide⟩ (fun w h Y => PySem.W.kIn_of Y) ?F (fun _ _ a ns hl _ hS => ⟨a, ns, rfl, hS, hl, fun _ => rfl⟩) (fun _ _ _ _ _ h => h)
  case F =>
    intro w mg fa h KX G hmg
    refine' Law.fin_w w (Law.all_mk (l := PySem.Challenge.rw_keepsakes_k07_whole_row_of_days) KX G hmg ?aC_Days ?pg_Days ?hd_Days ?po_Days ?sa_Days ?n_Days_last ?n_Days_places ?n_Days_tables ?n_Days_wide ?mf_Days_need ?mf_Days_passes ?mf_Days_table ?mf_Days_init ?mk_Days ?kc_Days ?a13 ?l13 ?c13 ?k13 ?l1550 ?c1550 ?k1550 ?if1550 ?a15 ?l15 ?c15 ?k15 ?a16 ?l16 ?c16 ?k16 ?a17 ?l17 ?c17 ?k17 ?a18 ?l18 ?c18 ?k18 ?a10 ?l10 ?c10 ?k10 ?l1551 ?c1551 ?k1551 ?if1551 ?a14 ?l14 ?c14 ?k14 ?l1552 ?c1552 ?k1552 ?if1552 ?l1553 ?c1553 ?k1553 ?if1553 ?a19 ?l19 ?c19 ?k19 ?a20 ?l20 ?c20 ?k20 ?z_bool ?z_int ?z_isinstance ?z_len ?z_list ?z_min ?z_range ?z_zip ?c_MOST_BLOCK ?c_MOST_WIDE)
    (case aC_Days => k_is)
    (case pg_Days => k_is)
    (case hd_Days => k_is)
    (case po_Days => k_is)
    (case sa_Days => k_is)
    (case n_Days_last => k_is)
    (case n_Days_places => k_is)
    (case n_Days_tables => k_is)
    (case n_Days_wide => k_is)
    (case mf_Days_need => k_is)
    (case mf_Days_passes => k_is)
    (case mf_Days_table => k_is)
    (case mf_Days_init => k_is)
    (case mk_Days => k_is)
    (case kc_Days => k_is)
    (case a13 => k_is)
    (case l13 => k_is)
    (case c13 => k_is)
    (case k13 => k_is)
    (case l1550 => k_is)
    (case c1550 => k_is)
    (case k1550 => k_is)
    (case if1550 => k_is)
    (case a15 => k_is)
    (case l15 => k_is)
    (case c15 => k_is)
    (case k15 => k_is)
    (case a16 => k_is)
    (case l16 => k_is)
    (case c16 => k_is)
    (case k16 => k_is)
    (case a17 => k_is)
    (case l17 => k_is)
    (case c17 => k_is)
    (case k17 => k_is)
    (case a18 => k_is)
    (case l18 => k_is)
    (case c18 => k_is)
    (case k18 => k_is)
    (case a10 => k_is)
    (case l10 => k_is)
    (case c10 => k_is)
    (case k10 => k_is)
    (case l1551 => k_is)
    (case c1551 => k_is)
    (case k1551 => k_is)
    (case if1551 => k_is)
    (case a14 => k_is)
    (case l14 => k_is)
    (case c14 => k_is)
    (case k14 => k_is)
    (case l1552 => k_is)
    (case c1552 => k_is)
    (case k1552 => k_is)
    (case if1552 => k_is)
    (case l1553 => k_is)
    (case c1553 => k_is)
    (case k1553 => k_is)
    (case if1553 => k_is)
    (case a19 => k_is)
    (case l19 => k_is)
    (case c19 => k_is)
    (case k19 => k_is)
    (case a20 => k_is)
    (case l20 => k_is)
    (case c20 => k_is)
    (case k20 => k_is)
    (case z_bool => k_is)
    (case z_int => k_is)
    (case z_isinstance => k_is)
    (case z_len => k_is)
    (case z_list => k_is)
    (case z_min => k_is)
    (case z_range => k_is)
    (case z_zip => k_is)
    (case c_MOST_BLOCK => k_is)
    (case c_MOST_WIDE => k_is)

