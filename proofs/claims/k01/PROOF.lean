import PyProof.Rows.All
import HandS.ForMost
import HandS.IsInst
import HandS.TupAny
import HandS.TupMul
import HandS.Zip
import HandS.Wide
import HandS.Deep
import HandS.Flow
import PyProof.ReprReads
import HandS.Style
import HandS.NoneIn
import HandS.Walk
import HandS.Rev
import HandS.SetFor
import HandS.Conv
import HandS.Sort
import PySem.Challenge.RW_framecourt_k01_numbers_words_fractions_b
set_option Elab.async false
set_option linter.all false
set_option maxRecDepth 100000
set_option maxHeartbeats 4000000
set_option exponentiation.threshold 2000
namespace IL
open PySem PySem.Spec PyProof.Rows L2

/-! own trees over data: a leaf is data that stays as it is, an inner node is an object that one holder alone has -/
abbrev D := PyData
inductive T where
  | leaf (d : D)
  | lst (ts : List T)
  | tup (ts : List T)
  | dct (kvs : List (Key × T))
instance : Inhabited T := ⟨.leaf .none⟩
def kD : Key → D
  | .inl i => .int i
  | .inr x => .str x
mutual
def frz : T → D
  | .leaf d => d
  | .lst ts => .list (frzs ts)
  | .tup ts => .tuple (frzs ts)
  | .dct kvs => .dict (frzk kvs)
def frzs : List T → List D
  | [] => []
  | t :: ts => frz t :: frzs ts
def frzk : List (Key × T) → List (D × D)
  | [] => []
  | (k, t) :: r => (kD k, frz t) :: frzk r
end
theorem frzs_map (ts : List T) : frzs ts = ts.map frz := by
  induction ts with
  | nil => rfl
  | cons t ts ih => simp [frzs, ih]

/-! ### a tuple that stands: marked, or of the written part -/
def PT2 (K : PySem.W.Frag) (J : Addr → Prop) (H : Hp) (a : Addr) (xs : List V) : Prop := (J a ∧ H a = some (.tup xs)) ∨ SqT K (fun _ => none) a xs
section
variable {K : PySem.W.Frag} {J J' : Addr → Prop} {H H' : Hp} {a : Addr} {xs : List V}
theorem PT2.sq (h : PT2 K J H a xs) : SqT K H a xs := by
  rcases h with ⟨_, h⟩ | h
  · exact .inl (.inl h)
  · rcases h with (h | ⟨_, h⟩) | h
    · cases h
    · cases h
    · exact .inr h
theorem PT2.mono (h : PT2 K J H a xs) (hj : ∀ b, J b → J' b) (hk : ∀ b o, J b → H b = some o → H' b = some o) : PT2 K J' H' a xs := by
  rcases h with ⟨j, h⟩ | h
  · exact .inl ⟨hj _ j, hk _ _ j h⟩
  · exact .inr h
end

mutual
/-- v is the data d, and stays so while what J marks stays -/
inductive RD (K : PySem.W.Frag) (J : Addr → Prop) (H : Hp) : V → D → Prop
  | non : RD K J H .non .none
  | bl (b : Bool) : RD K J H (.bl b) (.bool b)
  | int (i : Int) : RD K J H (.int i) (.int i)
  | str (x : Str) : RD K J H (.str x) (.str x)
  | lst {a : Addr} {xs : List V} {ds : List D} : J a → H a = some (.lst xs) → RDs K J H xs ds → RD K J H (.ref a) (.list ds)
  | tup {a : Addr} {xs : List V} {ds : List D} : PT2 K J H a xs → RDs K J H xs ds → RD K J H (.ref a) (.tuple ds)
  | dct {a : Addr} {kvs : List (Key × V)} {ds : List (D × D)} : J a → H a = some (.dK kvs) → RDk K J H kvs ds → RD K J H (.ref a) (.dict ds)
inductive RDs (K : PySem.W.Frag) (J : Addr → Prop) (H : Hp) : List V → List D → Prop
  | nil : RDs K J H [] []
  | cons {v : V} {vs : List V} {d : D} {ds : List D} : RD K J H v d → RDs K J H vs ds → RDs K J H (v :: vs) (d :: ds)
inductive RDk (K : PySem.W.Frag) (J : Addr → Prop) (H : Hp) : List (Key × V) → List (D × D) → Prop
  | nil : RDk K J H [] []
  | cons {k : Key} {v : V} {vs : List (Key × V)} {d : D} {ds : List (D × D)} : RD K J H v d → RDk K J H vs ds → RDk K J H ((k, v) :: vs) ((kD k, d) :: ds)
end
mutual
/-- v is the own tree t, its objects at fp -/
inductive RT (K : PySem.W.Frag) (J : Addr → Prop) (H : Hp) : V → T → List Addr → Prop
  | leaf {v : V} {d : D} : RD K J H v d → RT K J H v (.leaf d) []
  | lst {a : Addr} {xs : List V} {ts : List T} {fp : List Addr} : H a = some (.lst xs) → RTs K J H xs ts fp → RT K J H (.ref a) (.lst ts) (a :: fp)
  | tup {a : Addr} {xs : List V} {ts : List T} {fp : List Addr} : H a = some (.tup xs) → RTs K J H xs ts fp → RT K J H (.ref a) (.tup ts) (a :: fp)
  | dct {a : Addr} {kvs : List (Key × V)} {ts : List (Key × T)} {fp : List Addr} : H a = some (.dK kvs) → RTk K J H kvs ts fp → RT K J H (.ref a) (.dct ts) (a :: fp)
inductive RTs (K : PySem.W.Frag) (J : Addr → Prop) (H : Hp) : List V → List T → List Addr → Prop
  | nil : RTs K J H [] [] []
  | cons {v : V} {vs : List V} {t : T} {ts : List T} {f g : List Addr} : RT K J H v t f → RTs K J H vs ts g → RTs K J H (v :: vs) (t :: ts) (f ++ g)
inductive RTk (K : PySem.W.Frag) (J : Addr → Prop) (H : Hp) : List (Key × V) → List (Key × T) → List Addr → Prop
  | nil : RTk K J H [] [] []
  | cons {k : Key} {v : V} {vs : List (Key × V)} {t : T} {ts : List (Key × T)} {f g : List Addr} : RT K J H v t f → RTk K J H vs ts g → RTk K J H ((k, v) :: vs) ((k, t) :: ts) (f ++ g)
end
section
variable {K : PySem.W.Frag} {J J' : Addr → Prop} {H H' : Hp}
mutual
theorem RD.mono (hj : ∀ b, J b → J' b) (hk : ∀ b o, J b → H b = some o → H' b = some o) : ∀ {v : V} {d : D}, RD K J H v d → RD K J' H' v d
  | _, _, .non => .non
  | _, _, .bl b => .bl b
  | _, _, .int i => .int i
  | _, _, .str x => .str x
  | _, _, .lst j p r => .lst (hj _ j) (hk _ _ j p) (RDs.mono hj hk r)
  | _, _, .tup p r => .tup (p.mono hj hk) (RDs.mono hj hk r)
  | _, _, .dct j p r => .dct (hj _ j) (hk _ _ j p) (RDk.mono hj hk r)
theorem RDs.mono (hj : ∀ b, J b → J' b) (hk : ∀ b o, J b → H b = some o → H' b = some o) : ∀ {v : List V} {d : List D}, RDs K J H v d → RDs K J' H' v d
  | _, _, .nil => .nil
  | _, _, .cons r s => .cons (RD.mono hj hk r) (RDs.mono hj hk s)
theorem RDk.mono (hj : ∀ b, J b → J' b) (hk : ∀ b o, J b → H b = some o → H' b = some o) : ∀ {v : List (Key × V)} {d : List (D × D)}, RDk K J H v d → RDk K J' H' v d
  | _, _, .nil => .nil
  | _, _, .cons r s => .cons (RD.mono hj hk r) (RDk.mono hj hk s)
end
mutual
theorem RT.mono (hj : ∀ b, J b → J' b) (hk : ∀ b o, J b → H b = some o → H' b = some o) : ∀ {v : V} {t : T} {fp : List Addr}, RT K J H v t fp → (∀ b o, b ∈ fp → H b = some o → H' b = some o) → RT K J' H' v t fp
  | _, _, _, .leaf r, _ => .leaf (r.mono hj hk)
  | _, _, _, .lst p r, h => .lst (h _ _ List.mem_cons_self p) (RTs.mono hj hk r fun b o hb => h b o (List.mem_cons_of_mem _ hb))
  | _, _, _, .tup p r, h => .tup (h _ _ List.mem_cons_self p) (RTs.mono hj hk r fun b o hb => h b o (List.mem_cons_of_mem _ hb))
  | _, _, _, .dct p r, h => .dct (h _ _ List.mem_cons_self p) (RTk.mono hj hk r fun b o hb => h b o (List.mem_cons_of_mem _ hb))
theorem RTs.mono (hj : ∀ b, J b → J' b) (hk : ∀ b o, J b → H b = some o → H' b = some o) : ∀ {v : List V} {t : List T} {fp : List Addr}, RTs K J H v t fp → (∀ b o, b ∈ fp → H b = some o → H' b = some o) → RTs K J' H' v t fp
  | _, _, _, .nil, _ => .nil
  | _, _, _, .cons r s, h => .cons (RT.mono hj hk r fun b o hb => h b o (List.mem_append_left _ hb)) (RTs.mono hj hk s fun b o hb => h b o (List.mem_append_right _ hb))
theorem RTk.mono (hj : ∀ b, J b → J' b) (hk : ∀ b o, J b → H b = some o → H' b = some o) : ∀ {v : List (Key × V)} {t : List (Key × T)} {fp : List Addr}, RTk K J H v t fp → (∀ b o, b ∈ fp → H b = some o → H' b = some o) → RTk K J' H' v t fp
  | _, _, _, .nil, _ => .nil
  | _, _, _, .cons r s, h => .cons (RT.mono hj hk r fun b o hb => h b o (List.mem_append_left _ hb)) (RTk.mono hj hk s fun b o hb => h b o (List.mem_append_right _ hb))
end
mutual
theorem RT.dom : ∀ {v : V} {t : T} {fp : List Addr}, RT K J H v t fp → ∀ b ∈ fp, H b ≠ none
  | _, _, _, .leaf r, b, h => by cases h
  | _, _, _, .lst p r, b, h => by
    rcases List.mem_cons.mp h with rfl | h
    · rw [p]; exact fun z => nomatch z
    · exact RTs.dom r b h
  | _, _, _, .tup p r, b, h => by
    rcases List.mem_cons.mp h with rfl | h
    · rw [p]; exact fun z => nomatch z
    · exact RTs.dom r b h
  | _, _, _, .dct p r, b, h => by
    rcases List.mem_cons.mp h with rfl | h
    · rw [p]; exact fun z => nomatch z
    · exact RTk.dom r b h
theorem RTs.dom : ∀ {v : List V} {t : List T} {fp : List Addr}, RTs K J H v t fp → ∀ b ∈ fp, H b ≠ none
  | _, _, _, .nil, b, h => by cases h
  | _, _, _, .cons r s, b, h => by
    rcases List.mem_append.mp h with h | h
    · exact RT.dom r b h
    · exact RTs.dom s b h
theorem RTk.dom : ∀ {v : List (Key × V)} {t : List (Key × T)} {fp : List Addr}, RTk K J H v t fp → ∀ b ∈ fp, H b ≠ none
  | _, _, _, .nil, b, h => by cases h
  | _, _, _, .cons r s, b, h => by
    rcases List.mem_append.mp h with h | h
    · exact RT.dom r b h
    · exact RTk.dom s b h
end
mutual
/-- an own tree given up: data -/
theorem RT.frz : ∀ {v : V} {t : T} {fp : List Addr}, RT K J H v t fp → (∀ b, J b → J' b) → (∀ b ∈ fp, J' b) → RD K J' H v (frz t)
  | _, _, _, .leaf r, hj, _ => r.mono hj fun _ _ _ e => e
  | _, _, _, .lst p r, hj, h => .lst (h _ List.mem_cons_self) p (RTs.frz r hj fun b hb => h b (List.mem_cons_of_mem _ hb))
  | _, _, _, .tup p r, hj, h => .tup (.inl ⟨h _ List.mem_cons_self, p⟩) (RTs.frz r hj fun b hb => h b (List.mem_cons_of_mem _ hb))
  | _, _, _, .dct p r, hj, h => .dct (h _ List.mem_cons_self) p (RTk.frz r hj fun b hb => h b (List.mem_cons_of_mem _ hb))
theorem RTs.frz : ∀ {v : List V} {t : List T} {fp : List Addr}, RTs K J H v t fp → (∀ b, J b → J' b) → (∀ b ∈ fp, J' b) → RDs K J' H v (frzs t)
  | _, _, _, .nil, _, _ => .nil
  | _, _, _, .cons r s, hj, h => .cons (RT.frz r hj fun b hb => h b (List.mem_append_left _ hb)) (RTs.frz s hj fun b hb => h b (List.mem_append_right _ hb))
theorem RTk.frz : ∀ {v : List (Key × V)} {t : List (Key × T)} {fp : List Addr}, RTk K J H v t fp → (∀ b, J b → J' b) → (∀ b ∈ fp, J' b) → RDk K J' H v (frzk t)
  | _, _, _, .nil, _, _ => .nil
  | _, _, _, .cons r s, hj, h => .cons (RT.frz r hj fun b hb => h b (List.mem_append_left _ hb)) (RTk.frz s hj fun b hb => h b (List.mem_append_right _ hb))
end
mutual
/-- as the library's data -/
theorem RD.dp : ∀ {v : V} {d : D}, RD K J H v d → d.canLay0 = true → Dp K H v d
  | _, _, .non, _ => .non
  | _, _, .bl b, _ => .bl b
  | _, _, .int i, _ => .int i
  | _, _, .str x, _ => .str x
  | _, _, .lst _ p r, h => .lst (.inl (.inl p)) (RDs.dp r (by simpa [PyData.canLay0] using h))
  | _, _, .tup p r, h => .tup p.sq (RDs.dp r (by simpa [PyData.canLay0] using h))
  | _, _, .dct j p r, h => by simp [PyData.canLay0] at h
theorem RDs.dp : ∀ {v : List V} {d : List D}, RDs K J H v d → PyData.canLayAll0 d = true → DpAll K H v d
  | _, _, .nil, _ => .nil
  | _, _, .cons r s, h => by
    simp only [PyData.canLayAll0, Bool.and_eq_true] at h
    exact .cons (r.dp h.1) (RDs.dp s h.2)
end
theorem RDs.length : ∀ {v : List V} {d : List D}, RDs K J H v d → v.length = d.length
  | _, _, .nil => rfl
  | _, _, .cons _ s => by simp [RDs.length s]
theorem RDs.get : ∀ {v : List V} {d : List D} {i : Nat} {x : D}, RDs K J H v d → d[i]? = some x → ∃ y, v[i]? = some y ∧ RD K J H y x
  | _, _, _, _, .nil, e => by simp at e
  | _, _, 0, x, .cons r s, e => by
    simp at e; subst e; exact ⟨_, by simp, r⟩
  | _, _, i + 1, x, .cons r s, e => by
    obtain ⟨y, h1, h2⟩ := RDs.get (i := i) s (by simpa using e)
    exact ⟨y, by simpa using h1, h2⟩
theorem RDs.append : ∀ {v : List V} {d : List D} {v2 : List V} {d2 : List D}, RDs K J H v d → RDs K J H v2 d2 → RDs K J H (v ++ v2) (d ++ d2)
  | _, _, _, _, .nil, h => h
  | _, _, _, _, .cons r s, h => .cons r (RDs.append s h)
theorem RDs.take : ∀ {v : List V} {d : List D} (n : Nat), RDs K J H v d → RDs K J H (v.take n) (d.take n)
  | _, _, 0, _ => .nil
  | _, _, _ + 1, .nil => .nil
  | _, _, n + 1, .cons r s => .cons r (RDs.take n s)
theorem RDs.drop : ∀ {v : List V} {d : List D} (n : Nat), RDs K J H v d → RDs K J H (v.drop n) (d.drop n)
  | _, _, 0, h => h
  | _, _, _ + 1, .nil => .nil
  | _, _, n + 1, .cons r s => RDs.drop n s
theorem RDs.rev {v : List V} {d : List D} (h : RDs K J H v d) : RDs K J H v.reverse d.reverse := by
  have go : ∀ (v : List V) (d : List D), RDs K J H v d → RDs K J H v.reverse d.reverse := by
    intro v
    induction v with
    | nil => intro d h; cases h; exact .nil
    | cons a v ih =>
      intro d h
      cases h with
      | cons r s => simp only [List.reverse_cons]; exact (ih _ s).append (.cons r .nil)
  exact go v d h
theorem RTs.length : ∀ {v : List V} {d : List T} {fp : List Addr}, RTs K J H v d fp → v.length = d.length
  | _, _, _, .nil => rfl
  | _, _, _, .cons _ s => by simp [RTs.length s]
theorem RTs.append : ∀ {v : List V} {d : List T} {f : List Addr} {v2 : List V} {d2 : List T} {f2 : List Addr}, RTs K J H v d f → RTs K J H v2 d2 f2 → RTs K J H (v ++ v2) (d ++ d2) (f ++ f2)
  | _, _, _, _, _, _, .nil, h => h
  | _, _, _, _, _, _, .cons r s, h => by
    simp only [List.cons_append, List.append_assoc]
    exact .cons r (RTs.append s h)
theorem RTs.get : ∀ {v : List V} {d : List T} {f : List Addr} {i : Nat} {x : T}, RTs K J H v d f → d[i]? = some x → ∃ y g, v[i]? = some y ∧ RT K J H y x g ∧ ∀ b ∈ g, b ∈ f
  | _, _, _, _, _, .nil, e => by simp at e
  | _, _, _, 0, x, .cons (f := f) r s, e => by
    simp at e; subst e; exact ⟨_, f, by simp, r, fun b hb => List.mem_append_left _ hb⟩
  | _, _, _, i + 1, x, .cons r s, e => by
    obtain ⟨y, g, h1, h2, h3⟩ := RTs.get (i := i) s (by simpa using e)
    exact ⟨y, g, by simpa using h1, h2, fun b hb => List.mem_append_right _ (h3 b hb)⟩
theorem RTs.leaves : ∀ {v : List V} {d : List D}, RDs K J H v d → RTs K J H v (d.map T.leaf) []
  | _, _, .nil => .nil
  | _, _, .cons r s => by
    have h := RTs.cons (.leaf r) (RTs.leaves s)
    simpa using h
end

/-! ### the slots -/
abbrev En := List (Option T)
inductive RE (K : PySem.W.Frag) (J : Addr → Prop) (H : Hp) : L2.St → En → List Addr → Prop
  | nil : RE K J H [] [] []
  | out {x : Option V} {σ : L2.St} {e : En} {f : List Addr} : RE K J H σ e f → RE K J H (x :: σ) (none :: e) f
  | held {v : V} {t : T} {σ : L2.St} {e : En} {f g : List Addr} : RT K J H v t f → RE K J H σ e g → RE K J H (some v :: σ) (some t :: e) (f ++ g)
/-- from J, H with F ours to J', H' with F' ours -/
structure Tr (J : Addr → Prop) (H : Hp) (F : List Addr) (J' : Addr → Prop) (H' : Hp) (F' : List Addr) : Prop where
  keep : ∀ b o, H b = some o → b ∉ F → H' b = some o
  dom : ∀ b, H b ≠ none → H' b ≠ none
  jj : ∀ b, J b → J' b
  fnew : ∀ b ∈ F', b ∈ F ∨ H b = none
  jnew : ∀ b, J' b → J b ∨ b ∈ F ∨ H b = none
/-- an own tree beside F -/
structure Own (K : PySem.W.Frag) (J : Addr → Prop) (H : Hp) (F : List Addr) (v : V) (t : T) (fp : List Addr) : Prop where
  rt : RT K J H v t fp
  nd : (F ++ fp).Nodup
  jf : ∀ a ∈ fp, ¬ J a
structure Owns (K : PySem.W.Frag) (J : Addr → Prop) (H : Hp) (F : List Addr) (vs : List V) (ts : List T) (fp : List Addr) : Prop where
  rt : RTs K J H vs ts fp
  nd : (F ++ fp).Nodup
  jf : ∀ a ∈ fp, ¬ J a
/-- a body's state -/
structure SR (K : PySem.W.Frag) (pn : List (Nat × V)) (σ : L2.St) (H : Hp) (e : En) (J : Addr → Prop) (F : List Addr) : Prop where
  re : RE K J H σ e F
  nd : F.Nodup
  jf : ∀ a ∈ F, ¬ J a
  jd : ∀ a, J a → H a ≠ none
  pin : ∀ p ∈ pn, σ[p.1]? = some (some p.2)
section
variable {K : PySem.W.Frag} {J J' J1 J2 : Addr → Prop} {H H' H1 H2 : Hp} {F F' F1 F2 G : List Addr}
theorem Tr.refl : Tr J H F J H F := ⟨fun _ _ e _ => e, fun _ e => e, fun _ e => e, fun _ e => .inl e, fun _ e => .inl e⟩
theorem Tr.sub (h : ∀ b ∈ F', b ∈ F) : Tr J H F J H F' := ⟨fun _ _ e _ => e, fun _ e => e, fun _ e => e, fun b e => .inl (h b e), fun _ e => .inl e⟩
theorem Tr.trans (a : Tr J H F J1 H1 F1) (b : Tr J1 H1 F1 J2 H2 F2) : Tr J H F J2 H2 F2 where
  keep := fun c o e n => b.keep c o (a.keep c o e n) fun z => by
    rcases a.fnew c z with z | z
    · exact n z
    · rw [e] at z; cases z
  dom := fun c e => b.dom c (a.dom c e)
  jj := fun c e => b.jj c (a.jj c e)
  fnew := fun c z => by
    rcases b.fnew c z with z | z
    · exact a.fnew c z
    · right
      by_cases q : H c = none
      · exact q
      · exact absurd z (a.dom c q)
  jnew := fun c z => by
    rcases b.jnew c z with z | z | z
    · exact a.jnew c z
    · rcases a.fnew c z with z | z
      · exact .inr (.inl z)
      · exact .inr (.inr z)
    · by_cases q : H c = none
      · exact .inr (.inr q)
      · exact absurd z (a.dom c q)
theorem Tr.wide (a : Tr J H F J1 H1 F1) (b : ∀ c ∈ F, c ∈ G) (d : ∀ c ∈ F2, c ∈ F1) : Tr J H G J1 H1 F2 :=
  ⟨fun c o e n => a.keep c o e fun z => n (b c z), a.dom, a.jj, fun c z => (a.fnew c (d c z)).imp (b c) id, fun c z => (a.jnew c z).imp id (Or.imp (b c) id)⟩
/-- with G held aside -/
theorem Tr.aside (b : Tr J H F J' H' F') : Tr J H (F ++ G) J' H' (F' ++ G) :=
  ⟨fun c o e n => b.keep c o e fun z => n (List.mem_append_left _ z), b.dom, b.jj, fun c z => by
    rcases List.mem_append.mp z with z | z
    · exact (b.fnew c z).imp (List.mem_append_left _) id
    · exact .inl (List.mem_append_right _ z), fun c z => (b.jnew c z).imp id (Or.imp (List.mem_append_left _) id)⟩
theorem RD.step {v : V} {d : D} (r : RD K J H v d) (tr : Tr J H F J' H' F') (jf : ∀ a ∈ F, ¬ J a) : RD K J' H' v d :=
  r.mono tr.jj fun b o j e => tr.keep b o e fun z => jf b z j
theorem RDs.step {v : List V} {d : List D} (r : RDs K J H v d) (tr : Tr J H F J' H' F') (jf : ∀ a ∈ F, ¬ J a) : RDs K J' H' v d :=
  r.mono tr.jj fun b o j e => tr.keep b o e fun z => jf b z j
theorem aside_nd {fp : List Addr} (nd : (F ++ fp).Nodup) (tr : Tr J H F J' H' F') (hd : ∀ b ∈ fp, H b ≠ none) (nd' : F'.Nodup) : (F' ++ fp).Nodup := by
  rw [List.nodup_append] at nd ⊢
  refine ⟨nd', nd.2.1, fun a ha b hb e => ?_⟩
  subst e
  rcases tr.fnew a ha with z | z
  · exact nd.2.2 a z a hb rfl
  · exact hd a hb z
theorem not_both {fp : List Addr} {a : Addr} (nd : (F ++ fp).Nodup) (h1 : a ∈ fp) : a ∉ F := fun h => (List.nodup_append.mp nd).2.2 a h a h1 rfl
theorem Owns.step {vs : List V} {ts : List T} {fp : List Addr} (o : Owns K J H F vs ts fp) (tr : Tr J H F J' H' F') (jf : ∀ a ∈ F, ¬ J a) (nd' : F'.Nodup) : Owns K J' H' F' vs ts fp where
  rt := o.rt.mono tr.jj (fun b u j e => tr.keep b u e fun z => jf b z j) fun b u hb e => tr.keep b u e (not_both o.nd hb)
  nd := aside_nd o.nd tr (RTs.dom o.rt) nd'
  jf := fun a ha z => by
    rcases tr.jnew a z with z | z | z
    · exact o.jf a ha z
    · exact not_both o.nd ha z
    · exact RTs.dom o.rt a ha z
theorem Own.step {v : V} {t : T} {fp : List Addr} (o : Own K J H F v t fp) (tr : Tr J H F J' H' F') (jf : ∀ a ∈ F, ¬ J a) (nd' : F'.Nodup) : Own K J' H' F' v t fp where
  rt := o.rt.mono tr.jj (fun b u j e => tr.keep b u e fun z => jf b z j) fun b u hb e => tr.keep b u e (not_both o.nd hb)
  nd := aside_nd o.nd tr (RT.dom o.rt) nd'
  jf := fun a ha z => by
    rcases tr.jnew a z with z | z | z
    · exact o.jf a ha z
    · exact not_both o.nd ha z
    · exact RT.dom o.rt a ha z
theorem RE.length {σ : L2.St} {e : En} (r : RE K J H σ e F) : σ.length = e.length := by
  induction r with
  | nil => rfl
  | out _ ih => simp [ih]
  | held _ _ ih => simp [ih]
theorem RE.dom {σ : L2.St} {e : En} (r : RE K J H σ e F) : ∀ b ∈ F, H b ≠ none := by
  induction r with
  | nil => intro b hb; cases hb
  | out _ ih => exact ih
  | held r _ ih =>
    intro b hb
    rcases List.mem_append.mp hb with h | h
    · exact RT.dom r b h
    · exact ih b h
theorem RE.mono {σ : L2.St} {e : En} (r : RE K J H σ e F) (hj : ∀ b, J b → J' b) (hk : ∀ b o, J b → H b = some o → H' b = some o) (hf : ∀ b o, b ∈ F → H b = some o → H' b = some o) : RE K J' H' σ e F := by
  induction r with
  | nil => exact .nil
  | out _ ih => exact .out (ih hf)
  | held r _ ih => exact .held (r.mono hj hk fun b o hb => hf b o (List.mem_append_left _ hb)) (ih fun b o hb => hf b o (List.mem_append_right _ hb))
theorem RE.take {σ : L2.St} {e : En} (r : RE K J H σ e F) : ∀ {i : Nat} {t : T}, e[i]? = some (some t) → ∃ v fp F', σ[i]? = some (some v) ∧ RT K J H v t fp ∧ F.Perm (F' ++ fp) ∧ RE K J H σ (e.set i none) F' := by
  induction r with
  | nil => intro i t h; simp at h
  | out r ih =>
    intro i t h
    cases i with
    | zero => simp at h
    | succ i =>
      obtain ⟨v, fp, F', h1, h2, h3, h4⟩ := ih (i := i) (by simpa using h)
      exact ⟨v, fp, F', by simpa using h1, h2, h3, .out h4⟩
  | held q r ih =>
    rename_i v0 t0 σ0 e0 f g
    intro i t h
    cases i with
    | zero =>
      simp at h; subst h
      exact ⟨v0, f, g, rfl, q, List.perm_append_comm, .out r⟩
    | succ i =>
      obtain ⟨v, fp, F', h1, h2, h3, h4⟩ := ih (i := i) (by simpa using h)
      refine ⟨v, fp, f ++ F', by simpa using h1, h2, ?_, .held q h4⟩
      rw [List.append_assoc]
      exact List.Perm.append_left f h3
theorem RE.put {σ : L2.St} {e : En} (r : RE K J H σ e F) : ∀ {i : Nat} {t : T} {v : V} {fp : List Addr}, e[i]? = some none → σ[i]? = some (some v) → RT K J H v t fp → ∃ F', F'.Perm (F ++ fp) ∧ RE K J H σ (e.set i (some t)) F' := by
  induction r with
  | nil => intro i t v fp h; simp at h
  | out r ih =>
    intro i t v fp h h2 q
    cases i with
    | zero =>
      simp at h2; subst h2
      exact ⟨_, List.perm_append_comm, .held q r⟩
    | succ i =>
      obtain ⟨F', h1, h3⟩ := ih (i := i) (by simpa using h) (by simpa using h2) q
      exact ⟨F', h1, .out h3⟩
  | held q0 r ih =>
    rename_i v0 t0 σ0 e0 f g
    intro i t v fp h h2 q
    cases i with
    | zero => simp at h
    | succ i =>
      obtain ⟨F', h1, h3⟩ := ih (i := i) (by simpa using h) (by simpa using h2) q
      refine ⟨f ++ F', ?_, .held q0 h3⟩
      rw [List.append_assoc]
      exact List.Perm.append_left f h1
/-- a slot given up, its value forgotten -/
theorem RE.clear {σ : L2.St} {e : En} (r : RE K J H σ e F) : ∀ (i : Nat) (x : Option V), ∃ F' g, F.Perm (F' ++ g) ∧ RE K J H (σ.set i x) (e.set i none) F' := by
  induction r with
  | nil => intro i x; exact ⟨[], [], List.Perm.refl _, .nil⟩
  | out r ih =>
    intro i x
    cases i with
    | zero => exact ⟨_, [], by simp, .out r⟩
    | succ i =>
      obtain ⟨F', g, h1, h2⟩ := ih i x
      exact ⟨F', g, h1, .out h2⟩
  | held q0 r ih =>
    rename_i v0 t0 σ0 e0 f g0
    intro i x
    cases i with
    | zero => exact ⟨g0, f, List.perm_append_comm, .out r⟩
    | succ i =>
      obtain ⟨F', g, h1, h2⟩ := ih i x
      refine ⟨f ++ F', g, ?_, .held q0 h2⟩
      rw [List.append_assoc]
      exact List.Perm.append_left f h1
variable {pn : List (Nat × V)} {σ : L2.St} {e : En}
theorem nd_left {A B : List Addr} (h : (A ++ B).Nodup) : A.Nodup := (List.nodup_append.mp h).1
theorem SR.take (s : SR K pn σ H e J F) {i : Nat} {t : T} (h : e[i]? = some (some t)) :
    ∃ v fp F', σ[i]? = some (some v) ∧ Own K J H F' v t fp ∧ SR K pn σ H (e.set i none) J F' ∧ F.Perm (F' ++ fp) := by
  obtain ⟨v, fp, F', h1, h2, h3, h4⟩ := s.re.take h
  have nd := h3.nodup_iff.mp s.nd
  exact ⟨v, fp, F', h1, ⟨h2, nd, fun a ha => s.jf a (h3.mem_iff.mpr (List.mem_append_right _ ha))⟩, ⟨h4, nd_left nd, fun a ha => s.jf a (h3.mem_iff.mpr (List.mem_append_left _ ha)), s.jd, s.pin⟩, h3⟩
theorem SR.put (s : SR K pn σ H e J F) {i : Nat} {t : T} {v : V} {fp : List Addr} (h : e[i]? = some none) (hv : σ[i]? = some (some v)) (o : Own K J H F v t fp) :
    ∃ F', SR K pn σ H (e.set i (some t)) J F' ∧ F'.Perm (F ++ fp) := by
  obtain ⟨F', h1, h2⟩ := s.re.put h hv o.rt
  refine ⟨F', ⟨h2, h1.nodup_iff.mpr o.nd, fun a ha => ?_, s.jd, s.pin⟩, h1⟩
  rcases List.mem_append.mp (h1.mem_iff.mp ha) with z | z
  · exact s.jf a z
  · exact o.jf a z
theorem SR.clear (s : SR K pn σ H e J F) (i : Nat) (x : Option V) (hp : ∀ p ∈ pn, p.1 ≠ i) :
    ∃ F', SR K pn (σ.set i x) H (e.set i none) J F' ∧ ∀ b ∈ F', b ∈ F := by
  obtain ⟨F', g, h1, h2⟩ := s.re.clear i x
  refine ⟨F', ⟨h2, nd_left (h1.nodup_iff.mp s.nd), fun a ha => s.jf a (h1.mem_iff.mpr (List.mem_append_left _ ha)), s.jd, fun p hp' => ?_⟩, fun b hb => h1.mem_iff.mpr (List.mem_append_left _ hb)⟩
  rw [List.getElem?_set_ne (fun z => hp p hp' z.symm)]
  exact s.pin p hp'
/-- a slot stored -/
theorem SR.set (s : SR K pn σ H e J F) {i : Nat} {t : T} {v : V} {fp : List Addr} (hi : i < e.length) (hp : ∀ p ∈ pn, p.1 ≠ i) (o : Own K J H F v t fp) :
    ∃ F', SR K pn (σ.set i (some v)) H (e.set i (some t)) J F' ∧ ∀ b ∈ F', b ∈ F ++ fp := by
  obtain ⟨F1, s1, h1⟩ := s.clear i (some v) hp
  have hs : σ.length = e.length := s.re.length
  have o1 : Own K J H F1 v t fp := ⟨o.rt, by
    have nd := o.nd
    rw [List.nodup_append] at nd ⊢
    exact ⟨s1.nd, nd.2.1, fun a ha b hb => nd.2.2 a (h1 a ha) b hb⟩, o.jf⟩
  obtain ⟨F', s2, h2⟩ := s1.put (i := i) (t := t) (v := v) (fp := fp) (by simp [hi]) (by simp [hs, hi]) o1
  rw [List.set_set] at s2
  refine ⟨F', s2, fun b hb => ?_⟩
  rcases List.mem_append.mp (h2.mem_iff.mp hb) with z | z
  · exact List.mem_append_left _ (h1 b z)
  · exact List.mem_append_right _ z
/-- the state carried along, the slots as they are -/
theorem SR.step (s : SR K pn σ H e J F) (hj : ∀ b, J b → J' b) (hk : ∀ b o, (J b ∨ b ∈ F) → H b = some o → H' b = some o) (jd : ∀ a, J' a → H' a ≠ none) (jf : ∀ a ∈ F, ¬ J' a) : SR K pn σ H' e J' F :=
  ⟨s.re.mono hj (fun b o j => hk b o (.inl j)) (fun b o j => hk b o (.inr j)), s.nd, jf, jd, s.pin⟩
/-- an own tree beside is given up -/
theorem SR.give (s : SR K pn σ H e J F) {v : V} {t : T} {fp : List Addr} (o : Own K J H F v t fp) :
    SR K pn σ H e (fun b => J b ∨ b ∈ fp) F ∧ RD K (fun b => J b ∨ b ∈ fp) H v (IL.frz t) ∧ Tr J H (F ++ fp) (fun b => J b ∨ b ∈ fp) H F := by
  refine ⟨s.step (fun _ j => .inl j) (fun _ _ _ q => q) (fun a z => ?_) (fun a ha z => ?_), o.rt.frz (fun _ j => .inl j) fun _ h => .inr h, ⟨fun _ _ q _ => q, fun _ q => q, fun _ j => .inl j, fun b hb => .inl (List.mem_append_left _ hb), fun b z => ?_⟩⟩
  · rcases z with z | z
    · exact s.jd a z
    · exact RT.dom o.rt a z
  · rcases z with z | z
    · exact s.jf a ha z
    · exact not_both o.nd z ha
  · rcases z with z | z
    · exact .inl z
    · exact .inr (.inl (List.mem_append_right _ z))
/-- a new object, ours -/
theorem SR.laid (s : SR K pn σ H e J F) {p : Addr} {o : HO} (hp : H p = none) : SR K pn σ (upd H p o) e J F ∧ Tr J H F J (upd H p o) (F ++ [p]) ∧ p ∉ F ∧ ¬ J p := by
  have ne : ∀ b u, H b = some u → upd H p o b = some u := fun b u e => by rw [upd_ne (ne_of_none e hp)]; exact e
  have hj : ¬ J p := fun z => s.jd p z hp
  have hF : p ∉ F := fun z => s.re.dom p z hp
  have dm : ∀ b, H b ≠ none → upd H p o b ≠ none := fun b q => by
    by_cases hb : b = p
    · subst hb; rw [upd_same]; exact fun z => nomatch z
    · rw [upd_ne hb]; exact q
  refine ⟨s.step (fun _ j => j) (fun b u _ q => ne b u q) (fun a z => dm a (s.jd a z)) s.jf, ⟨fun b u q _ => ne b u q, dm, fun _ j => j, fun b hb => ?_, fun b z => .inl z⟩, hF, hj⟩
  rcases List.mem_append.mp hb with z | z
  · exact .inl z
  · simp at z; subst z; exact .inr hp
end
end IL

namespace IL
open PySem PySem.Spec PyProof.Rows L2

/-! ### runs over slots -/
structure Xn where
  cls : Str
  args : List D
inductive Res (α : Type) where
  | bad
  | ok (a : α) (e : En)
  | exc (x : Xn) (e : En)
abbrev M (α : Type) := En → Res α
def ret {α : Type} (a : α) : M α := fun e => .ok a e
def bad {α : Type} : M α := fun _ => .bad
def bnd {α β : Type} (f : M α) (g : α → M β) : M β := fun e => match f e with
  | .ok a e' => g a e'
  | .bad => .bad
  | .exc x e' => .exc x e'
def opt {α : Type} (o : Option α) : M α := match o with
  | some a => ret a
  | none => bad
theorem bnd_ok {α β : Type} {f : M α} {g : α → M β} {e e2 : En} {b : β} (h : bnd f g e = .ok b e2) : ∃ a e1, f e = .ok a e1 ∧ g a e1 = .ok b e2 := by
  unfold bnd at h
  split at h
  · exact ⟨_, _, by assumption, h⟩
  · cases h
  · cases h
theorem opt_ok {α : Type} {o : Option α} {e e2 : En} {b : α} (h : opt o e = .ok b e2) : o = some b ∧ e2 = e := by
  unfold opt at h
  split at h
  · cases h; exact ⟨rfl, rfl⟩
  · cases h

/-- what comes of values alone: new objects, the rest as it was -/
structure New (K : PySem.W.Frag) (J : Addr → Prop) (H : Hp) (J' : Addr → Prop) (H' : Hp) (v : V) (t : T) (fp : List Addr) : Prop where
  rt : RT K J' H' v t fp
  nd : fp.Nodup
  fr : ∀ a ∈ fp, H a = none ∧ ¬ J' a
  keep : ∀ b o, H b = some o → H' b = some o
  jj : ∀ b, J b → J' b
  jnew : ∀ b, J' b → J b ∨ H b = none
  jd : ∀ b, J' b → H' b ≠ none
section
variable {K : PySem.W.Frag} {J J' : Addr → Prop} {H H' : Hp} {F : List Addr} {pn : List (Nat × V)} {σ : L2.St} {e : En} {v : V} {t : T} {d : D} {fp : List Addr}
theorem New.same (r : RD K J H v d) (jd : ∀ b, J b → H b ≠ none) : New K J H J H v (.leaf d) [] :=
  ⟨.leaf r, .nil, fun _ h => (nomatch h), fun _ _ e => e, fun _ e => e, fun _ e => .inl e, jd⟩
theorem New.sr (n : New K J H J' H' v t fp) (s : SR K pn σ H e J F) : SR K pn σ H' e J' F ∧ Own K J' H' F v t fp ∧ Tr J H F J' H' (F ++ fp) := by
  have dm : ∀ b, H b ≠ none → H' b ≠ none := fun b q => by
    cases q' : H b with
    | none => exact absurd q' q
    | some o => rw [n.keep b o q']; exact fun z => nomatch z
  refine ⟨s.step n.jj (fun b o _ q => n.keep b o q) n.jd (fun a ha z => ?_), ⟨n.rt, ?_, fun a ha => (n.fr a ha).2⟩, ⟨fun b o q _ => n.keep b o q, dm, n.jj, fun b hb => ?_, fun b z => ?_⟩⟩
  · rcases n.jnew a z with z | z
    · exact s.jf a ha z
    · exact s.re.dom a ha z
  · rw [List.nodup_append]
    refine ⟨s.nd, n.nd, fun a ha b hb z => ?_⟩
    subst z
    exact s.re.dom a ha (n.fr a hb).1
  · rcases List.mem_append.mp hb with z | z
    · exact .inl z
    · exact .inr (n.fr b z).1
  · rcases n.jnew b z with z | z
    · exact .inl z
    · exact .inr (.inr z)
/-- a new list of our own, of data -/
theorem New.list {xs : List V} {ds : List D} {p : Addr} (r : RDs K J H xs ds) (jd : ∀ b, J b → H b ≠ none) (hp : H p = none) : New K J H J (upd H p (.lst xs)) (.ref p) (.lst (ds.map T.leaf)) [p] := by
  have keep : ∀ b o, H b = some o → upd H p (.lst xs) b = some o := fun b o e => by rw [upd_ne (ne_of_none e hp)]; exact e
  refine ⟨?_, by simp, fun a ha => ?_, keep, fun _ e => e, fun _ e => .inl e, fun b z => ?_⟩
  · have h := RTs.leaves (r.mono (J' := J) (H' := upd H p (.lst xs)) (fun _ e => e) fun b o _ e => keep b o e)
    exact .lst upd_same h
  · simp at ha; subst ha
    exact ⟨hp, fun z => jd _ z hp⟩
  · cases q : H b with
    | none => exact absurd q (jd b z)
    | some o => rw [keep b o q]; exact fun z => nomatch z
/-- a new tuple, of data: it stays -/
theorem New.tuple {xs : List V} {ds : List D} {p : Addr} (r : RDs K J H xs ds) (jd : ∀ b, J b → H b ≠ none) (hp : H p = none) : New K J H (fun b => J b ∨ b = p) (upd H p (.tup xs)) (.ref p) (.leaf (.tuple ds)) [] := by
  have keep : ∀ b o, H b = some o → upd H p (.tup xs) b = some o := fun b o e => by rw [upd_ne (ne_of_none e hp)]; exact e
  refine ⟨.leaf (.tup (.inl ⟨.inr rfl, upd_same⟩) (r.mono (fun _ e => .inl e) fun b o _ e => keep b o e)), .nil, fun _ h => (nomatch h), keep, fun _ e => .inl e, fun b z => ?_, fun b z => ?_⟩
  · rcases z with z | z
    · exact .inl z
    · subst z; exact .inr hp
  · rcases z with z | z
    · cases q : H b with
      | none => exact absurd q (jd b z)
      | some o => rw [keep b o q]; exact fun z => nomatch z
    · subst z; rw [upd_same]; exact fun z => nomatch z
end

/-! ### readings -/
section
variable (K : PySem.W.Frag) (pn : List (Nat × V))
def rdE (f : M T) : TE := fun σ H Q => ∃ e J F, SR K pn σ H e J F ∧ ∃ t e', f e = .ok t e' ∧ ∀ v H' J' F' fp, SR K pn σ H' e' J' F' → Own K J' H' F' v t fp → Tr J H F J' H' (F' ++ fp) → Q v H'
def rdD (f : M D) : TE := fun σ H Q => ∃ e J F, SR K pn σ H e J F ∧ ∃ t e', f e = .ok t e' ∧ ∀ v H' J' F', SR K pn σ H' e' J' F' → RD K J' H' v t → Tr J H F J' H' F' → Q v H'
def rdEs (f : M (List T)) : TA := fun σ H Q => ∃ e J F, SR K pn σ H e J F ∧ ∃ t e', f e = .ok t e' ∧ ∀ v H' J' F' fp, SR K pn σ H' e' J' F' → Owns K J' H' F' v t fp → Tr J H F J' H' (F' ++ fp) → Q v H'
def rdDs (f : M (List D)) : TA := fun σ H Q => ∃ e J F, SR K pn σ H e J F ∧ ∃ t e', f e = .ok t e' ∧ ∀ v H' J' F', SR K pn σ H' e' J' F' → RDs K J' H' v t → Tr J H F J' H' F' → Q v H'
end
theorem PE.weak {X : Cx} {e : Expr} {t t' : TE} (h : PE X e t) (w : ∀ σ H Q, t' σ H Q → t σ H Q) : PE X e t' := ⟨fun pins s σ H Q I q => h.run pins s σ H Q I (w σ H Q q)⟩
theorem PA.weak {X : Cx} {e : List Expr} {t t' : TA} (h : PA X e t) (w : ∀ σ H Q, t' σ H Q → t σ H Q) : PA X e t' := ⟨fun pos pins s σ H Q I q => h.run pos pins s σ H Q I (w σ H Q q)⟩
theorem PT.weak {X : Cx} {e : Expr} {t t' : TT} (h : PT X e t) (w : ∀ σ H Q, t' σ H Q → t σ H Q) : PT X e t' := ⟨fun pins s σ H Q I q => h.run pins s σ H Q I (w σ H Q q)⟩
theorem PS.weak {X : Cx} {e : Stmt} {t t' : TS} (h : PS X e t) (w : ∀ (D : Ends) (σ : L2.St) (H : Hp), t' D σ H → t D σ H) : PS X e t' := ⟨fun pins s σ H D I q => h.run pins s σ H D I (w D σ H q)⟩
theorem PSs.weak {X : Cx} {e : List Stmt} {t t' : TS} (h : PSs X e t) (w : ∀ (D : Ends) (σ : L2.St) (H : Hp), t' D σ H → t D σ H) : PSs X e t' := ⟨fun pins s σ H D I q => h.run pins s σ H D I (w D σ H q)⟩

def lf (f : M D) : M T := bnd f fun d => ret (.leaf d)
def fz (f : M T) : M D := bnd f fun t => ret (frz t)
def fzs (f : M (List T)) : M (List D) := bnd f fun t => ret (frzs t)
section
variable {X : Cx} {pn : List (Nat × V)} {a b c : Expr} {pos : Pos}
theorem pe_lf {f : M D} (h : PE X a (rdD X.K pn f)) : PE X a (rdE X.K pn (lf f)) := PE.weak h fun σ H Q ⟨e, J, F, s, t, e', h, q⟩ => by
  obtain ⟨d, e1, h1, h2⟩ := bnd_ok h
  cases h2
  exact ⟨e, J, F, s, d, e', h1, fun v H' J' F' s' r tr => q v H' J' F' [] s' ⟨.leaf r, by simpa using s'.nd, fun _ z => nomatch z⟩ (by simpa using tr)⟩
theorem pe_fz {f : M T} (h : PE X a (rdE X.K pn f)) : PE X a (rdD X.K pn (fz f)) := PE.weak h fun σ H Q ⟨e, J, F, s, t, e', h, q⟩ => by
  obtain ⟨d, e1, h1, h2⟩ := bnd_ok h
  cases h2
  refine ⟨e, J, F, s, d, e', h1, fun v H' J' F' fp s' o tr => ?_⟩
  obtain ⟨g1, g2, g3⟩ := s'.give o
  exact q v H' _ F' g1 g2 (tr.trans g3)
/-- constants -/
theorem pe_const' {v : V} {d : D} (h : PE X a (tC v)) (hv : ∀ J H, RD X.K J H v d) : PE X a (rdD X.K pn (ret d)) := PE.weak h fun σ H Q ⟨e, J, F, s, t, e', h, q⟩ => by
  cases h
  exact q v H J F s (hv _ _) .refl
/-- a name's value, given up -/
def gVar (i : Nat) : M D := fun e => match e[i]? with
  | some (some t) => .ok (frz t) (e.set i (some (.leaf (frz t))))
  | _ => .bad
theorem take_freeze {K : PySem.W.Frag} {σ : L2.St} {H : Hp} {e : En} {J : Addr → Prop} {F : List Addr} {i : Nat} {t : T} (s : SR K pn σ H e J F) (h : e[i]? = some (some t)) :
    ∃ v J' F', σ[i]? = some (some v) ∧ SR K pn σ H (e.set i (some (.leaf (frz t)))) J' F' ∧ RD K J' H v (frz t) ∧ Tr J H F J' H F' := by
  obtain ⟨v, fp, F1, hv, o, s1, pm⟩ := s.take h
  obtain ⟨g1, g2, g3⟩ := s1.give o
  have hi : i < e.length := (List.getElem?_eq_some_iff.mp h).1
  obtain ⟨F2, s2, h2⟩ := g1.put (i := i) (t := .leaf (frz t)) (v := v) (fp := []) (by simp [hi]) hv ⟨.leaf g2, by simpa using g1.nd, fun _ z => nomatch z⟩
  rw [List.set_set] at s2
  refine ⟨v, _, F2, hv, s2, g2, ?_⟩
  have t0 : Tr J H F J H (F1 ++ fp) := Tr.sub fun b hb => pm.mem_iff.mpr hb
  have t1 := t0.trans g3
  exact t1.trans (Tr.sub fun b hb => by simpa using h2.mem_iff.mp hb)
theorem pe_var' {i : Nat} (h : PE X a (tVar i)) : PE X a (rdD X.K pn (gVar i)) := PE.weak h fun σ H Q ⟨e, J, F, s, t, e', h, q⟩ => by
  unfold gVar at h
  split at h
  · rename_i t0 h0
    cases h
    obtain ⟨v, J', F', hv, s', r, tr⟩ := take_freeze s h0
    exact ⟨v, hv, q v H J' F' s' r tr⟩
  · cases h

/-! ### operators by values -/
def OpS (X : Cx) (f : Value → Value → Sem Value) (g : D → D → Option T) : Prop :=
  ∃ r, OpR X f r ∧ ∀ x y t, g x y = some t → ∀ (J : Addr → Prop) (H : Hp) (v u : V), (∀ b, J b → H b ≠ none) → RD X.K J H v x → RD X.K J H u y → ∀ Q : VK, (∀ w H' J' fp, New X.K J H J' H' w t fp → Q w H') → r v u H Q
def orr {α : Type} (a b : Option α) : Option α := match a with
  | some t => some t
  | none => b
theorem OpS.or {f : Value → Value → Sem Value} {g g' : D → D → Option T} (h : OpS X f g) (h' : OpS X f g') : OpS X f (fun x y => orr (g x y) (g' x y)) := by
  obtain ⟨r, h1, h2⟩ := h
  obtain ⟨r', h1', h2'⟩ := h'
  refine ⟨fun x y H Q => r x y H Q ∨ r' x y H Q, fun pins s σ H x y v u Q I rx ry q => ?_, fun x y t e J H v u jd rx ry Q q => ?_⟩
  · rcases q with q | q
    · exact h1 pins s σ H x y v u Q I rx ry q
    · exact h1' pins s σ H x y v u Q I rx ry q
  · cases e1 : g x y with
    | none =>
      simp only [e1, orr] at e
      exact .inr (h2' x y t e J H v u jd rx ry Q q)
    | some t' =>
      simp only [e1, orr] at e
      exact .inl (h2 x y t (by rw [e1]; exact e) J H v u jd rx ry Q q)
def gBin (g : D → D → Option T) (fa fb : M D) : M T := bnd fa fun x => bnd fb fun y => opt (g x y)
theorem tOp_rd {r : R2} {g : D → D → Option T} (hg : ∀ x y t, g x y = some t → ∀ (J : Addr → Prop) (H : Hp) (v u : V), (∀ b, J b → H b ≠ none) → RD X.K J H v x → RD X.K J H u y → ∀ Q : VK, (∀ w H' J' fp, New X.K J H J' H' w t fp → Q w H') → r v u H Q)
    {fa fb : M D} {σ : L2.St} {H : Hp} {Q : VK} (h : rdE X.K pn (gBin g fa fb) σ H Q) : tOp r (rdD X.K pn fa) (rdD X.K pn fb) σ H Q := by
  obtain ⟨e, J, F, s, t, e', h, q⟩ := h
  obtain ⟨x, e1, h1, h⟩ := bnd_ok h
  obtain ⟨y, e2, h2, h⟩ := bnd_ok h
  obtain ⟨h3, rfl⟩ := opt_ok h
  refine ⟨e, J, F, s, x, e1, h1, fun v H1 J1 F1 s1 r1 tr1 => ?_⟩
  refine ⟨e1, J1, F1, s1, y, e', h2, fun u H2 J2 F2 s2 r2 tr2 => ?_⟩
  refine hg x y t h3 J2 H2 v u s2.jd (r1.step tr2 s1.jf) r2 Q fun w H' J' fp n => ?_
  obtain ⟨s3, o3, tr3⟩ := n.sr s2
  exact q w H' J' F2 fp s3 o3 ((tr1.trans tr2).trans tr3)
theorem pe_bin' {op : Operator} {g : D → D → Option T} {fa fb : M D} (ho : OpS X (binaryOp op) g) (ha : PE X a (rdD X.K pn fa)) (hb : PE X b (rdD X.K pn fb)) : PE X (.BinOp a op b pos) (rdE X.K pn (gBin g fa fb)) := by
  obtain ⟨r, h1, h2⟩ := ho
  exact PE.weak (pe_op h1 ha hb) fun σ H Q q => tOp_rd h2 q
theorem pe_cmp' {op : CmpOp} {g : D → D → Option T} {fa fb : M D} (ho : OpS X (compareOp op) g) (ha : PE X a (rdD X.K pn fa)) (hb : PE X b (rdD X.K pn fb)) (hm : behindInMarks op b = false) : PE X (.Compare a [op] [b] pos) (rdE X.K pn (gBin g fa fb)) := by
  obtain ⟨r, h1, h2⟩ := ho
  exact PE.weak (pe_cmpR h1 ha hb hm) fun σ H Q q => tOp_rd h2 q

/-- truth of a value that is True or False -/
def asB (t : T) : Option Bool := match t with
  | .leaf (.bool b) => some b
  | _ => none
theorem asB_some {t : T} {b : Bool} (h : asB t = some b) : t = .leaf (.bool b) := by
  unfold asB at h
  split at h
  · cases h; rfl
  · cases h
theorem own_bool {K : PySem.W.Frag} {J : Addr → Prop} {H : Hp} {F : List Addr} {v : V} {b : Bool} {fp : List Addr} (o : Own K J H F v (.leaf (.bool b)) fp) : v = .bl b ∧ fp = [] := by
  have h := o.rt
  cases h with
  | leaf r => cases r; exact ⟨rfl, rfl⟩
def gAnd (f g : M T) : M T := bnd f fun t => bnd (opt (asB t)) fun b => if b then g else ret (.leaf (.bool false))
def gOr (f g : M T) : M T := bnd f fun t => bnd (opt (asB t)) fun b => if b then ret (.leaf (.bool true)) else g
def gNot (f : M T) : M T := bnd f fun t => bnd (opt (asB t)) fun b => ret (.leaf (.bool (!b)))
def gIf (f g k : M T) : M T := bnd f fun t => bnd (opt (asB t)) fun b => if b then g else k
theorem own_leaf_bl {K : PySem.W.Frag} {J : Addr → Prop} {H : Hp} {F : List Addr} {b : Bool} (nd : F.Nodup) : Own K J H F (.bl b) (.leaf (.bool b)) [] := ⟨.leaf (.bl b), by simpa using nd, fun _ z => nomatch z⟩
theorem pe_and' {f g : M T} {rest : List Expr} (ha : PE X a (rdE X.K pn f)) (hb : PE X (.BoolOp .And (b :: rest) pos) (rdE X.K pn g)) : PE X (.BoolOp .And (a :: b :: rest) pos) (rdE X.K pn (gAnd f g)) :=
  PE.weak (pe_and ha hb) fun σ H Q ⟨e, J, F, s, t, e', h, q⟩ => by
    obtain ⟨x, e1, h1, h⟩ := bnd_ok h
    obtain ⟨k, e2, h2, h4⟩ := bnd_ok h
    obtain ⟨h3, rfl⟩ := opt_ok h2
    have hx := asB_some h3
    subst hx
    refine ⟨e, J, F, s, _, _, h1, fun v H1 J1 F1 fp s1 o1 tr1 => ?_⟩
    obtain ⟨rfl, rfl⟩ := own_bool o1
    simp only [List.append_nil] at tr1
    refine ⟨k, rfl, ?_⟩
    cases k with
    | true =>
      rw [if_pos rfl] at h4 ⊢
      exact ⟨_, J1, F1, s1, t, e', h4, fun v H' J' F' fp s' o' tr' => q v H' J' F' fp s' o' (tr1.trans tr')⟩
    | false =>
      rw [if_neg Bool.false_ne_true] at h4 ⊢
      cases h4
      exact q _ H1 J1 F1 [] s1 (own_leaf_bl s1.nd) (by simpa using tr1)
theorem pe_or' {f g : M T} {rest : List Expr} (ha : PE X a (rdE X.K pn f)) (hb : PE X (.BoolOp .Or (b :: rest) pos) (rdE X.K pn g)) : PE X (.BoolOp .Or (a :: b :: rest) pos) (rdE X.K pn (gOr f g)) :=
  PE.weak (pe_or ha hb) fun σ H Q ⟨e, J, F, s, t, e', h, q⟩ => by
    obtain ⟨x, e1, h1, h⟩ := bnd_ok h
    obtain ⟨k, e2, h2, h4⟩ := bnd_ok h
    obtain ⟨h3, rfl⟩ := opt_ok h2
    have hx := asB_some h3
    subst hx
    refine ⟨e, J, F, s, _, _, h1, fun v H1 J1 F1 fp s1 o1 tr1 => ?_⟩
    obtain ⟨rfl, rfl⟩ := own_bool o1
    simp only [List.append_nil] at tr1
    refine ⟨k, rfl, ?_⟩
    cases k with
    | false =>
      rw [if_neg Bool.false_ne_true] at h4 ⊢
      exact ⟨_, J1, F1, s1, t, e', h4, fun v H' J' F' fp s' o' tr' => q v H' J' F' fp s' o' (tr1.trans tr')⟩
    | true =>
      rw [if_pos rfl] at h4 ⊢
      cases h4
      exact q _ H1 J1 F1 [] s1 (own_leaf_bl s1.nd) (by simpa using tr1)
theorem pe_not' {f : M T} (ha : PE X a (rdE X.K pn f)) : PE X (.UnaryOp .Not a pos) (rdE X.K pn (gNot f)) :=
  PE.weak (pe_not ha) fun σ H Q ⟨e, J, F, s, t, e', h, q⟩ => by
    obtain ⟨x, e1, h1, h⟩ := bnd_ok h
    obtain ⟨k, e2, h2, h4⟩ := bnd_ok h
    obtain ⟨h3, rfl⟩ := opt_ok h2
    have hx := asB_some h3
    subst hx
    cases h4
    refine ⟨e, J, F, s, _, _, h1, fun v H1 J1 F1 fp s1 o1 tr1 => ?_⟩
    obtain ⟨rfl, rfl⟩ := own_bool o1
    simp only [List.append_nil] at tr1
    exact ⟨k, rfl, q _ H1 J1 F1 [] s1 (own_leaf_bl s1.nd) (by simpa using tr1)⟩
/-- a test -/
def rdT (K : PySem.W.Frag) (pn : List (Nat × V)) (f : M Bool) : TT := fun σ H Q => ∃ e J F, SR K pn σ H e J F ∧ ∃ b e', f e = .ok b e' ∧ ∀ H' J' F', SR K pn σ H' e' J' F' → Tr J H F J' H' F' → Q b H'
def tst (f : M T) : M Bool := bnd f fun t => opt (asB t)
theorem rdT_of {f : M T} {σ : L2.St} {H : Hp} {Q : Bool → Hp → Prop} (h : rdT X.K pn (tst f) σ H Q) : rdE X.K pn f σ H (fun x H1 => ∃ k, x = .bl k ∧ Q k H1) := by
  obtain ⟨e, J, F, s, t, e', h, q⟩ := h
  obtain ⟨x, e1, h1, h⟩ := bnd_ok h
  obtain ⟨h3, rfl⟩ := opt_ok h
  have hx := asB_some h3
  subst hx
  refine ⟨e, J, F, s, _, _, h1, fun v H1 J1 F1 fp s1 o1 tr1 => ?_⟩
  obtain ⟨rfl, rfl⟩ := own_bool o1
  simp only [List.append_nil] at tr1
  exact ⟨t, rfl, q H1 J1 F1 s1 tr1⟩
def notIf : Expr → Bool
  | .IfExp .. => false
  | _ => true
/-- an expression does what f says, as a value and as a test -/
def nstar : Expr → Bool
  | .Starred .. => false
  | _ => true
structure IE (X : Cx) (pn : List (Nat × V)) (e : Expr) (f : M T) : Prop where
  pe : PE X e (rdE X.K pn f)
  pt : notIf e = true → PT X e (rdT X.K pn (tst f))
  ns : nstar e = true
theorem ie_mk {f : M T} (h : PE X a (rdE X.K pn f)) (hs : nstar a = true := by rfl) (he : ∀ whole, isTrue a X.env whole = (do let v ← whole; standAt a.pos; holding [v] (truthy v)) := by intro _; rfl) : IE X pn a f :=
  ⟨h, fun _ => PT.weak (pt_val h he) fun σ H Q q => rdT_of q, hs⟩
theorem pw_of {op : BoolOp} {vs : List Expr} {t : TT} (h : PT X (.BoolOp op vs pos) t) : PW X (.BoolOp op vs pos) t := ⟨fun _ pins s σ H Q I q => h.run pins s σ H Q I q⟩
def cond {α : Type} (f : M Bool) (g k : M α) : M α := bnd f fun b => if b then g else k
theorem pe_ite' {f : M Bool} {g k : M T} (hc : PT X c (rdT X.K pn f)) (ha : PE X a (rdE X.K pn g)) (hb : PE X b (rdE X.K pn k)) : PE X (.IfExp c a b pos) (rdE X.K pn (cond f g k)) :=
  PE.weak (pe_ifExp hc ha hb) fun σ H Q ⟨e, J, F, s, t, e', h, q⟩ => by
    obtain ⟨x, e1, h1, h⟩ := bnd_ok h
    refine ⟨e, J, F, s, _, _, h1, fun H1 J1 F1 s1 tr1 => ?_⟩
    cases x with
    | false =>
      rw [if_neg Bool.false_ne_true] at h ⊢
      exact ⟨_, J1, F1, s1, t, e', h, fun v H' J' F' fp s' o' tr' => q v H' J' F' fp s' o' (tr1.trans tr')⟩
    | true =>
      rw [if_pos rfl] at h ⊢
      exact ⟨_, J1, F1, s1, t, e', h, fun v H' J' F' fp s' o' tr' => q v H' J' F' fp s' o' (tr1.trans tr')⟩
/-- a < b < c -/
def gChain (g g' : D → D → Option T) (fa fb fc : M D) : M T := bnd fa fun x => bnd fb fun y => bnd (opt (g x y)) fun t => bnd (opt (asB t)) fun b => if b then bnd fc fun z => opt (g' y z) else ret (.leaf (.bool false))
abbrev RuleD (X : Cx) (r : R2) (g : D → D → Option T) : Prop := ∀ x y t, g x y = some t → ∀ (J : Addr → Prop) (H : Hp) (v u : V), (∀ b, J b → H b ≠ none) → RD X.K J H v x → RD X.K J H u y → ∀ Q : VK, (∀ w H' J' fp, New X.K J H J' H' w t fp → Q w H') → r v u H Q
theorem tChain_rd {r r' : R2} {g g' : D → D → Option T} (h2 : RuleD X r g) (h2' : RuleD X r' g') {fa fb fc : M D} {σ : L2.St} {H : Hp} {Q : VK} (h : rdE X.K pn (gChain g g' fa fb fc) σ H Q) :
    tChain r r' (rdD X.K pn fa) (rdD X.K pn fb) (rdD X.K pn fc) σ H Q := by
  obtain ⟨e, J, F, s, t, e', h, q⟩ := h
  obtain ⟨x, e1, k1, m1⟩ := bnd_ok h
  obtain ⟨y, e2, k2, m2⟩ := bnd_ok m1
  obtain ⟨t1, e3, k3, m3⟩ := bnd_ok m2
  obtain ⟨k3', rfl⟩ := opt_ok k3
  obtain ⟨k, e4, k4, h4⟩ := bnd_ok m3
  obtain ⟨k4', rfl⟩ := opt_ok k4
  have hx := asB_some k4'
  subst hx
  refine ⟨e, J, F, s, x, e1, k1, fun v H1 J1 F1 s1 r1 tr1 => ?_⟩
  refine ⟨e1, J1, F1, s1, y, _, k2, fun u H2 J2 F2 s2 r2 tr2 => ?_⟩
  refine h2 x y _ k3' J2 H2 v u s2.jd (r1.step tr2 s1.jf) r2 _ fun w H' J' fp n => ?_
  obtain ⟨s3, o3, tr3⟩ := n.sr s2
  obtain ⟨rfl, rfl⟩ := own_bool o3
  simp only [List.append_nil] at tr3
  refine ⟨k, rfl, ?_⟩
  have tr : Tr J H F J' H' F2 := (tr1.trans tr2).trans tr3
  cases k with
  | false =>
    rw [if_neg Bool.false_ne_true] at h4 ⊢
    cases h4
    exact q _ H' J' F2 [] s3 (own_leaf_bl s3.nd) (by simpa using tr)
  | true =>
    rw [if_pos rfl] at h4 ⊢
    obtain ⟨z, e5, k5, h5⟩ := bnd_ok h4
    obtain ⟨k6, rfl⟩ := opt_ok h5
    refine ⟨_, J', F2, s3, z, _, k5, fun u' H3 J3 F3 s4 r4 tr4 => ?_⟩
    refine h2' y z t k6 J3 H3 u u' s4.jd ((r2.step tr3 s2.jf).step tr4 s3.jf) r4 Q fun w H'' J'' fp n => ?_
    obtain ⟨s5, o5, tr5⟩ := n.sr s4
    exact q w H'' J'' F3 fp s5 o5 ((tr.trans tr4).trans tr5)
theorem pe_chain' {op op' : CmpOp} {g g' : D → D → Option T} {fa fb fc : M D} (ho : OpS X (compareOp op) g) (ho' : OpS X (compareOp op') g') (ha : PE X a (rdD X.K pn fa)) (hb : PE X b (rdD X.K pn fb)) (hc : PE X c (rdD X.K pn fc)) (hm : lastMarks [op, op'] [b, c] = false) :
    IE X pn (.Compare a [op, op'] [b, c] pos) (gChain g g' fa fb fc) := by
  obtain ⟨r, h1, h2⟩ := ho
  obtain ⟨r', h1', h2'⟩ := ho'
  exact ⟨PE.weak (pe_chain h1 h1' ha hb hc hm) fun σ H Q q => tChain_rd h2 h2' q, fun _ => PT.weak (pt_chain h1 h1' ha hb hc hm) fun σ H Q q => by
    have := rdT_of q
    exact tChain_rd h2 h2' this, rfl⟩
theorem ie_cmp {op : CmpOp} {g : D → D → Option T} {fa fb : M D} (ho : OpS X (compareOp op) g) (ha : PE X a (rdD X.K pn fa)) (hb : PE X b (rdD X.K pn fb)) (hm : behindInMarks op b = false) : IE X pn (.Compare a [op] [b] pos) (gBin g fa fb) := by
  obtain ⟨r, h1, h2⟩ := ho
  exact ⟨PE.weak (pe_cmpR h1 ha hb hm) fun σ H Q q => tOp_rd h2 q, fun _ => PT.weak (pt_cmpR h1 ha hb hm) fun σ H Q q => tOp_rd h2 (rdT_of q), rfl⟩
theorem ie_bin {op : Operator} {g : D → D → Option T} {fa fb : M D} (ho : OpS X (binaryOp op) g) (ha : PE X a (rdD X.K pn fa)) (hb : PE X b (rdD X.K pn fb)) : IE X pn (.BinOp a op b pos) (gBin g fa fb) := ie_mk (pe_bin' ho ha hb)
theorem ie_ite {f g k : M T} (hc : IE X pn c f) (hn : notIf c = true) (ha : IE X pn a g) (hb : IE X pn b k) : IE X pn (.IfExp c a b pos) (cond (tst f) g k) := ⟨pe_ite' (hc.pt hn) ha.pe hb.pe, fun z => (by cases z), rfl⟩
theorem ie_one {op : BoolOp} {f : M T} (ha : IE X pn a f) (hn : notIf a = true) : IE X pn (.BoolOp op [a] pos) f := ⟨pe_one ha.pe, fun _ => by
  cases op with
  | And => exact (pw_and1 (ha.pt hn)).pt
  | Or => exact (pw_or1 (ha.pt hn)).pt, rfl⟩
theorem ie_and {f g : M T} {rest : List Expr} (ha : IE X pn a f) (hn : notIf a = true) (hb : IE X pn (.BoolOp .And (b :: rest) pos) g) : IE X pn (.BoolOp .And (a :: b :: rest) pos) (gAnd f g) :=
  ⟨pe_and' ha.pe hb.pe, fun _ => PT.weak (pw_and (ha.pt hn) (pw_of (hb.pt rfl))).pt fun σ H Q q => by
    obtain ⟨e, J, F, s, t, e', h, q⟩ := q
    obtain ⟨x, e1, h1, h2⟩ := bnd_ok h
    obtain ⟨y, e2, h3, h4⟩ := bnd_ok h1
    obtain ⟨k, e3, h5, h6⟩ := bnd_ok h4
    refine ⟨e, J, F, s, k, e3, by unfold tst bnd; rw [h3]; exact h5, fun H1 J1 F1 s1 tr1 => ?_⟩
    cases k with
    | true =>
      rw [if_pos rfl] at h6 ⊢
      exact ⟨e3, J1, F1, s1, t, e', by unfold tst bnd; rw [h6]; exact h2, fun H' J' F' s' tr' => q H' J' F' s' (tr1.trans tr')⟩
    | false =>
      rw [if_neg Bool.false_ne_true] at h6 ⊢
      cases h6
      obtain ⟨h7, rfl⟩ := opt_ok h2
      cases h7
      exact q H1 J1 F1 s1 tr1, rfl⟩
theorem ie_or {f g : M T} {rest : List Expr} (ha : IE X pn a f) (hn : notIf a = true) (hb : IE X pn (.BoolOp .Or (b :: rest) pos) g) : IE X pn (.BoolOp .Or (a :: b :: rest) pos) (gOr f g) :=
  ⟨pe_or' ha.pe hb.pe, fun _ => PT.weak (pw_or (ha.pt hn) (pw_of (hb.pt rfl))).pt fun σ H Q q => by
    obtain ⟨e, J, F, s, t, e', h, q⟩ := q
    obtain ⟨x, e1, h1, h2⟩ := bnd_ok h
    obtain ⟨y, e2, h3, h4⟩ := bnd_ok h1
    obtain ⟨k, e3, h5, h6⟩ := bnd_ok h4
    refine ⟨e, J, F, s, k, e3, by unfold tst bnd; rw [h3]; exact h5, fun H1 J1 F1 s1 tr1 => ?_⟩
    cases k with
    | false =>
      rw [if_neg Bool.false_ne_true] at h6 ⊢
      exact ⟨e3, J1, F1, s1, t, e', by unfold tst bnd; rw [h6]; exact h2, fun H' J' F' s' tr' => q H' J' F' s' (tr1.trans tr')⟩
    | true =>
      rw [if_pos rfl] at h6 ⊢
      cases h6
      obtain ⟨h7, rfl⟩ := opt_ok h2
      cases h7
      exact q H1 J1 F1 s1 tr1, rfl⟩
theorem ie_not {f : M T} (ha : IE X pn a f) (hn : notIf a = true) : IE X pn (.UnaryOp .Not a pos) (gNot f) :=
  ⟨pe_not' ha.pe, fun _ => PT.weak (pt_not (ha.pt hn)) fun σ H Q q => by
    obtain ⟨e, J, F, s, t, e', h, q⟩ := q
    obtain ⟨x, e1, h1, h2⟩ := bnd_ok h
    obtain ⟨y, e2, h3, h4⟩ := bnd_ok h1
    obtain ⟨k, e3, h5, h6⟩ := bnd_ok h4
    cases h6
    obtain ⟨h7, rfl⟩ := opt_ok h2
    cases h7
    exact ⟨e, J, F, s, k, _, by unfold tst bnd; rw [h3]; exact h5, fun H1 J1 F1 s1 tr1 => q H1 J1 F1 s1 tr1⟩, rfl⟩
end
end IL

namespace IL
open PySem PySem.Spec PyProof.Rows L2

/-! ### argument lists, displays -/
def consM (f : M T) (g : M (List T)) : M (List T) := bnd f fun t => bnd g fun ts => ret (t :: ts)
def most : Nat := 100000
theorem most_le {n : Nat} (h : n ≤ most) : n ≤ sizeLine := Nat.le_trans h (by decide)
theorem most_lt {n : Nat} (h : n ≤ most) : n < sizeLine := Nat.lt_of_le_of_lt h (by decide)
section
variable {X : Cx} {pn : List (Nat × V)} {a b c : Expr} {pos : Pos} {es : List Expr}
theorem star_of {e : Expr} (h : nstar e = true) (es : List Expr) (env : PySem.Env) : starEach (e :: es) env = (false, eval e env) :: starEach es env := by
  cases e <;> first | rfl | cases h
theorem pa_nil' : PA X [] (rdEs X.K pn (ret [])) := PA.weak pa_nil fun σ H Q ⟨e, J, F, s, t, e', h, q⟩ => by
  cases h
  exact q [] H J F [] s ⟨.nil, by simpa using s.nd, fun _ z => nomatch z⟩ (by simpa using Tr.refl)
theorem pa_cons' {f : M T} {g : M (List T)} (ha : PE X a (rdE X.K pn f)) (hn : nstar a = true) (hb : PA X es (rdEs X.K pn g)) : PA X (a :: es) (rdEs X.K pn (consM f g)) :=
  PA.weak (pa_cons ha hb (star_of hn es X.env)) fun σ H Q ⟨e, J, F, s, t, e', h, q⟩ => by
    obtain ⟨x, e1, h1, h2⟩ := bnd_ok h
    obtain ⟨xs, e2, h3, h4⟩ := bnd_ok h2
    cases h4
    refine ⟨e, J, F, s, x, e1, h1, fun v H1 J1 F1 fp1 s1 o1 tr1 => ?_⟩
    refine ⟨e1, J1, F1, s1, xs, _, h3, fun vs H2 J2 F2 fp2 s2 o2 tr2 => ?_⟩
    have o1' := o1.step (F' := F2) ⟨tr2.keep, tr2.dom, tr2.jj, fun b hb => tr2.fnew b (List.mem_append_left _ hb), tr2.jnew⟩ s1.jf s2.nd
    have hsep : ∀ b ∈ fp1, b ∉ fp2 := fun b h1 h2 => by
      rcases tr2.fnew b (List.mem_append_right _ h2) with z | z
      · exact not_both o1.nd h1 z
      · exact RT.dom o1.rt b h1 z
    refine q (v :: vs) H2 J2 F2 (fp1 ++ fp2) s2 ⟨.cons o1'.rt o2.rt, ?_, fun b hb => ?_⟩ ?_
    · have n1 := o1'.nd
      have n2 := o2.nd
      rw [List.nodup_append] at n1 n2 ⊢
      refine ⟨n2.1, List.nodup_append.mpr ⟨n1.2.1, n2.2.1, fun x hx y hy z => hsep x hx (z ▸ hy)⟩, fun x hx y hy z => ?_⟩
      rcases List.mem_append.mp hy with hy | hy
      · exact n1.2.2 x hx y hy z
      · exact n2.2.2 x hx y hy z
    · rcases List.mem_append.mp hb with hb | hb
      · exact o1'.jf b hb
      · exact o2.jf b hb
    · refine ⟨fun b o hb hF => tr2.keep b o (tr1.keep b o hb hF) fun z => ?_, fun b z => tr2.dom b (tr1.dom b z), fun b z => tr2.jj b (tr1.jj b z), fun b z => ?_, fun b z => ?_⟩
      · rcases tr1.fnew b (List.mem_append_left _ z) with z | z
        · exact hF z
        · rw [hb] at z; cases z
      · have go : b ∈ F2 ∨ b ∈ fp2 → b ∈ F ∨ H b = none := fun z => by
          rcases tr2.fnew b (List.mem_append.mpr z) with z | z
          · exact tr1.fnew b (List.mem_append_left _ z)
          · right
            cases q' : H b with
            | none => rfl
            | some o => exact absurd z (tr1.dom b (by rw [q']; exact fun z => nomatch z))
        rcases List.mem_append.mp z with z | z
        · exact go (.inl z)
        · rcases List.mem_append.mp z with z | z
          · exact tr1.fnew b (List.mem_append_right _ z)
          · exact go (.inr z)
      · rcases tr2.jnew b z with z | z | z
        · exact tr1.jnew b z
        · exact .inr (tr1.fnew b (List.mem_append_left _ z))
        · right; right
          cases q' : H b with
          | none => rfl
          | some o => exact absurd z (tr1.dom b (by rw [q']; exact fun z => nomatch z))
/-- arguments given up -/
theorem SR.gives {K : PySem.W.Frag} {σ : L2.St} {H : Hp} {e : En} {J : Addr → Prop} {F : List Addr} (s : SR K pn σ H e J F) {vs : List V} {ts : List T} {fp : List Addr} (o : Owns K J H F vs ts fp) :
    SR K pn σ H e (fun b => J b ∨ b ∈ fp) F ∧ RDs K (fun b => J b ∨ b ∈ fp) H vs (frzs ts) ∧ Tr J H (F ++ fp) (fun b => J b ∨ b ∈ fp) H F := by
  refine ⟨s.step (fun _ j => .inl j) (fun _ _ _ q => q) (fun a z => ?_) (fun a ha z => ?_), o.rt.frz (fun _ j => .inl j) fun _ h => .inr h, ⟨fun _ _ q _ => q, fun _ q => q, fun _ j => .inl j, fun b hb => .inl (List.mem_append_left _ hb), fun b z => ?_⟩⟩
  · rcases z with z | z
    · exact s.jd a z
    · exact RTs.dom o.rt a z
  · rcases z with z | z
    · exact s.jf a ha z
    · exact not_both o.nd z ha
  · rcases z with z | z
    · exact .inl z
    · exact .inr (.inl (List.mem_append_right _ z))
theorem pa_fzs {f : M (List T)} (h : PA X es (rdEs X.K pn f)) : PA X es (rdDs X.K pn (fzs f)) := PA.weak h fun σ H Q ⟨e, J, F, s, t, e', h, q⟩ => by
  obtain ⟨d, e1, h1, h2⟩ := bnd_ok h
  cases h2
  refine ⟨e, J, F, s, d, e', h1, fun v H' J' F' fp s' o tr => ?_⟩
  obtain ⟨g1, g2, g3⟩ := s'.gives o
  exact q v H' _ F' g1 g2 (tr.trans g3)
/-- a new node over own trees -/
theorem SR.node {K : PySem.W.Frag} {σ : L2.St} {H : Hp} {e : En} {J : Addr → Prop} {F : List Addr} (s : SR K pn σ H e J F) {vs : List V} {ts : List T} {fp : List Addr} (o : Owns K J H F vs ts fp) {p : Addr} (hp : H p = none) (u : HO) :
    SR K pn σ (upd H p u) e J F ∧ RTs K J (upd H p u) vs ts fp ∧ (F ++ (p :: fp)).Nodup ∧ (∀ a ∈ p :: fp, ¬ J a) ∧ Tr J H (F ++ fp) J (upd H p u) (F ++ (p :: fp)) := by
  obtain ⟨s1, tr, nF, nJ⟩ := s.laid (o := u) hp
  have hpf : p ∉ fp := fun z => RTs.dom o.rt p z hp
  have keep : ∀ b w, H b = some w → upd H p u b = some w := fun b w e => by rw [upd_ne (ne_of_none e hp)]; exact e
  refine ⟨s1, o.rt.mono (fun _ j => j) (fun b w _ q => keep b w q) (fun b w _ q => keep b w q), ?_, fun a ha => ?_, ⟨fun b w q _ => keep b w q, tr.dom, fun _ j => j, fun b hb => ?_, fun b z => .inl z⟩⟩
  · have nd := o.nd
    rw [List.nodup_append] at nd ⊢
    refine ⟨nd.1, List.nodup_cons.mpr ⟨hpf, nd.2.1⟩, fun x hx y hy z => ?_⟩
    rcases List.mem_cons.mp hy with rfl | hy
    · exact nF (z ▸ hx)
    · exact nd.2.2 x hx y hy z
  · rcases List.mem_cons.mp ha with rfl | ha
    · exact nJ
    · exact o.jf a ha
  · rcases List.mem_append.mp hb with z | z
    · exact .inl (List.mem_append_left _ z)
    · rcases List.mem_cons.mp z with rfl | z
      · exact .inr hp
      · exact .inl (List.mem_append_right _ z)
def leaves : List T → Option (List D)
  | [] => some []
  | .leaf d :: r => match leaves r with
    | some ds => some (d :: ds)
    | none => none
  | _ :: _ => none
theorem leaves_some {K : PySem.W.Frag} {J : Addr → Prop} {H : Hp} : ∀ {ts : List T} {vs : List V} {fp : List Addr} {ds : List D}, leaves ts = some ds → RTs K J H vs ts fp → RDs K J H vs ds ∧ fp = []
  | [], _, _, _, h, .nil => by cases h; exact ⟨.nil, rfl⟩
  | t :: ts, _, _, _, h, .cons r q => by
    cases t with
    | leaf d =>
      unfold leaves at h
      split at h
      · rename_i ds' h'
        cases h
        obtain ⟨h1, rfl⟩ := leaves_some h' q
        cases r with
        | leaf r => exact ⟨.cons r h1, rfl⟩
      · cases h
    | lst _ => cases h
    | tup _ => cases h
    | dct _ => cases h
def mkTup (ts : List T) : T := match leaves ts with
  | some ds => .leaf (.tuple ds)
  | none => .tup ts
def gTup (f : M (List T)) : M T := bnd f fun ts => if ts.length ≤ most then ret (mkTup ts) else bad
def gLst (f : M (List T)) : M T := bnd f fun ts => if ts.length ≤ most then ret (.lst ts) else bad
theorem ie_tup {f : M (List T)} {k : Nat} (h : PA X es (rdEs X.K pn f)) : IE X pn (.Tuple es k pos) (gTup f) := ie_mk (PE.weak (pe_tup h) fun σ H Q ⟨e, J, F, s, t, e', h, q⟩ => by
  obtain ⟨ts, e1, h1, h2⟩ := bnd_ok h
  by_cases hm : ts.length ≤ most
  · rw [if_pos hm] at h2
    cases h2
    refine ⟨e, J, F, s, ts, _, h1, fun vs H1 J1 F1 fp s1 o1 tr1 => ⟨by rw [o1.rt.length]; exact most_le hm, fun p hp => ?_⟩⟩
    cases hl : leaves ts with
    | some ds =>
      obtain ⟨r, rfl⟩ := leaves_some hl o1.rt
      simp only [mkTup, hl] at q
      have n := New.tuple (p := p) r s1.jd hp
      obtain ⟨s2, o2, tr2⟩ := n.sr s1
      simp only [List.append_nil] at tr1
      exact q _ _ _ F1 [] s2 o2 (tr1.trans tr2)
    | none =>
      simp only [mkTup, hl] at q
      obtain ⟨s2, r2, nd2, jf2, tr2⟩ := s1.node o1 hp (.tup vs)
      exact q _ _ J1 F1 (p :: fp) s2 ⟨.tup upd_same r2, nd2, jf2⟩ (tr1.trans tr2)
  · rw [if_neg hm] at h2
    cases h2)
theorem ie_lst {f : M (List T)} (h : PA X es (rdEs X.K pn f)) : IE X pn (.List es pos) (gLst f) := ie_mk (PE.weak (pe_lst h) fun σ H Q ⟨e, J, F, s, t, e', h, q⟩ => by
  obtain ⟨ts, e1, h1, h2⟩ := bnd_ok h
  by_cases hm : ts.length ≤ most
  · rw [if_pos hm] at h2
    cases h2
    refine ⟨e, J, F, s, ts, _, h1, fun vs H1 J1 F1 fp s1 o1 tr1 => ⟨by rw [o1.rt.length]; exact most_le hm, fun p hp => ?_⟩⟩
    obtain ⟨s2, r2, nd2, jf2, tr2⟩ := s1.node o1 hp (.lst vs)
    exact q _ _ J1 F1 (p :: fp) s2 ⟨.lst upd_same r2, nd2, jf2⟩ (tr1.trans tr2)
  · rw [if_neg hm] at h2
    cases h2)

/-! ### subscripts -/
theorem plain_of {e : Expr} (h : (match e with | .Slice .. => false | _ => true) = true) : PlainIx e := by
  intro o i
  cases e <;> first | rfl | cases h
def isPlain : Expr → Bool
  | .Slice .. => false
  | _ => true
theorem plain_of' {e : Expr} (h : isPlain e = true) : PlainIx e := by
  intro o i
  cases e <;> first | rfl | cases h
def strAt (z : Str) (i : Int) : Option D := if z.length ≤ most then (atI z.cps.toList i).map fun c => .str ⟨#[c]⟩ else none
def ixD : D → D → Option D
  | .list ds, .int i => atI ds i
  | .tuple ds, .int i => atI ds i
  | .str z, .int i => strAt z i
  | _, _ => none
theorem RDs.atI {K : PySem.W.Frag} {J : Addr → Prop} {H : Hp} {vs : List V} {ds : List D} {i : Int} {d : D} (r : RDs K J H vs ds) (h : L2.atI ds i = some d) : ∃ v, L2.atI vs i = some v ∧ RD K J H v d := by
  unfold L2.atI at h ⊢
  rw [r.length]
  cases hx : ixN ds.length i with
  | none => rw [hx] at h; cases h
  | some j =>
    rw [hx] at h
    obtain ⟨v, h1, h2⟩ := r.get (i := j) h
    exact ⟨v, h1, h2⟩
theorem IxR.or {r r' : R2} (h : IxR X r) (h' : IxR X r') : IxR X (fun x y H Q => r x y H Q ∨ r' x y H Q) := by
  intro va sl pins s σ H x y v u Q I rx ry q hs
  rcases q with q | q
  · exact h va sl pins s σ H x y v u Q I rx ry q hs
  · exact h' va sl pins s σ H x y v u Q I rx ry q hs
abbrev rIxAll (K : PySem.W.Frag) : R2 := fun x y H Q => rIxL K x y H Q ∨ (rIxT K x y H Q ∨ rIxS x y H Q)
theorem ix_all : IxR X (rIxAll X.K) := IxR.or ix_list (IxR.or ix_tup ix_str)
theorem ixD_rule {K : PySem.W.Frag} {x y d : D} (h : ixD x y = some d) {J : Addr → Prop} {H : Hp} {v u : V} (rx : RD K J H v x) (ry : RD K J H u y) {Q : VK} (q : ∀ w, RD K J H w d → Q w H) : rIxAll K v u H Q := by
  unfold ixD at h
  split at h
  · cases ry
    cases rx with
    | lst j p r =>
      obtain ⟨w, h1, h2⟩ := r.atI h
      exact .inl ⟨_, _, _, w, rfl, rfl, .inl (.inl p), h1, q w h2⟩
  · cases ry
    cases rx with
    | tup p r =>
      obtain ⟨w, h1, h2⟩ := r.atI h
      exact .inr (.inl ⟨_, _, _, w, rfl, rfl, p.sq, h1, q w h2⟩)
  · cases ry
    cases rx
    rename_i z i
    unfold strAt at h
    split at h
    · rename_i hz
      cases ha : L2.atI z.cps.toList i with
      | none => rw [ha] at h; cases h
      | some c =>
        rw [ha] at h
        cases h
        exact .inr (.inr ⟨_, _, c, rfl, rfl, most_le hz, ha, q _ (.str _)⟩)
    · cases h
  · cases h
def gIx (fa fb : M D) : M D := bnd fa fun x => bnd fb fun y => opt (ixD x y)
theorem ie_ix {fa fb : M D} (ha : PE X a (rdD X.K pn fa)) (hb : PE X b (rdD X.K pn fb)) (hs : isPlain b = true) : IE X pn (.Subscript a b pos) (lf (gIx fa fb)) :=
  ie_mk (pe_lf (PE.weak (pe_ix ix_all ha hb (plain_of' hs)) fun σ H Q ⟨e, J, F, s, t, e', h, q⟩ => by
    obtain ⟨x, e1, h1, h2⟩ := bnd_ok h
    obtain ⟨y, e2, h3, h4⟩ := bnd_ok h2
    obtain ⟨h5, rfl⟩ := opt_ok h4
    refine ⟨e, J, F, s, x, e1, h1, fun v H1 J1 F1 s1 r1 tr1 => ?_⟩
    refine ⟨e1, J1, F1, s1, y, _, h3, fun u H2 J2 F2 s2 r2 tr2 => ?_⟩
    exact ixD_rule h5 (r1.step tr2 s1.jf) r2 fun w rw => q w H2 J2 F2 s2 rw (tr1.trans tr2)))
/-- an item of an own list at a name: the item is data -/
def tIx : T → D → Option D
  | .leaf x, y => ixD x y
  | .lst ts, .int i => match atI ts i with
    | some (.leaf d) => some d
    | _ => none
  | .tup ts, .int i => match atI ts i with
    | some (.leaf d) => some d
    | _ => none
  | _, _ => none
def held (i : Nat) : M Unit := fun e => match e[i]? with
  | some (some _) => .ok () e
  | _ => .bad
def peek {α : Type} (i : Nat) (g : T → Option α) : M α := fun e => match e[i]? with
  | some (some t) => opt (g t) e
  | _ => .bad
theorem held_ok {i : Nat} {e e2 : En} {u : Unit} (h : held i e = .ok u e2) : e2 = e ∧ ∃ t, e[i]? = some (some t) := by
  unfold held at h
  split at h
  · cases h; exact ⟨rfl, _, by assumption⟩
  · cases h
theorem peek_ok {α : Type} {i : Nat} {g : T → Option α} {e e2 : En} {u : α} (h : peek i g e = .ok u e2) : e2 = e ∧ ∃ t, e[i]? = some (some t) ∧ g t = some u := by
  unfold peek at h
  split at h
  · obtain ⟨h1, rfl⟩ := opt_ok h; exact ⟨rfl, _, by assumption, h1⟩
  · cases h
theorem SR.at {K : PySem.W.Frag} {σ : L2.St} {H : Hp} {e : En} {J : Addr → Prop} {F : List Addr} (s : SR K pn σ H e J F) {i : Nat} {t : T} (h : e[i]? = some (some t)) : ∃ v fp, σ[i]? = some (some v) ∧ RT K J H v t fp := by
  obtain ⟨v, fp, F', h1, o, _, _⟩ := s.take h
  exact ⟨v, fp, h1, o.rt⟩
def gVix (i : Nat) (fb : M D) : M D := bnd (held i) fun _ => bnd fb fun y => peek i fun t => tIx t y
theorem RTs.atI {K : PySem.W.Frag} {J : Addr → Prop} {H : Hp} {vs : List V} {ts : List T} {fp : List Addr} {i : Int} {t : T} (r : RTs K J H vs ts fp) (h : L2.atI ts i = some t) : ∃ v g, L2.atI vs i = some v ∧ RT K J H v t g ∧ ∀ b ∈ g, b ∈ fp := by
  unfold L2.atI at h ⊢
  rw [r.length]
  cases hx : ixN ts.length i with
  | none => rw [hx] at h; cases h
  | some j =>
    rw [hx] at h
    obtain ⟨v, g, h1, h2, h3⟩ := r.get (i := j) h
    exact ⟨v, g, h1, h2, h3⟩
theorem tIx_rule {K : PySem.W.Frag} {t : T} {y d : D} (h : tIx t y = some d) {J : Addr → Prop} {H : Hp} {v u : V} {fp : List Addr} (rx : RT K J H v t fp) (ry : RD K J H u y) {Q : VK} (q : ∀ w, RD K J H w d → Q w H) : rIxAll K v u H Q := by
  unfold tIx at h
  split at h
  · cases rx with
    | leaf r => exact ixD_rule h r ry q
  · split at h
    · rename_i d' h'
      cases h
      cases ry
      cases rx with
      | lst p r =>
        obtain ⟨w, g, h1, h2, _⟩ := r.atI h'
        cases h2 with
        | leaf h2 => exact .inl ⟨_, _, _, w, rfl, rfl, .inl (.inl p), h1, q w h2⟩
    · cases h
  · split at h
    · rename_i d' h'
      cases h
      cases ry
      cases rx with
      | tup p r =>
        obtain ⟨w, g, h1, h2, _⟩ := r.atI h'
        cases h2 with
        | leaf h2 => exact .inr (.inl ⟨_, _, _, w, rfl, rfl, .inl (.inl p), h1, q w h2⟩)
    · cases h
  · cases h
theorem ie_vix {i : Nat} {fb : M D} (ha : PE X a (tVar i)) (hb : PE X b (rdD X.K pn fb)) (hs : isPlain b = true) : IE X pn (.Subscript a b pos) (lf (gVix i fb)) :=
  ie_mk (pe_lf (PE.weak (pe_ix ix_all ha hb (plain_of' hs)) fun σ H Q ⟨e, J, F, s, t, e', h, q⟩ => by
    obtain ⟨_, e0, h1, h2⟩ := bnd_ok h
    obtain ⟨rfl, t0, h0⟩ := held_ok h1
    obtain ⟨y, e1, h3, h4⟩ := bnd_ok h2
    obtain ⟨rfl, x, hx, h5⟩ := peek_ok h4
    obtain ⟨v, fp0, hv, _⟩ := s.at h0
    refine ⟨v, hv, _, J, F, s, y, _, h3, fun u H2 J2 F2 s2 r2 tr2 => ?_⟩
    obtain ⟨v', fp, hv', rt⟩ := s2.at hx
    rw [hv] at hv'
    cases hv'
    exact tIx_rule h5 rt r2 fun w rw => q w H2 J2 F2 s2 rw tr2))

/-! ### slices -/
def cutD (xs : List D) (lo hi : Option Int) : List D := (xs.drop (HT.sIx xs.length 0 lo)).take (HT.sIx xs.length xs.length hi - HT.sIx xs.length 0 lo)
theorem RDs.cut {K : PySem.W.Frag} {J : Addr → Prop} {H : Hp} {vs : List V} {ds : List D} (r : RDs K J H vs ds) (lo hi : Option Int) : RDs K J H (cutV vs lo hi) (cutD ds lo hi) := by
  unfold cutV cutD
  rw [r.length]
  exact (r.drop _).take _
def slD (x : D) (lo hi : Option Int) : Option T := match x with
  | .list ds => some (.lst ((cutD ds lo hi).map .leaf))
  | .tuple ds => some (.leaf (.tuple (cutD ds lo hi)))
  | .str z => if z.length ≤ most then some (.leaf (.str (cutS z lo hi))) else none
  | _ => none
abbrev rSlAll (K : PySem.W.Frag) : V → Option Int → Option Int → Hp → VK → Prop := fun x lo hi H Q => rSlL K x lo hi H Q ∨ (rSlA K x lo hi H Q ∨ rSlS x lo hi H Q)
theorem sl_all : SlR X (rSlAll X.K) := SlR.or sl_list (SlR.or sl_tupA sl_str)
theorem cut_whole (ds : List D) (lo hi : Option Int) (h : HT.sIx ds.length 0 lo = 0 ∧ HT.sIx ds.length ds.length hi = ds.length) : cutD ds lo hi = ds := by
  unfold cutD
  rw [h.1, h.2]
  simp
theorem slD_rule {K : PySem.W.Frag} {x : D} {t : T} {lo hi : Option Int} (h : slD x lo hi = some t) {J : Addr → Prop} {H : Hp} {v : V} (jd : ∀ b, J b → H b ≠ none) (rx : RD K J H v x) {Q : VK} (q : ∀ w H' J' fp, New K J H J' H' w t fp → Q w H') : rSlAll K v lo hi H Q := by
  unfold slD at h
  split at h
  · cases h
    cases rx with
    | lst j p r => exact .inl ⟨_, _, rfl, .inl (.inl p), fun a ha => q _ _ _ _ (New.list (r.cut lo hi) jd ha)⟩
  · cases h
    cases rx with
    | tup p r =>
      refine .inr (.inl ⟨_, _, rfl, p.sq, fun hw => ?_, fun hw a ha => q _ _ _ _ (New.tuple (r.cut lo hi) jd ha)⟩)
      rw [r.length] at hw
      rw [cut_whole _ lo hi hw] at q
      exact q _ _ _ _ (New.same (.tup p r) jd)
  · cases rx
    split at h
    · rename_i hz
      cases h
      exact .inr (.inr ⟨_, rfl, most_le hz, q _ _ _ _ (New.same (.str _) jd)⟩)
    · cases h
  · cases h
/-- a slice's end: left out, or an int -/
def rdO (K : PySem.W.Frag) (pn : List (Nat × V)) (f : M (Option Int)) : TO := fun σ H Q => ∃ e J F, SR K pn σ H e J F ∧ ∃ t e', f e = .ok t e' ∧ ∀ H' J' F', SR K pn σ H' e' J' F' → Tr J H F J' H' F' → Q t H'
theorem PO.weak {e : Option Expr} {t t' : TO} (h : PO X e t) (w : ∀ (σ : L2.St) (H : Hp) (Q : Option Int → Hp → Prop), t' σ H Q → t σ H Q) : PO X e t' := ⟨fun pins s σ H Q I q => h.run pins s σ H Q I (w σ H Q q)⟩
def asI (d : D) : Option Int := match d with
  | .int i => some i
  | _ => none
theorem asI_some {d : D} {i : Int} (h : asI d = some i) : d = .int i := by
  unfold asI at h
  split at h
  · cases h; rfl
  · cases h
theorem RD.int_inv {K : PySem.W.Frag} {J : Addr → Prop} {H : Hp} {v : V} {i : Int} (r : RD K J H v (.int i)) : v = .int i := by cases r; rfl
def gPart (f : M D) : M (Option Int) := bnd f fun d => bnd (opt (asI d)) fun i => ret (some i)
theorem po_none' : PO X none (rdO X.K pn (ret none)) := PO.weak po_none fun σ H Q ⟨e, J, F, s, t, e', h, q⟩ => by
  cases h
  exact q H J F s .refl
theorem po_some' {f : M D} (ha : PE X a (rdD X.K pn f)) : PO X (some a) (rdO X.K pn (gPart f)) := PO.weak (po_some ha) fun σ H Q ⟨e, J, F, s, t, e', h, q⟩ => by
  obtain ⟨x, e1, h1, h2⟩ := bnd_ok h
  obtain ⟨i, e2, h3, h4⟩ := bnd_ok h2
  obtain ⟨h5, rfl⟩ := opt_ok h3
  have := asI_some h5
  subst this
  cases h4
  exact ⟨e, J, F, s, _, _, h1, fun v H1 J1 F1 s1 r1 tr1 => ⟨i, r1.int_inv, q H1 J1 F1 s1 tr1⟩⟩
def gSl (fa : M D) (lo hi : M (Option Int)) : M T := bnd fa fun x => bnd lo fun l => bnd hi fun h => opt (slD x l h)
theorem ie_sl {fa : M D} {lo hi : Option Expr} {fl fh : M (Option Int)} {p2 : Pos} (ha : PE X a (rdD X.K pn fa)) (hl : PO X lo (rdO X.K pn fl)) (hh : PO X hi (rdO X.K pn fh)) : IE X pn (.Subscript a (.Slice lo hi none p2) pos) (gSl fa fl fh) :=
  ie_mk (PE.weak (pe_slice sl_all ha hl hh) fun σ H Q ⟨e, J, F, s, t, e', h, q⟩ => by
    obtain ⟨x, e1, h1, h2⟩ := bnd_ok h
    obtain ⟨l, e2, h3, h4⟩ := bnd_ok h2
    obtain ⟨u, e3, h5, h6⟩ := bnd_ok h4
    obtain ⟨h7, rfl⟩ := opt_ok h6
    refine ⟨e, J, F, s, x, e1, h1, fun v H1 J1 F1 s1 r1 tr1 => ?_⟩
    refine ⟨e1, J1, F1, s1, l, e2, h3, fun H2 J2 F2 s2 tr2 => ?_⟩
    refine ⟨e2, J2, F2, s2, u, _, h5, fun H3 J3 F3 s3 tr3 => ?_⟩
    refine slD_rule h7 s3.jd ((r1.step tr2 s1.jf).step tr3 s2.jf) fun w H' J' fp n => ?_
    obtain ⟨s4, o4, tr4⟩ := n.sr s3
    exact q w H' J' F3 fp s4 o4 (((tr1.trans tr2).trans tr3).trans tr4))
end
end IL

namespace IL
open PySem PySem.Spec PyProof.Rows L2

/-! ### operators by values -/
def int2 (c : Int → Int → Bool) (g : Int → Int → D) : D → D → Option T
  | .int i, .int j => if c i j then some (.leaf (g i j)) else none
  | _, _ => none
section
variable {X : Cx}
theorem OpS.mk {f : Value → Value → Sem Value} {r : R2} {g : D → D → Option T} (ho : OpR X f r)
    (h : ∀ x y t, g x y = some t → ∀ (J : Addr → Prop) (H : Hp) (v u : V), (∀ b, J b → H b ≠ none) → RD X.K J H v x → RD X.K J H u y → ∀ Q : VK, (∀ w H' J' fp, New X.K J H J' H' w t fp → Q w H') → r v u H Q) : OpS X f g := ⟨r, ho, h⟩
theorem OpS.int {f : Value → Value → Sem Value} {C : Int → Int → Prop} {g : Int → Int → Int} (ho : OpR X f (rI C fun i j => .int (g i j))) {c : Int → Int → Bool} (hc : ∀ i j, c i j = true → C i j) : OpS X f (int2 c fun i j => .int (g i j)) := by
  refine .mk ho fun x y t h J H v u jd rx ry Q q => ?_
  unfold int2 at h
  split at h
  · split at h
    · rename_i i j hcc
      cases h
      cases rx; cases ry
      exact ⟨i, j, rfl, rfl, hc i j hcc, q _ _ _ _ (New.same (.int _) jd)⟩
    · cases h
  · cases h
theorem OpS.int0 {f : Value → Value → Sem Value} {g : Int → Int → Int} (ho : OpR X f (rI0 fun i j => .int (g i j))) : OpS X f (int2 (fun _ _ => true) fun i j => .int (g i j)) := by
  refine .mk ho fun x y t h J H v u jd rx ry Q q => ?_
  unfold int2 at h
  split at h
  · rename_i i j
    cases h
    cases rx; cases ry
    exact ⟨i, j, rfl, rfl, q _ _ _ _ (New.same (.int _) jd)⟩
  · cases h
theorem OpS.cmp0 {f : Value → Value → Sem Value} {g : Int → Int → Bool} (ho : OpR X f (rI0 fun i j => .bl (g i j))) : OpS X f (int2 (fun _ _ => true) fun i j => .bool (g i j)) := by
  refine .mk ho fun x y t h J H v u jd rx ry Q q => ?_
  unfold int2 at h
  split at h
  · rename_i i j
    cases h
    cases rx; cases ry
    exact ⟨i, j, rfl, rfl, q _ _ _ _ (New.same (.bl _) jd)⟩
  · cases h
def strCat : D → D → Option T
  | .str a, .str b => if a.length + b.length ≤ most then some (.leaf (.str (a ++ b))) else none
  | _, _ => none
def tupCat : D → D → Option T
  | .tuple a, .tuple b => if a.length + b.length ≤ most then some (.leaf (.tuple (a ++ b))) else none
  | _, _ => none
def lstCat : D → D → Option T
  | .list a, .list b => if a.length + b.length ≤ most then some (.lst ((a ++ b).map .leaf)) else none
  | _, _ => none
theorem os_strCat : OpS X (binaryOp .Add) strCat := by
  refine .mk op_add_str fun x y t h J H v u jd rx ry Q q => ?_
  unfold strCat at h
  split at h
  · split at h
    · rename_i hz
      cases h
      cases rx; cases ry
      exact ⟨_, _, rfl, rfl, most_le hz, q _ _ _ _ (New.same (.str _) jd)⟩
    · cases h
  · cases h
theorem os_lstCat : OpS X (binaryOp .Add) lstCat := by
  refine .mk op_cat fun x y t h J H v u jd rx ry Q q => ?_
  unfold lstCat at h
  split at h
  · split at h
    · rename_i hz
      cases h
      cases rx with
      | lst j p r => cases ry with
        | lst j' p' r' => exact ⟨_, _, _, _, rfl, rfl, p, p', by rw [r.length, r'.length]; exact most_le hz, fun a ha => q _ _ _ _ (New.list (r.append r') jd ha)⟩
    · cases h
  · cases h
theorem os_tupCat : OpS X (binaryOp .Add) tupCat := by
  refine .mk op_catA fun x y t h J H v u jd rx ry Q q => ?_
  unfold tupCat at h
  split at h
  · split at h
    · rename_i a b hz
      cases h
      cases rx with
      | tup p r => cases ry with
        | tup p' r' =>
          refine ⟨_, _, _, _, rfl, rfl, p.sq, p'.sq, by rw [r.length, r'.length]; exact most_le hz, fun e => ?_, fun e e' => ?_, fun e e' z hz => q _ _ _ _ (New.tuple (r.append r') jd hz)⟩
          · subst e
            cases r
            exact q _ _ _ _ (New.same (.tup p' r') jd)
          · subst e'
            cases r'
            rw [List.append_nil] at q
            exact q _ _ _ _ (New.same (.tup p r) jd)
    · cases h
  · cases h
def addD (x y : D) : Option T := orr (int2 (fun _ _ => true) (fun i j => .int (i + j)) x y) (orr (strCat x y) (orr (tupCat x y) (lstCat x y)))
theorem os_add : OpS X (binaryOp .Add) addD := .or (.int0 op_add) (.or os_strCat (.or os_tupCat os_lstCat))
def subD : D → D → Option T := int2 (fun _ _ => true) fun i j => .int (i - j)
theorem os_sub : OpS X (binaryOp .Sub) subD := .int0 op_sub
def mulOk (i j : Int) : Bool := decide (i.natAbs.log2 + j.natAbs.log2 < 1000000)
def tupRep : D → D → Option T
  | .tuple a, .int k => if a ≠ [] ∧ 2 ≤ k ∧ k ≤ 1000 ∧ a.length ≤ 1000 then some (.leaf (.tuple (List.replicate k.toNat a).flatten)) else none
  | _, _ => none
theorem RDs.flat {K : PySem.W.Frag} {J : Addr → Prop} {H : Hp} {vs : List V} {ds : List D} (r : RDs K J H vs ds) : ∀ n, RDs K J H (List.replicate n vs).flatten (List.replicate n ds).flatten
  | 0 => .nil
  | n + 1 => by simp only [List.replicate_succ, List.flatten_cons]; exact r.append (RDs.flat r n)
theorem os_tupRep : OpS X (binaryOp .Mult) tupRep := by
  refine .mk op_repT fun x y t h J H v u jd rx ry Q q => ?_
  unfold tupRep at h
  split at h
  · split at h
    · rename_i a k hz
      cases h
      cases ry
      cases rx with
      | tup p r =>
        refine ⟨_, _, _, rfl, rfl, p.sq, fun e => hz.1 ?_, hz.2.1, hz.2.2.1, by rw [r.length]; exact hz.2.2.2, fun z hz => q _ _ _ _ (New.tuple (r.flat _) jd hz)⟩
        subst e
        cases r
        rfl
    · cases h
  · cases h
def mulD (x y : D) : Option T := orr (int2 mulOk (fun i j => .int (i * j)) x y) (tupRep x y)
theorem os_mul : OpS X (binaryOp .Mult) mulD := .or (.int op_mulW fun i j h => of_decide_eq_true (p := i.natAbs.log2 + j.natAbs.log2 < 1000000) h) os_tupRep
def divOk (_ j : Int) : Bool := decide (j ≠ 0 ∧ j.natAbs.log2 < 9000)
theorem op_fdivX : OpR X (binaryOp .FloorDiv) (rI (fun _ j => j ≠ 0 ∧ j.natAbs.log2 < 9000) fun i j => .int (i.fdiv j)) := opI fun _ _ _ _ _ _ _ hc q => floordiv_int hc.1 q (.inl (PyProof.noPylong_of_log2 hc.2))
def fdvD : D → D → Option T := int2 divOk fun i j => .int (i.fdiv j)
theorem os_fdv : OpS X (binaryOp .FloorDiv) fdvD := .int op_fdivX fun i j h => of_decide_eq_true h
def modD : D → D → Option T := int2 (fun _ j => decide (j ≠ 0)) fun i j => .int (i.fmod j)
theorem os_mod : OpS X (binaryOp .Mod) modD := .int op_modN fun i j h => of_decide_eq_true h
def powOk (i j : Int) : Bool := decide (0 ≤ j ∧ j ≤ 1000000 ∧ i.natAbs < 2 ^ 64)
def powD : D → D → Option T := int2 powOk fun i j => .int (i ^ j.toNat)
theorem os_pow : OpS X (binaryOp .Pow) powD := .int op_pow fun i j h => of_decide_eq_true (p := 0 ≤ j ∧ j ≤ 1000000 ∧ i.natAbs < 2 ^ 64) h

/-! ### comparisons -/
def scalEq : D → D → Option Bool
  | .none, .none => some true
  | .int i, .int j => some (i == j)
  | .bool a, .bool b => some (a == b)
  | .str a, .str b => some (a == b)
  | _, _ => none
def eqB (x y : D) : Option Bool := match scalEq x y with
  | some b => some b
  | none => if SeqAt.shaped x && SeqAt.shaped y then some (PyData.eqv x y) else none
def bT : Option Bool → Option T := fun o => o.map fun b => .leaf (.bool b)
def eqD (x y : D) : Option T := bT (eqB x y)
def neD (x y : D) : Option T := bT ((eqB x y).map (!·))
theorem scal_rule {K : PySem.W.Frag} {x y : D} {b : Bool} (h : scalEq x y = some b) {J : Addr → Prop} {H : Hp} {v u : V} (rx : RD K J H v x) (ry : RD K J H u y) : scal v u = true ∧ decide (v = u) = b := by
  unfold scalEq at h
  split at h
  · cases h; cases rx; cases ry; exact ⟨rfl, by simp⟩
  · cases h; cases rx; cases ry; exact ⟨rfl, by simp [Bool.beq_eq_decide_eq]⟩
  · cases h; cases rx; cases ry; exact ⟨rfl, by simp [Bool.beq_eq_decide_eq]⟩
  · cases h; cases rx; cases ry; exact ⟨rfl, by simp [Bool.beq_eq_decide_eq]⟩
  · cases h
theorem OpR.or2 {f : Value → Value → Sem Value} {r r' : R2} (h : OpR X f r) (h' : OpR X f r') : OpR X f (fun x y H Q => r x y H Q ∨ r' x y H Q) := by
  intro pins s σ H x y v u Q I rx ry q
  rcases q with q | q
  · exact h pins s σ H x y v u Q I rx ry q
  · exact h' pins s σ H x y v u Q I rx ry q
theorem os_eq (hu : X.A.units + 64 < cLine) : OpS X (compareOp .Eq) eqD := by
  refine .mk (OpR.or2 op_eq (op_eqD hu)) fun x y t h J H v u jd rx ry Q q => ?_
  unfold eqD bT eqB at h
  cases hs : scalEq x y with
  | some b =>
    simp only [hs, Option.map_some, Option.some.injEq] at h
    subst h
    obtain ⟨h1, h2⟩ := scal_rule hs rx ry
    exact .inl ⟨h1, by rw [h2]; exact q _ _ _ _ (New.same (.bl _) jd)⟩
  | none =>
    simp only [hs] at h
    split at h
    · rename_i hz
      simp only [Option.map_some, Option.some.injEq] at h
      subst h
      simp only [Bool.and_eq_true] at hz
      exact .inr ⟨x, y, rx.dp (SeqAt.canLay_of_shaped hz.1), ry.dp (SeqAt.canLay_of_shaped hz.2), hz.1, hz.2, q _ _ _ _ (New.same (.bl _) jd)⟩
    · cases h
theorem os_ne (hu : X.A.units + 64 < cLine) : OpS X (compareOp .NotEq) neD := by
  refine .mk (OpR.or2 op_ne (op_neD hu)) fun x y t h J H v u jd rx ry Q q => ?_
  unfold neD bT eqB at h
  cases hs : scalEq x y with
  | some b =>
    simp only [hs, Option.map_some, Option.some.injEq] at h
    subst h
    obtain ⟨h1, h2⟩ := scal_rule hs rx ry
    exact .inl ⟨h1, by rw [h2]; exact q _ _ _ _ (New.same (.bl _) jd)⟩
  | none =>
    simp only [hs] at h
    split at h
    · rename_i hz
      simp only [Option.map_some, Option.some.injEq] at h
      subst h
      simp only [Bool.and_eq_true] at hz
      exact .inr ⟨x, y, rx.dp (SeqAt.canLay_of_shaped hz.1), ry.dp (SeqAt.canLay_of_shaped hz.2), hz.1, hz.2, q _ _ _ _ (New.same (.bl _) jd)⟩
    · cases h
def str2 (g : Str → Str → Bool) : D → D → Option T
  | .str a, .str b => some (.leaf (.bool (g a b)))
  | _, _ => none
theorem OpS.str2 {f : Value → Value → Sem Value} {g : Str → Str → Bool} (ho : OpR X f (fun x y H Q => ∃ i j, x = .str i ∧ y = .str j ∧ Q (.bl (g i j)) H)) : OpS X f (IL.str2 g) := by
  refine .mk ho fun x y t h J H v u jd rx ry Q q => ?_
  unfold IL.str2 at h
  split at h
  · cases h
    cases rx; cases ry
    exact ⟨_, _, rfl, rfl, q _ _ _ _ (New.same (.bl _) jd)⟩
  · cases h
def strLt (a b : Str) : Bool := decide (a.cps.toList < b.cps.toList)
def ltD (x y : D) : Option T := orr (int2 (fun _ _ => true) (fun i j => .bool (decide (i < j))) x y) (str2 (fun a b => strLt a b) x y)
def leD (x y : D) : Option T := orr (int2 (fun _ _ => true) (fun i j => .bool (decide (i ≤ j))) x y) (str2 (fun a b => !strLt b a) x y)
def gtD (x y : D) : Option T := orr (int2 (fun _ _ => true) (fun i j => .bool (decide (j < i))) x y) (str2 (fun a b => strLt b a) x y)
def geD (x y : D) : Option T := orr (int2 (fun _ _ => true) (fun i j => .bool (decide (j ≤ i))) x y) (str2 (fun a b => !strLt a b) x y)
theorem os_lt : OpS X (compareOp .Lt) ltD := .or (.cmp0 op_lt) (.str2 op_lt_str)
theorem os_le : OpS X (compareOp .LtE) leD := .or (.cmp0 op_le) (.str2 op_le_str)
theorem os_gt : OpS X (compareOp .Gt) gtD := .or (.cmp0 op_gt) (.str2 op_gt_str)
theorem os_ge : OpS X (compareOp .GtE) geD := .or (.cmp0 op_ge) (.str2 op_ge_str)
/-- a in b -/
def inB (x y : D) : Option Bool := match x, y with
  | .str a, .str z => (match a.cps.toList with
    | [c] => some (decide (c ∈ z.cps.toList))
    | _ => none)
  | d, .list ds => if SeqAt.shaped d && SeqAt.shaped (.list ds) then some (ds.any fun z => PyData.eqv z d) else none
  | _, _ => none
def inD (x y : D) : Option T := bT (inB x y)
def ninD (x y : D) : Option T := bT ((inB x y).map (!·))
theorem str_one {a : Str} {c : Nat} (h : a.cps.toList = [c]) : a = ⟨#[c]⟩ := by
  obtain ⟨cps⟩ := a
  simp only at h
  congr
  have := congrArg List.toArray h
  simpa using this
theorem os_in (hu : X.A.units + 65 < cLine) : OpS X (compareOp .In) inD := by
  refine .mk (OpR.or2 op_in_sign (op_inD hu)) fun x y t h J H v u jd rx ry Q q => ?_
  unfold inD bT inB at h
  split at h
  · split at h
    · rename_i c hc
      simp only [Option.map_some, Option.some.injEq] at h
      subst h
      cases rx; cases ry
      exact .inl ⟨c, _, by rw [str_one hc], rfl, q _ _ _ _ (New.same (.bl _) jd)⟩
    · cases h
  · split at h
    · rename_i hz
      simp only [Option.map_some, Option.some.injEq] at h
      subst h
      simp only [Bool.and_eq_true] at hz
      exact .inr ⟨_, _, rx.dp (SeqAt.canLay_of_shaped hz.1), ry.dp (SeqAt.canLay_of_shaped hz.2), hz.1, hz.2, q _ _ _ _ (New.same (.bl _) jd)⟩
    · cases h
  · cases h
theorem os_notIn (hu : X.A.units + 65 < cLine) : OpS X (compareOp .NotIn) ninD := by
  refine .mk (OpR.or2 op_notIn_sign (op_notInD hu)) fun x y t h J H v u jd rx ry Q q => ?_
  unfold ninD bT inB at h
  split at h
  · split at h
    · rename_i c hc
      simp only [Option.map_some, Option.some.injEq] at h
      subst h
      cases rx; cases ry
      exact .inl ⟨c, _, by rw [str_one hc], rfl, q _ _ _ _ (New.same (.bl _) jd)⟩
    · cases h
  · split at h
    · rename_i hz
      simp only [Option.map_some, Option.some.injEq] at h
      subst h
      simp only [Bool.and_eq_true] at hz
      exact .inr ⟨_, _, rx.dp (SeqAt.canLay_of_shaped hz.1), ry.dp (SeqAt.canLay_of_shaped hz.2), hz.1, hz.2, q _ _ _ _ (New.same (.bl _) jd)⟩
    · cases h
  · cases h
def isNone : D → Bool
  | .none => true
  | _ => false
def isD (x y : D) : Option T := match y with
  | .none => some (.leaf (.bool (isNone x)))
  | .bool b => (match x with
    | .bool a => some (.leaf (.bool (decide (a = b))))
    | _ => none)
  | _ => none
def isntD (x y : D) : Option T := match y with
  | .none => some (.leaf (.bool (!isNone x)))
  | .bool b => (match x with
    | .bool a => some (.leaf (.bool (!decide (a = b))))
    | _ => none)
  | _ => none
theorem isNone_rule {K : PySem.W.Frag} {x : D} {J : Addr → Prop} {H : Hp} {v : V} (rx : RD K J H v x) : decide (v = .non) = isNone x := by
  cases rx <;> rfl
theorem os_is : OpS X (compareOp .Is) isD := by
  refine .mk (OpR.or op_isN op_isBl) fun x y t h J H v u jd rx ry Q q => ?_
  unfold isD at h
  split at h
  · cases h
    cases ry
    exact .inl ⟨rfl, by rw [isNone_rule rx]; exact q _ _ _ _ (New.same (.bl _) jd)⟩
  · split at h
    · cases h
      cases ry
      cases rx
      exact .inr ⟨_, _, rfl, rfl, q _ _ _ _ (New.same (.bl _) jd)⟩
    · cases h
  · cases h
theorem os_isnt : OpS X (compareOp .IsNot) isntD := by
  refine .mk (OpR.or op_notN op_notBl) fun x y t h J H v u jd rx ry Q q => ?_
  unfold isntD at h
  split at h
  · cases h
    cases ry
    exact .inl ⟨rfl, by rw [isNone_rule rx]; exact q _ _ _ _ (New.same (.bl _) jd)⟩
  · split at h
    · cases h
      cases ry
      cases rx
      exact .inr ⟨_, _, rfl, rfl, q _ _ _ _ (New.same (.bl _) jd)⟩
    · cases h
  · cases h

/-! ### built-in functions by values -/
def CallS (X : Cx) (f : Value) (g : List D → Option T) : Prop :=
  ∃ r, CallR X f r ∧ ∀ xs t, g xs = some t → ∀ (J : Addr → Prop) (H : Hp) (vs : List V), (∀ b, J b → H b ≠ none) → RDs X.K J H vs xs → ∀ Q : VK, (∀ w H' J' fp, New X.K J H J' H' w t fp → Q w H') → r vs H Q
theorem CallS.mk {f : Value} {r : List V → Hp → VK → Prop} {g : List D → Option T} (ho : CallR X f r)
    (h : ∀ xs t, g xs = some t → ∀ (J : Addr → Prop) (H : Hp) (vs : List V), (∀ b, J b → H b ≠ none) → RDs X.K J H vs xs → ∀ Q : VK, (∀ w H' J' fp, New X.K J H J' H' w t fp → Q w H') → r vs H Q) : CallS X f g := ⟨r, ho, h⟩
theorem CallS.or {f : Value} {g g' : List D → Option T} (h : CallS X f g) (h' : CallS X f g') : CallS X f (fun xs => orr (g xs) (g' xs)) := by
  obtain ⟨r, h1, h2⟩ := h
  obtain ⟨r', h1', h2'⟩ := h'
  refine ⟨fun xs H Q => r xs H Q ∨ r' xs H Q, CallR.or h1 h1', fun xs t e J H vs jd rx Q q => ?_⟩
  cases e1 : g xs with
  | none =>
    simp only [e1, orr] at e
    exact .inr (h2' xs t e J H vs jd rx Q q)
  | some t' =>
    simp only [e1, orr] at e
    exact .inl (h2 xs t (by rw [e1]; exact e) J H vs jd rx Q q)
theorem RDs.one {K : PySem.W.Frag} {J : Addr → Prop} {H : Hp} {vs : List V} {d : D} (r : RDs K J H vs [d]) : ∃ v, vs = [v] ∧ RD K J H v d := by
  cases r with
  | cons r s => cases s; exact ⟨_, rfl, r⟩
theorem RDs.two {K : PySem.W.Frag} {J : Addr → Prop} {H : Hp} {vs : List V} {d e : D} (r : RDs K J H vs [d, e]) : ∃ v u, vs = [v, u] ∧ RD K J H v d ∧ RD K J H u e := by
  cases r with
  | cons r s =>
    obtain ⟨u, rfl, r2⟩ := s.one
    exact ⟨_, u, rfl, r, r2⟩
def gCall (g : List D → Option T) (f : M (List D)) : M T := bnd f fun xs => opt (g xs)
theorem tCB_rd {pn : List (Nat × V)} {g : List D → Option T} {r : List V → Hp → VK → Prop} (hg : ∀ xs t, g xs = some t → ∀ (J : Addr → Prop) (H : Hp) (vs : List V), (∀ b, J b → H b ≠ none) → RDs X.K J H vs xs → ∀ Q : VK, (∀ w H' J' fp, New X.K J H J' H' w t fp → Q w H') → r vs H Q)
    {f : M (List D)} {σ : L2.St} {H : Hp} {Q : VK} (h : rdE X.K pn (gCall g f) σ H Q) : tCB r (rdDs X.K pn f) σ H Q := by
  obtain ⟨e, J, F, s, t, e', h, q⟩ := h
  obtain ⟨x, e1, h1, h2⟩ := bnd_ok h
  obtain ⟨h3, rfl⟩ := opt_ok h2
  refine ⟨e, J, F, s, x, _, h1, fun v H1 J1 F1 s1 r1 tr1 => ?_⟩
  refine hg x t h3 J1 H1 v s1.jd r1 Q fun w H' J' fp n => ?_
  obtain ⟨s3, o3, tr3⟩ := n.sr s1
  exact q w H' J' F1 fp s3 o3 (tr1.trans tr3)
def lenD : List D → Option T
  | [.list xs] => some (.leaf (.int xs.length))
  | [.tuple xs] => some (.leaf (.int xs.length))
  | [.str z] => if z.length ≤ most then some (.leaf (.int z.length)) else none
  | _ => none
theorem cs_len : CallS X (.builtin "len") lenD := by
  refine .mk (CallR.or call_len_seq call_len_str) fun xs t h J H vs jd rx Q q => ?_
  unfold lenD at h
  split at h
  · cases h
    obtain ⟨v, rfl, r⟩ := rx.one
    cases r with
    | lst j p r => exact .inl ⟨_, _, rfl, .inl (.inl (.inl p)), by rw [r.length]; exact q _ _ _ _ (New.same (.int _) jd)⟩
  · cases h
    obtain ⟨v, rfl, r⟩ := rx.one
    cases r with
    | tup p r => exact .inl ⟨_, _, rfl, .inr p.sq, by rw [r.length]; exact q _ _ _ _ (New.same (.int _) jd)⟩
  · split at h
    · rename_i hz
      cases h
      obtain ⟨v, rfl, r⟩ := rx.one
      cases r
      exact .inr ⟨_, rfl, most_le hz, q _ _ _ _ (New.same (.int _) jd)⟩
    · cases h
  · cases h
def absD : List D → Option T
  | [.int i] => some (.leaf (.int (if i < 0 then -i else i)))
  | _ => none
theorem cs_abs : CallS X (.builtin "abs") absD := by
  refine .mk call_abs fun xs t h J H vs jd rx Q q => ?_
  unfold absD at h
  split at h
  · cases h
    obtain ⟨v, rfl, r⟩ := rx.one
    cases r
    exact ⟨_, rfl, q _ _ _ _ (New.same (.int _) jd)⟩
  · cases h
def listD : List D → Option T
  | [.list xs] => some (.lst (xs.map .leaf))
  | [.tuple xs] => some (.lst (xs.map .leaf))
  | _ => none
theorem cs_list : CallS X (.type "list") listD := by
  refine .mk call_list_of fun xs t h J H vs jd rx Q q => ?_
  unfold listD at h
  split at h
  · cases h
    obtain ⟨v, rfl, r⟩ := rx.one
    cases r with
    | lst j p r => exact ⟨_, _, rfl, .inl (.inl (.inl p)), fun a ha => q _ _ _ _ (New.list r jd ha)⟩
  · cases h
    obtain ⟨v, rfl, r⟩ := rx.one
    cases r with
    | tup p r => exact ⟨_, _, rfl, .inr p.sq, fun a ha => q _ _ _ _ (New.list r jd ha)⟩
  · cases h
def tupleD : List D → Option T
  | [.list xs] => some (.leaf (.tuple xs))
  | [.tuple xs] => some (.leaf (.tuple xs))
  | _ => none
theorem cs_tuple : CallS X (.type "tuple") tupleD := by
  refine .mk call_tuple_of fun xs t h J H vs jd rx Q q => ?_
  unfold tupleD at h
  split at h
  · cases h
    obtain ⟨v, rfl, r⟩ := rx.one
    cases r with
    | lst j p r => exact ⟨_, _, rfl, .inl ⟨.inl (.inl p), fun a ha => q _ _ _ _ (New.tuple r jd ha)⟩⟩
  · cases h
    obtain ⟨v, rfl, r⟩ := rx.one
    cases r with
    | tup p r => exact ⟨_, _, rfl, .inr ⟨p.sq, q _ _ _ _ (New.same (.tup p r) jd)⟩⟩
  · cases h
def boolsD : List D → Option (List Bool)
  | [] => some []
  | .bool b :: r => (boolsD r).map (b :: ·)
  | _ :: _ => none
theorem bools_rule {K : PySem.W.Frag} {J : Addr → Prop} {H : Hp} : ∀ {ds : List D} {bs : List Bool} {vs : List V}, boolsD ds = some bs → RDs K J H vs ds → vs = bs.map V.bl
  | [], _, _, h, .nil => by cases h; rfl
  | d :: ds, bs, _, h, .cons r s => by
    cases d with
    | bool b =>
      unfold boolsD at h
      cases hb : boolsD ds with
      | none => rw [hb] at h; cases h
      | some bs' =>
        rw [hb] at h
        cases h
        cases r
        rw [bools_rule hb s]
        rfl
    | _ => cases h
def intsD : List D → Option (List Int)
  | [] => some []
  | .int b :: r => (intsD r).map (b :: ·)
  | _ :: _ => none
theorem ints_rule {K : PySem.W.Frag} {J : Addr → Prop} {H : Hp} : ∀ {ds : List D} {bs : List Int} {vs : List V}, intsD ds = some bs → RDs K J H vs ds → vs = bs.map V.int
  | [], _, _, h, .nil => by cases h; rfl
  | d :: ds, bs, _, h, .cons r s => by
    cases d with
    | int b =>
      unfold intsD at h
      cases hb : intsD ds with
      | none => rw [hb] at h; cases h
      | some bs' =>
        rw [hb] at h
        cases h
        cases r
        rw [ints_rule hb s]
        rfl
    | _ => cases h
def allD : List D → Option T
  | [.list xs] => (boolsD xs).map fun bs => .leaf (.bool (bs.all id))
  | _ => none
def anyD : List D → Option T
  | [.list xs] => (boolsD xs).map fun bs => .leaf (.bool (bs.any id))
  | _ => none
def sumD : List D → Option T
  | [.list xs] => (intsD xs).map fun bs => .leaf (.int bs.sum)
  | _ => none
theorem cs_all (hc : X.calm = true) : CallS X (.builtin "all") allD := by
  refine .mk (cr_all hc) fun xs t h J H vs jd rx Q q => ?_
  unfold allD at h
  split at h
  · rename_i ds
    cases hb : boolsD ds with
    | none => rw [hb] at h; cases h
    | some bs =>
      rw [hb] at h
      cases h
      obtain ⟨v, rfl, r⟩ := rx.one
      cases r with
      | lst j p r => exact ⟨_, bs, rfl, by rw [← bools_rule hb r]; exact .inl (.inl p), q _ _ _ _ (New.same (.bl _) jd)⟩
  · cases h
theorem cs_any (hc : X.calm = true) : CallS X (.builtin "any") anyD := by
  refine .mk (cr_any hc) fun xs t h J H vs jd rx Q q => ?_
  unfold anyD at h
  split at h
  · rename_i ds
    cases hb : boolsD ds with
    | none => rw [hb] at h; cases h
    | some bs =>
      rw [hb] at h
      cases h
      obtain ⟨v, rfl, r⟩ := rx.one
      cases r with
      | lst j p r => exact ⟨_, bs, rfl, by rw [← bools_rule hb r]; exact .inl (.inl p), q _ _ _ _ (New.same (.bl _) jd)⟩
  · cases h
theorem cs_sum (hc : X.calm = true) : CallS X (.builtin "sum") sumD := by
  refine .mk (cr_sum hc) fun xs t h J H vs jd rx Q q => ?_
  unfold sumD at h
  split at h
  · rename_i ds
    cases hb : intsD ds with
    | none => rw [hb] at h; cases h
    | some bs =>
      rw [hb] at h
      cases h
      obtain ⟨v, rfl, r⟩ := rx.one
      cases r with
      | lst j p r => exact ⟨_, bs, rfl, by rw [← ints_rule hb r]; exact .inl (.inl p), q _ _ _ _ (New.same (.int _) jd)⟩
  · cases h
def max2D : List D → Option T
  | [.int i, .int j] => some (.leaf (.int (if j > i then j else i)))
  | _ => none
def min2D : List D → Option T
  | [.int i, .int j] => some (.leaf (.int (if j < i then j else i)))
  | _ => none
theorem cs_max2 (hc : X.calm = true) : CallS X (.builtin "max") max2D := by
  refine .mk (call_max2 hc) fun xs t h J H vs jd rx Q q => ?_
  unfold max2D at h
  split at h
  · cases h
    obtain ⟨v, u, rfl, r, r'⟩ := rx.two
    cases r; cases r'
    exact ⟨_, _, rfl, q _ _ _ _ (New.same (.int _) jd)⟩
  · cases h
theorem cs_min2 (hc : X.calm = true) : CallS X (.builtin "min") min2D := by
  refine .mk (call_min2 hc) fun xs t h J H vs jd rx Q q => ?_
  unfold min2D at h
  split at h
  · cases h
    obtain ⟨v, u, rfl, r, r'⟩ := rx.two
    cases r; cases r'
    exact ⟨_, _, rfl, q _ _ _ _ (New.same (.int _) jd)⟩
  · cases h
/-- repr -/
def reprOk (d : D) : Bool := d.canLay0 && d.showable && decide (d.depth ≤ 64) && decide (d.shown.length ≤ sizeLine)
def reprD : List D → Option T
  | [d] => if reprOk d then some (.leaf (.str d.shown)) else none
  | _ => none
end
end IL

namespace IL
open PySem PySem.Spec PyProof.Rows L2

/-! ### statements -/
inductive Fl where
  | nx | bk | ct
  | rt (t : T)
section
variable (K : PySem.W.Frag) (pn : List (Nat × V))
def Aft (D : Ends) (J : Addr → Prop) (H : Hp) (F : List Addr) (e' : En) : Fl → Prop
  | .nx => ∀ σ' H' J' F', SR K pn σ' H' e' J' F' → Tr J H F J' H' F' → D.nx σ' H'
  | .bk => ∀ σ' H' J' F', SR K pn σ' H' e' J' F' → Tr J H F J' H' F' → D.bk σ' H'
  | .ct => ∀ σ' H' J' F', SR K pn σ' H' e' J' F' → Tr J H F J' H' F' → D.ct σ' H'
  | .rt t => ∀ v σ' H' J' F' fp, SR K pn σ' H' e' J' F' → Own K J' H' F' v t fp → Tr J H F J' H' (F' ++ fp) → D.rt v H'
def rdS (f : M Fl) : TS := fun D σ H => ∃ e J F, SR K pn σ H e J F ∧ ∃ fl e', f e = .ok fl e' ∧ Aft K pn D J H F e' fl
end
theorem Aft.pre {K : PySem.W.Frag} {pn : List (Nat × V)} {D : Ends} {J J1 : Addr → Prop} {H H1 : Hp} {F F1 : List Addr} {e' : En} {fl : Fl} (a : Aft K pn D J H F e' fl) (tr : Tr J H F J1 H1 F1) : Aft K pn D J1 H1 F1 e' fl := by
  cases fl with
  | nx => exact fun σ' H' J' F' s t => a σ' H' J' F' s (tr.trans t)
  | bk => exact fun σ' H' J' F' s t => a σ' H' J' F' s (tr.trans t)
  | ct => exact fun σ' H' J' F' s t => a σ' H' J' F' s (tr.trans t)
  | rt x => exact fun v σ' H' J' F' fp s o t => a v σ' H' J' F' fp s o (tr.trans t)
def gSeq (f g : M Fl) : M Fl := bnd f fun fl => match fl with
  | .nx => g
  | .bk => ret .bk
  | .ct => ret .ct
  | .rt t => ret (.rt t)
def store (i : Nat) (t : T) : M Unit := fun e => if i < e.length then .ok () (e.set i (some t)) else .bad
def gSet (i : Nat) (f : M T) : M Fl := bnd f fun t => bnd (store i t) fun _ => ret .nx
def gRet (f : M T) : M Fl := bnd f fun t => ret (.rt t)
def gExp (f : M T) : M Fl := bnd f fun _ => ret .nx
theorem store_ok' {i : Nat} {t : T} {e e2 : En} {u : Unit} (h : store i t e = .ok u e2) : i < e.length ∧ e2 = e.set i (some t) := by
  unfold store at h
  split at h
  · cases h; exact ⟨by assumption, rfl⟩
  · cases h
section
variable {X : Cx} {pn : List (Nat × V)} {a b c : Expr} {pos : Pos} {es : List Expr} {st : Stmt} {sts : List Stmt}
theorem is_nil : PSs X [] (rdS X.K pn (ret .nx)) := PSs.weak pss_nil fun D σ H ⟨e, J, F, s, fl, e', h, q⟩ => by
  cases h
  exact q σ H J F s .refl
theorem is_cons {f g : M Fl} (h1 : PS X st (rdS X.K pn f)) (h2 : PSs X sts (rdS X.K pn g)) : PSs X (st :: sts) (rdS X.K pn (gSeq f g)) :=
  PSs.weak (pss_cons h1 h2) fun D σ H ⟨e, J, F, s, fl, e', h, q⟩ => by
    obtain ⟨x, e1, k1, k2⟩ := bnd_ok h
    refine ⟨e, J, F, s, x, e1, k1, ?_⟩
    cases x with
    | nx => exact fun σ' H' J' F' s' tr => ⟨e1, J', F', s', fl, e', k2, q.pre tr⟩
    | bk => cases k2; exact q
    | ct => cases k2; exact q
    | rt t => cases k2; exact q
/-- the last statement of a block -/
theorem is_one {f : M Fl} (h1 : PS X st (rdS X.K pn f)) : PSs X [st] (rdS X.K pn f) := pss_one h1
theorem is_ret {f : M T} (h : IE X pn a f) : PS X (.Return (some a) pos) (rdS X.K pn (gRet f)) := PS.weak (ps_ret h.pe) fun D σ H ⟨e, J, F, s, fl, e', h, q⟩ => by
  obtain ⟨x, e1, k1, k2⟩ := bnd_ok h
  cases k2
  exact ⟨e, J, F, s, x, _, k1, fun v H' J' F' fp s' o tr => q v σ H' J' F' fp s' o tr⟩
theorem is_retN : PS X (.Return none pos) (rdS X.K pn (ret (.rt (.leaf .none)))) := PS.weak ps_retN fun D σ H ⟨e, J, F, s, fl, e', h, q⟩ => by
  cases h
  exact q .non σ H J F [] s ⟨.leaf .non, by simpa using s.nd, fun _ z => nomatch z⟩ (by simpa using Tr.refl)
theorem is_pass : PS X (.Pass pos) (rdS X.K pn (ret .nx)) := PS.weak ps_pass fun D σ H ⟨e, J, F, s, fl, e', h, q⟩ => by
  cases h
  exact q σ H J F s .refl
theorem is_break : PS X (.Break pos) (rdS X.K pn (ret .bk)) := PS.weak ps_break fun D σ H ⟨e, J, F, s, fl, e', h, q⟩ => by
  cases h
  exact q σ H J F s .refl
theorem is_cont : PS X (.Continue pos) (rdS X.K pn (ret .ct)) := PS.weak ps_continue fun D σ H ⟨e, J, F, s, fl, e', h, q⟩ => by
  cases h
  exact q σ H J F s .refl
theorem is_exp {f : M T} (h : IE X pn a f) (hs : swapsWith a none pos.line X.env = pure false) : PS X (.Expr a pos) (rdS X.K pn (gExp f)) := PS.weak (ps_expr h.pe hs) fun D σ H ⟨e, J, F, s, fl, e', h, q⟩ => by
  obtain ⟨x, e1, k1, k2⟩ := bnd_ok h
  cases k2
  exact ⟨e, J, F, s, x, _, k1, fun v H' J' F' fp s' o tr => q σ H' J' F' s' (tr.trans (Tr.sub fun b hb => List.mem_append_left _ hb))⟩
def gIfS (c : M Bool) (f g : M Fl) : M Fl := cond c f g
theorem is_if {c : Expr} {f : M T} {g k : M Fl} {ts es : List Stmt} (hc : IE X pn c f) (hn : notIf c = true) (h1 : PSs X ts (rdS X.K pn g)) (h2 : PSs X es (rdS X.K pn k)) : PS X (.If c ts es pos) (rdS X.K pn (gIfS (tst f) g k)) :=
  PS.weak (ps_if (hc.pt hn) h1 h2) fun D σ H ⟨e, J, F, s, fl, e', h, q⟩ => by
    obtain ⟨x, e1, k1, k2⟩ := bnd_ok h
    refine ⟨e, J, F, s, x, e1, k1, fun H1 J1 F1 s1 tr1 => ?_⟩
    cases x with
    | true =>
      rw [if_pos rfl] at k2 ⊢
      exact ⟨e1, J1, F1, s1, fl, e', k2, q.pre tr1⟩
    | false =>
      rw [if_neg Bool.false_ne_true] at k2 ⊢
      exact ⟨e1, J1, F1, s1, fl, e', k2, q.pre tr1⟩

/-! ### targets -/
def Sm (ws : List Nat) (σ σ' : L2.St) : Prop := σ'.length = σ.length ∧ ∀ i, i ∉ ws → σ'[i]? = σ[i]?
theorem Sm.refl {ws : List Nat} {σ : L2.St} : Sm ws σ σ := ⟨rfl, fun _ _ => rfl⟩
theorem Sm.trans {w1 w2 : List Nat} {σ σ1 σ2 : L2.St} (a : Sm w1 σ σ1) (b : Sm w2 σ1 σ2) : Sm (w1 ++ w2) σ σ2 := ⟨b.1.trans a.1, fun i h => (b.2 i fun z => h (List.mem_append_right _ z)).trans (a.2 i fun z => h (List.mem_append_left _ z))⟩
def rdG (K : PySem.W.Frag) (pn : List (Nat × V)) (ws : List Nat) (bd : D → M Unit) : TG := fun v σ H Q => ∃ e J F d, SR K pn σ H e J F ∧ RD K J H v d ∧ ∃ e', bd d e = .ok () e' ∧ ∀ σ' H' J' F', SR K pn σ' H' e' J' F' → Tr J H F J' H' F' → Sm ws σ σ' → Q σ' H'
def rdGs (K : PySem.W.Frag) (pn : List (Nat × V)) (ws : List Nat) (bd : List D → M Unit) : TGs := fun v σ H Q => ∃ e J F d, SR K pn σ H e J F ∧ RDs K J H v d ∧ ∃ e', bd d e = .ok () e' ∧ ∀ σ' H' J' F', SR K pn σ' H' e' J' F' → Tr J H F J' H' F' → Sm ws σ σ' → Q σ' H'
theorem PG.weak {e : Expr} {t t' : TG} (h : PG X e t) (w : ∀ (v : V) (σ : L2.St) (H : Hp) (Q : L2.St → Hp → Prop), t' v σ H Q → t v σ H Q) : PG X e t' := ⟨fun pins s σ H v u Q I r q => h.run pins s σ H v u Q I r (w v σ H Q q)⟩
theorem PGs.weak {e : List Expr} {t t' : TGs} (h : PGs X e t) (w : ∀ (v : List V) (σ : L2.St) (H : Hp) (Q : L2.St → Hp → Prop), t' v σ H Q → t v σ H Q) : PGs X e t' := ⟨fun pins s σ H v u Q I r q => h.run pins s σ H v u Q I r (w v σ H Q q)⟩
theorem PG.or {e : Expr} {t t' : TG} (h : PG X e t) (h' : PG X e t') : PG X e (fun v σ H Q => t v σ H Q ∨ t' v σ H Q) := ⟨fun pins s σ H v u Q I r q => by
  rcases q with q | q
  · exact h.run pins s σ H v u Q I r q
  · exact h'.run pins s σ H v u Q I r q⟩
theorem ig_name {i : Nat} (h : PG X a (gName i)) (hp : ∀ p ∈ pn, p.1 ≠ i) : PG X a (rdG X.K pn [i] fun d => store i (.leaf d)) := PG.weak h fun v σ H Q ⟨e, J, F, d, s, r, e', h, q⟩ => by
  obtain ⟨hi, rfl⟩ := store_ok' h
  obtain ⟨F', s', hF⟩ := s.set hi hp ⟨.leaf r, by simpa using s.nd, fun _ z => nomatch z⟩
  refine q _ H J F' s' (Tr.sub fun b hb => by simpa using hF b hb) ⟨by simp, fun j hj => ?_⟩
  rw [List.getElem?_set_ne (fun z => hj (by simp [z]))]
theorem igs_nil : PGs X [] (rdGs X.K pn [] fun ds => match ds with | [] => ret () | _ => bad) := PGs.weak pgs_nil fun v σ H Q ⟨e, J, F, d, s, r, e', h, q⟩ => by
  cases r with
  | nil => cases h; exact ⟨rfl, q σ H J F s .refl .refl⟩
  | cons _ _ => cases h
def consG (f : D → M Unit) (g : List D → M Unit) : List D → M Unit
  | [] => bad
  | d :: ds => bnd (f d) fun _ => g ds
theorem igs_cons {w1 w2 : List Nat} {f : D → M Unit} {g : List D → M Unit} (h1 : PG X a (rdG X.K pn w1 f)) (h2 : PGs X es (rdGs X.K pn w2 g)) (hs : (assignEach (a :: es) X.env).map (·.2) = assign a X.env :: (assignEach es X.env).map (·.2)) : PGs X (a :: es) (rdGs X.K pn (w1 ++ w2) (consG f g)) :=
  PGs.weak (pgs_cons h1 h2 hs) fun v σ H Q ⟨e, J, F, d, s, r, e', h, q⟩ => by
    cases r with
    | nil => cases h
    | cons r rs =>
      obtain ⟨_, e1, k1, k2⟩ := bnd_ok h
      exact ⟨_, _, rfl, e, J, F, _, s, r, e1, k1, fun σ' H' J' F' s' tr sm => ⟨e1, J', F', _, s', rs.step tr s.jf, e', k2, fun σ2 H2 J2 F2 s2 tr2 sm2 => q σ2 H2 J2 F2 s2 (tr.trans tr2) (sm.trans sm2)⟩⟩
def unT (n : Nat) (g : List D → M Unit) : D → M Unit
  | .tuple ds => if ds.length = n then g ds else bad
  | .list ds => if ds.length = n then g ds else bad
  | _ => bad
theorem ig_tup {ws : List Nat} {g : List D → M Unit} {k n : Nat} (hc : X.calm = true) (h : PGs X es (rdGs X.K pn ws g)) (hn : (assignEach es X.env).length = n) (hst : (assignEach es X.env).findIdx? (·.1) = none) : PG X (.Tuple es k pos) (rdG X.K pn ws (unT n g)) :=
  PG.weak (PG.or (pg_tup hc h hn hst) (pg_unl hc h hn hst)) fun v σ H Q ⟨e, J, F, d, s, r, e', h, q⟩ => by
    unfold unT at h
    split at h
    · split at h
      · rename_i ds hl
        cases r with
        | tup p r => exact .inl ⟨_, _, rfl, p.sq, by rw [r.length]; exact hl, e, J, F, ds, s, r, e', h, q⟩
      · cases h
    · split at h
      · rename_i ds hl
        cases r with
        | lst j p r => exact .inr ⟨_, _, rfl, .inl (.inl p), by rw [r.length]; exact hl, e, J, F, ds, s, r, e', h, q⟩
      · cases h
    · cases h

/-! ### an own list turned -/
/-- the list in slot i gets what vs, ts say -/
theorem SR.turn {K : PySem.W.Frag} {σ : L2.St} {H : Hp} {e : En} {J : Addr → Prop} {F : List Addr} (s : SR K pn σ H e J F) {i : Nat} {ts ts' : List T} {fx : List Addr} (h : e[i]? = some (some (.lst ts)))
    (nd : (F ++ fx).Nodup) (jf : ∀ a ∈ fx, ¬ J a) :
    ∃ a vs, σ[i]? = some (some (.ref a)) ∧ H a = some (.lst vs) ∧ ∃ fp, RTs K J H vs ts fp ∧ ∀ vs' fp', RTs K J H vs' ts' fp' → (∀ b ∈ fp', b ∈ fp ∨ b ∈ fx) → ((fp ++ fx).Nodup → fp'.Nodup) →
      ∃ F', SR K pn σ (upd H a (.lst vs')) (e.set i (some (.lst ts'))) J F' ∧ Tr J H (F ++ fx) J (upd H a (.lst vs')) F' := by
  obtain ⟨v, fp0, F1, hv, o, s1, pm⟩ := s.take h
  cases hrt : o.rt with
  | lst ha rts =>
    rename_i a vs fp
    refine ⟨a, vs, hv, ha, fp, rts, fun vs' fp' r' hsub hnd => ?_⟩
    have ndF : (F1 ++ (a :: fp)).Nodup := o.nd
    have nd2 : ((F1 ++ (a :: fp)) ++ fx).Nodup := ((List.Perm.append_right fx pm).nodup_iff).mp nd
    have hF1 : a ∉ F1 := fun z => (List.nodup_append.mp ndF).2.2 a z a List.mem_cons_self rfl
    have hafp : a ∉ fp := (List.nodup_cons.mp (List.nodup_append.mp ndF).2.1).1
    have hJ : ¬ J a := o.jf a List.mem_cons_self
    have hafx : a ∉ fx := fun z => (List.nodup_append.mp nd2).2.2 a (List.mem_append_right _ List.mem_cons_self) a z rfl
    have hafp' : a ∉ fp' := fun z => (hsub a z).elim hafp hafx
    have keep : ∀ b u, b ≠ a → H b = some u → upd H a (.lst vs') b = some u := fun b u hb q => by rw [upd_ne hb]; exact q
    have dm : ∀ b, H b ≠ none → upd H a (.lst vs') b ≠ none := fun b q => by
      by_cases hb : b = a
      · subst hb; rw [upd_same]; exact fun z => nomatch z
      · rw [upd_ne hb]; exact q
    have s2 : SR K pn σ (upd H a (.lst vs')) (e.set i none) J F1 := s1.step (fun _ j => j) (fun b u z q => keep b u (fun w => by
      subst w
      rcases z with z | z
      · exact hJ z
      · exact hF1 z) q) (fun b z => dm b (s.jd b z)) s1.jf
    have ndp : (fp ++ fx).Nodup := by
      have := (List.nodup_append.mp nd2)
      refine List.nodup_append.mpr ⟨(List.nodup_cons.mp (List.nodup_append.mp ndF).2.1).2, this.2.1, fun x hx y hy => this.2.2 x (List.mem_append_right _ (List.mem_cons_of_mem _ hx)) y hy⟩
    have o2 : Own K J (upd H a (.lst vs')) F1 (.ref a) (.lst ts') (a :: fp') := by
      refine ⟨.lst upd_same (r'.mono (fun _ j => j) (fun b u j q => keep b u (fun w => hJ (w ▸ j)) q) fun b u hb q => keep b u (fun w => hafp' (w ▸ hb)) q), ?_, fun b hb => ?_⟩
      · refine List.nodup_append.mpr ⟨s1.nd, List.nodup_cons.mpr ⟨hafp', hnd ndp⟩, fun x hx y hy z => ?_⟩
        subst z
        rcases List.mem_cons.mp hy with rfl | hy
        · exact hF1 hx
        · rcases hsub x hy with w | w
          · exact (List.nodup_append.mp ndF).2.2 x hx x (List.mem_cons_of_mem _ w) rfl
          · exact (List.nodup_append.mp nd2).2.2 x (List.mem_append_left _ hx) x w rfl
      · rcases List.mem_cons.mp hb with rfl | hb
        · exact hJ
        · rcases hsub b hb with w | w
          · exact o.jf b (List.mem_cons_of_mem _ w)
          · exact jf b w
    have hi : i < e.length := (List.getElem?_eq_some_iff.mp h).1
    obtain ⟨F', s3, pm3⟩ := s2.put (i := i) (by simp [hi]) hv o2
    rw [List.set_set] at s3
    refine ⟨F', s3, ⟨fun b u q hb => keep b u (fun w => ?_) q, dm, fun _ j => j, fun b hb => ?_, fun b z => .inl z⟩⟩
    · subst w
      exact hb (List.mem_append_left _ (pm.mem_iff.mpr (List.mem_append_right _ List.mem_cons_self)))
    · left
      rcases List.mem_append.mp (pm3.mem_iff.mp hb) with z | z
      · exact List.mem_append_left _ (pm.mem_iff.mpr (List.mem_append_left _ z))
      · rcases List.mem_cons.mp z with rfl | z
        · exact List.mem_append_left _ (pm.mem_iff.mpr (List.mem_append_right _ List.mem_cons_self))
        · rcases hsub b z with w | w
          · exact List.mem_append_left _ (pm.mem_iff.mpr (List.mem_append_right _ (List.mem_cons_of_mem _ w)))
          · exact List.mem_append_right _ w
theorem RTs.set {K : PySem.W.Frag} {J : Addr → Prop} {H : Hp} {w : V} {t : T} {g : List Addr} (r : RT K J H w t g) : ∀ {vs : List V} {ts : List T} {fp : List Addr} (j : Nat), RTs K J H vs ts fp → ∃ fp', RTs K J H (vs.set j w) (ts.set j t) fp' ∧ (∀ b ∈ fp', b ∈ fp ∨ b ∈ g) ∧ ((fp ++ g).Nodup → fp'.Nodup)
  | _, _, _, _, .nil => ⟨[], .nil, fun _ h => (nomatch h), fun _ => List.nodup_nil⟩
  | _, _, _, 0, .cons (f := f) (g := f2) q s => ⟨g ++ f2, .cons r s, fun b hb => by
      rcases List.mem_append.mp hb with z | z
      · exact .inr z
      · exact .inl (List.mem_append_right _ z), fun nd => by
      have h := List.nodup_append.mp nd
      have h1 := List.nodup_append.mp h.1
      exact List.nodup_append.mpr ⟨h.2.1, h1.2.1, fun x hx y hy z => h.2.2 y (List.mem_append_right _ hy) x hx z.symm⟩⟩
  | _, _, _, j + 1, .cons (f := f) (g := f2) q s => by
    obtain ⟨fp', h1, h2, h3⟩ := RTs.set r j s
    refine ⟨f ++ fp', .cons q h1, fun b hb => ?_, fun nd => ?_⟩
    · rcases List.mem_append.mp hb with z | z
      · exact .inl (List.mem_append_left _ z)
      · rcases h2 b z with w | w
        · exact .inl (List.mem_append_right _ w)
        · exact .inr w
    · have n0 := List.nodup_append.mp nd
      have n1 := List.nodup_append.mp n0.1
      refine List.nodup_append.mpr ⟨n1.1, h3 (List.nodup_append.mpr ⟨n1.2.1, n0.2.1, fun x hx y hy z => n0.2.2 x (List.mem_append_right _ hx) y hy z⟩), fun x hx y hy z => ?_⟩
      subst z
      rcases h2 x hy with w | w
      · exact n1.2.2 x hx x w rfl
      · exact n0.2.2 x (List.mem_append_left _ hx) x w rfl
/-- x.append(e) -/
def pushT (i : Nat) (t : T) : M Unit := fun e => match e[i]? with
  | some (some (.lst ts)) => if ts.length < most then .ok () (e.set i (some (.lst (ts ++ [t])))) else .bad
  | _ => .bad
def gPush (i : Nat) (f : M T) : M T := bnd (held i) fun _ => bnd (peek i fun t => match t with | .lst _ => some () | _ => none) fun _ => bnd f fun t => bnd (pushT i t) fun _ => ret (.leaf .none)
theorem ie_push {i : Nat} {f : M T} {apos : Pos} (ho : PE X a (tVar i)) (hn : nstar b = true) (ha : PE X b (rdE X.K pn f)) (hbase : attributeBase a "append" X.env (eval a X.env) = eval a X.env) (hline : (apos.endLine == pos.line) = true) :
    IE X pn (.Call (.Attribute a "append" apos) [b] [] pos) (gPush i f) := by
  have hs : starEach [b] X.env = (false, eval b X.env) :: starEach [] X.env := star_of hn [] X.env
  refine ie_mk (PE.weak (pe_bm PySem.F.plainAttrs_list PySem.F.slot_list_append PySem.F.type_list_append mt_append ho (pa_cons ha pa_nil hs) hbase (by rw [hs]; rfl) hline hs (by rfl)) fun σ H Q ⟨e, J, F, s, fl, e', h, q⟩ => ?_)
  obtain ⟨_, e0, h1, h2⟩ := bnd_ok h
  obtain ⟨rfl, t0, h0⟩ := held_ok h1
  obtain ⟨_, e1, h3, h4⟩ := bnd_ok h2
  obtain ⟨rfl, t1, h5, h6⟩ := peek_ok h3
  obtain ⟨t, e2, h7, h8⟩ := bnd_ok h4
  obtain ⟨_, e3, h9, h10⟩ := bnd_ok h8
  cases h10
  split at h6
  · rename_i ts0
    obtain ⟨v, fp, hv, rt⟩ := s.at h5
    cases rt with
    | lst hH rts =>
      refine ⟨_, hv, .inl ⟨rfl, _, .inl (.inl hH)⟩, e1, J, F, s, t, e2, h7, fun w H1 J1 F1 fpw s1 o1 tr1 => ?_⟩
      unfold pushT at h9
      split at h9
      · rename_i ts h11
        split at h9
        · rename_i hz
          cases h9
          obtain ⟨a', vs, hv', ha', fp', rts', go⟩ := s1.turn (ts' := ts ++ [t]) h11 o1.nd o1.jf
          rw [hv] at hv'
          cases hv'
          obtain ⟨F', s2, tr2⟩ := go (vs ++ [w]) (fp' ++ (fpw ++ [])) (rts'.append (.cons o1.rt .nil)) (fun b hb => by simpa using hb) (fun h => by simpa using h)
          refine ⟨_, vs, w, rfl, rfl, ha', by rw [rts'.length]; exact most_lt (Nat.le_of_lt hz), ?_⟩
          exact q _ _ J1 F' [] s2 ⟨.leaf .non, by simpa using s2.nd, fun _ z => nomatch z⟩ (by simpa using tr1.trans tr2)
        · cases h9
      · cases h9
  · cases h6
/-- x[k] = v -/
def setT (i : Nat) (k : D) (t : T) : M Unit := fun e => match e[i]?, k with
  | some (some (.lst ts)), .int z => (match ixN ts.length z with
    | some j => .ok () (e.set i (some (.lst (ts.set j t))))
    | none => .bad)
  | _, _ => .bad
def gPut (i : Nat) (f : M D) (d : D) : M Unit := bnd (held i) fun _ => bnd f fun k => setT i k (.leaf d)
theorem ig_sub {i : Nat} {f : M D} (ho : PE X a (tVar i)) (hi : PE X b (rdD X.K pn f))
    (ha : ∀ v, assign (.Subscript a b pos) X.env v = (do
      let ov ← holding [v] (eval a X.env)
      let iv ← holding [v, ov] (eval b X.env)
      standAt pos
      holding [v, ov, iv] (setItem ov iv v)
      release [v, ov, iv] []) := by intro _; rfl) : PG X (.Subscript a b pos) (rdG X.K pn [] (gPut i f)) :=
  PG.weak (pg_sub ho hi set_list ha) fun v σ H Q ⟨e, J, F, d, s, r, e', h, q⟩ => by
    obtain ⟨_, e0, h1, h2⟩ := bnd_ok h
    obtain ⟨rfl, t0, h0⟩ := held_ok h1
    obtain ⟨k, e1, h3, h4⟩ := bnd_ok h2
    obtain ⟨ov, fpo, hv, rt⟩ := s.at h0
    refine ⟨ov, hv, _, J, F, s, k, e1, h3, fun u H1 J1 F1 s1 r1 tr1 => ?_⟩
    unfold setT at h4
    split at h4
    · rename_i ts z h5
      split at h4
      · rename_i j hj
        cases h4
        have rd := r.step tr1 s.jf
        obtain ⟨a', vs, hv', ha', fp', rts', go⟩ := s1.turn (ts' := ts.set j (.leaf d)) (fx := []) h5 (by simpa using s1.nd) (fun _ z => nomatch z)
        rw [hv] at hv'
        cases hv'
        obtain ⟨fp2, k1, k2, k3⟩ := RTs.set (RT.leaf rd) j rts'
        obtain ⟨F', s2, tr2⟩ := go _ fp2 k1 k2 k3
        cases r1
        refine ⟨a', vs, z, j, rfl, rfl, ha', by rw [rts'.length]; exact hj, ?_⟩
        exact q σ _ J1 F' s2 (tr1.trans (by simpa using tr2)) .refl
      · cases h4
    · cases h4
/-- target = data -/
def gAsg (f : M D) (bd : D → M Unit) : M Fl := bnd f fun d => bnd (bd d) fun _ => ret .nx
theorem is_asg {ws : List Nat} {f : M D} {bd : D → M Unit} (h : PE X b (rdD X.K pn f)) (hg : PG X a (rdG X.K pn ws bd)) (hs : swapsWithSole [a] b pos.line X.env = pure false) (hw : swappedStores [a] b X.env = pure none) (h1 : (assignEach [a] X.env).map (·.2) = [assign a X.env]) :
    PS X (.Assign [a] b pos) (rdS X.K pn (gAsg f bd)) := PS.weak (ps_asg h hg hs hw h1) fun D σ H ⟨e, J, F, s, fl, e', h, q⟩ => by
  obtain ⟨d, e1, k1, k2⟩ := bnd_ok h
  obtain ⟨_, e2, k3, k4⟩ := bnd_ok k2
  cases k4
  exact ⟨e, J, F, s, d, e1, k1, fun v H1 J1 F1 s1 r1 tr1 => ⟨e1, J1, F1, d, s1, r1, _, k3, fun σ' H' J' F' s' tr' _ => q σ' H' J' F' s' (tr1.trans tr')⟩⟩
/-- name = own value -/
theorem is_set {i : Nat} {x : Str} {f : M T} {pos' : Pos} (hN : X.N.Nodup) (hi : X.N[i]? = some x) (hx : Loc X.env.scope x) (hp : ∀ p ∈ pn, p.1 ≠ i) (he : IE X pn b f) (hs : swapsWith b (some (.Name x pos')) pos.line X.env = pure false) (hf : X.fn x = true ∨ X.env.scope.names.lookup x = some .local) :
    PS X (.Assign [.Name x pos'] b pos) (rdS X.K pn (gSet i f)) := PS.weak (ps_set hN hi hx he.pe hs hf) fun D σ H ⟨e, J, F, s, fl, e', h, q⟩ => by
  obtain ⟨t, e1, k1, k2⟩ := bnd_ok h
  obtain ⟨_, e2, k3, k4⟩ := bnd_ok k2
  cases k4
  obtain ⟨k5, rfl⟩ := store_ok' k3
  refine ⟨e, J, F, s, t, e1, k1, fun v H1 J1 F1 fp s1 o1 tr1 => ?_⟩
  obtain ⟨F', s2, hF⟩ := s1.set k5 hp o1
  exact q _ H1 J1 F' s2 (tr1.trans (Tr.sub hF))
/-- x, y = e1, e2 -/
def gPar (i j : Nat) (f : M (List T)) : M Fl := bnd f fun ts => match ts with
  | [t, u] => bnd (store i t) fun _ => bnd (store j u) fun _ => ret .nx
  | _ => bad
theorem Owns.two {K : PySem.W.Frag} {J : Addr → Prop} {H : Hp} {F : List Addr} {vs : List V} {t u : T} {fp : List Addr} (o : Owns K J H F vs [t, u] fp) : ∃ v w f g, vs = [v, w] ∧ RT K J H v t f ∧ RT K J H w u g ∧ fp = f ++ g := by
  cases o.rt with
  | cons r s => cases s with
    | cons r2 s2 => cases s2; exact ⟨_, _, _, _, rfl, r, r2, by simp⟩
theorem is_par {i j : Nat} {x y : Str} {f : M (List T)} {px py pt : Pos} {kt k2 : Nat} {pt2 : Pos} (hc : X.calm = true) (hN : X.N.Nodup) (hi : X.N[i]? = some x) (hj : X.N[j]? = some y) (hij : i ≠ j)
    (hx : X.env.scope.names.lookup x = some .local) (hy : X.env.scope.names.lookup y = some .local) (hp : ∀ p ∈ pn, p.1 ≠ i) (hp' : ∀ p ∈ pn, p.1 ≠ j) (ha : PA X [a, b] (rdEs X.K pn f))
    (hw : swappedStores [.Tuple [.Name x px, .Name y py] kt pt] (.Tuple [a, b] k2 pt2) X.env = pure (some [x, y])) (hs : swapsWithSole [.Tuple [.Name x px, .Name y py] kt pt] (.Tuple [a, b] k2 pt2) pos.line X.env = pure false) :
    PS X (.Assign [.Tuple [.Name x px, .Name y py] kt pt] (.Tuple [a, b] k2 pt2) pos) (rdS X.K pn (gPar i j f)) :=
  PS.weak (ps_par hc hN hi hj hij hx hy ha hw hs) fun D σ H ⟨e, J, F, s, fl, e', h, q⟩ => by
    obtain ⟨ts, e1, k1, k2⟩ := bnd_ok h
    split at k2
    · rename_i t u
      obtain ⟨_, e2, k3, k4⟩ := bnd_ok k2
      obtain ⟨_, e3, k5, k6⟩ := bnd_ok k4
      cases k6
      obtain ⟨k7, rfl⟩ := store_ok' k3
      obtain ⟨k8, rfl⟩ := store_ok' k5
      refine ⟨e, J, F, s, _, e1, k1, fun vs H1 J1 F1 fp s1 o1 tr1 => ?_⟩
      obtain ⟨v, w, f1, g1, rfl, r1, r2, rfl⟩ := o1.two
      have nd := o1.nd
      have oa : Own X.K J1 H1 F1 v t f1 := ⟨r1, by
        have h := List.nodup_append.mp nd
        exact List.nodup_append.mpr ⟨h.1, (List.nodup_append.mp h.2.1).1, fun x hx y hy => h.2.2 x hx y (List.mem_append_left _ hy)⟩, fun b hb => o1.jf b (List.mem_append_left _ hb)⟩
      obtain ⟨F2, s2, hF2⟩ := s1.set k7 hp oa
      have ob : Own X.K J1 H1 F2 w u g1 := ⟨r2, by
        have h := List.nodup_append.mp nd
        have h2 := List.nodup_append.mp h.2.1
        refine List.nodup_append.mpr ⟨s2.nd, h2.2.1, fun x hx y hy z => ?_⟩
        rcases List.mem_append.mp (hF2 x hx) with q | q
        · exact h.2.2 x q y (List.mem_append_right _ hy) z
        · exact h2.2.2 x q y hy z, fun b hb => o1.jf b (List.mem_append_right _ hb)⟩
      obtain ⟨F3, s3, hF3⟩ := s2.set k8 hp' ob
      refine ⟨v, w, rfl, q _ H1 J1 F3 s3 (tr1.trans (Tr.sub fun b hb => ?_))⟩
      rcases List.mem_append.mp (hF3 b hb) with z | z
      · rcases List.mem_append.mp (hF2 b z) with z | z
        · exact List.mem_append_left _ z
        · exact List.mem_append_right _ (List.mem_append_left _ z)
      · exact List.mem_append_right _ (List.mem_append_right _ z)
    · cases k2

/-! ### while -/
def gWhile : Nat → M Bool → M Fl → M Fl
  | 0, _, _ => bad
  | n + 1, c, b => bnd c fun t => if t then bnd b fun fl => match fl with
    | .nx => gWhile n c b
    | .ct => gWhile n c b
    | .bk => ret .nx
    | .rt t => ret (.rt t) else ret .nx
theorem is_while {n : Nat} {f : M T} {g : M Fl} {body : List Stmt} (hp : PassesOwn (model X.prog X.w) X.A X.env X.xe) (hc : IE X pn c f) (hn : notIf c = true) (hb : PSs X body (rdS X.K pn g)) : PS X (.While c body [] pos) (rdS X.K pn (gWhile n (tst f) g)) :=
  PS.weak (ps_while hp (hc.pt hn) hb) fun D σ H ⟨e, J, F, s, fl, e', h, q⟩ => by
    refine ⟨fun m σ1 H1 => ∃ e1 J1 F1, SR X.K pn σ1 H1 e1 J1 F1 ∧ Tr J H F J1 H1 F1 ∧ gWhile m (tst f) g e1 = .ok fl e', ⟨n, e, J, F, s, .refl, h⟩, fun m σ1 H1 hW => ?_⟩
    obtain ⟨e1, J1, F1, s1, tr1, h1⟩ := hW
    cases m with
    | zero => cases h1
    | succ m =>
      obtain ⟨t, e2, k1, k2⟩ := bnd_ok h1
      refine ⟨e1, J1, F1, s1, t, e2, k1, fun H2 J2 F2 s2 tr2 => ?_⟩
      cases t with
      | false =>
        rw [if_neg Bool.false_ne_true] at k2 ⊢
        cases k2
        exact q σ1 H2 J2 F2 s2 (tr1.trans tr2)
      | true =>
        rw [if_pos rfl] at k2 ⊢
        obtain ⟨x, e3, k3, k4⟩ := bnd_ok k2
        refine ⟨fun σ' H' => ∃ m', m' < m + 1 ∧ ∃ e1 J1 F1, SR X.K pn σ' H' e1 J1 F1 ∧ Tr J H F J1 H' F1 ∧ gWhile m' (tst f) g e1 = .ok fl e', fun σ' H' ⟨m', hm, e4, J4, F4, s4, tr4, h4⟩ => ⟨m', hm, e4, J4, F4, s4, tr4, h4⟩, ?_⟩
        refine ⟨e2, J2, F2, s2, x, e3, k3, ?_⟩
        cases x with
        | nx => exact fun σ' H' J' F' s' tr' => ⟨m, Nat.lt_succ_self m, e3, J', F', s', (tr1.trans tr2).trans tr', k4⟩
        | ct => exact fun σ' H' J' F' s' tr' => ⟨m, Nat.lt_succ_self m, e3, J', F', s', (tr1.trans tr2).trans tr', k4⟩
        | bk => cases k4; exact fun σ' H' J' F' s' tr' => q σ' H' J' F' s' ((tr1.trans tr2).trans tr')
        | rt t => cases k4; exact fun v σ' H' J' F' fp s' o tr' => q v σ' H' J' F' fp s' o ((tr1.trans tr2).trans tr')

/-! ### what is walked -/
structure WD (K : PySem.W.Frag) (Jt : It) (ds : List D) (J0 : Addr → Prop) (H0 : Hp) : Prop where
  go : ∀ (i : Nat) (J : Addr → Prop) (H : Hp), (∀ b, J0 b → J b) → (∀ b o, J0 b → H0 b = some o → H b = some o) → i < ds.length → Jt.go i H
  stop : ∀ (J : Addr → Prop) (H : Hp), (∀ b, J0 b → J b) → (∀ b o, J0 b → H0 b = some o → H b = some o) → Jt.stop ds.length H
  yld : ∀ (i : Nat) (J : Addr → Prop) (H : Hp) (x : V) (H' : Hp), (∀ b, J0 b → J b) → (∀ b o, J0 b → H0 b = some o → H b = some o) → (∀ b, J b → H b ≠ none) → Jt.yld i H x H' → ∀ d, ds[i]? = some d → ∃ J', New K J H J' H' x (.leaf d) []
def rdI (K : PySem.W.Frag) (pn : List (Nat × V)) (f : M (List D)) : TI := fun σ H R => ∃ e J F, SR K pn σ H e J F ∧ ∃ ds e', f e = .ok ds e' ∧ ∀ Jt H' J' F', SR K pn σ H' e' J' F' → Tr J H F J' H' F' → WD K Jt ds J' H' → R Jt H'
theorem PI.weak {tg e : Expr} {t t' : TI} (h : PI X tg e t) (w : ∀ (σ : L2.St) (H : Hp) (R : It → Hp → Prop), t' σ H R → t σ H R) : PI X tg e t' := ⟨fun pins s σ H R I q => h.run pins s σ H R I (w σ H R q)⟩
theorem PI.or {tg e : Expr} {t t' : TI} (h : PI X tg e t) (h' : PI X tg e t') : PI X tg e (fun σ H R => t σ H R ∨ t' σ H R) := ⟨fun pins s σ H R I q => by
  rcases q with q | q
  · exact h.run pins s σ H R I q
  · exact h'.run pins s σ H R I q⟩
def gFor (bd : D → M Unit) (b : M Fl) : List D → M Fl
  | [] => ret .nx
  | d :: ds => bnd (bd d) fun _ => bnd b fun fl => match fl with
    | .nx => gFor bd b ds
    | .ct => gFor bd b ds
    | .bk => ret .nx
    | .rt t => ret (.rt t)
theorem Tr.later {J J' : Addr → Prop} {H H' : Hp} {F F' : List Addr} (tr : Tr J H F J' H' F') (jf : ∀ a ∈ F, ¬ J a) : (∀ b, J b → J' b) ∧ (∀ b o, J b → H b = some o → H' b = some o) := ⟨tr.jj, fun b o j e => tr.keep b o e fun z => jf b z j⟩
theorem is_for {ws : List Nat} {tg iter : Expr} {body : List Stmt} {f : M (List D)} {bd : D → M Unit} {g : M Fl} (hp : PassesOwn (model X.prog X.w) X.A X.env X.xe) (hc : X.calm = true) (hi : PI X tg iter (rdI X.K pn f)) (hg : PG X tg (rdG X.K pn ws bd)) (hb : PSs X body (rdS X.K pn g))
    (hs : ∀ x, foldedSetIterable iter X.env x = pure x) : PS X (.For tg iter body [] pos) (rdS X.K pn (bnd f (gFor bd g))) :=
  PS.weak (ps_for hp hc hi hg hb hs) fun D σ H ⟨e, J, F, s, fl, e', h, q⟩ => by
    obtain ⟨ds, e1, h1, h2⟩ := bnd_ok h
    refine ⟨e, J, F, s, ds, e1, h1, fun Jt H1 J1 F1 s1 tr1 wd => ?_⟩
    refine ⟨fun i m σ2 H2 => m = ds.length - i ∧ i ≤ ds.length ∧ ∃ e2 J2 F2, SR X.K pn σ2 H2 e2 J2 F2 ∧ Tr J1 H1 F1 J2 H2 F2 ∧ gFor bd g (ds.drop i) e2 = .ok fl e', ⟨ds.length, by simp, Nat.zero_le _, e1, J1, F1, s1, .refl, by simpa using h2⟩, ?_⟩
    rintro i m σ2 H2 ⟨rfl, hle, e2, J2, F2, s2, tr2, h3⟩
    obtain ⟨l1, l2⟩ := tr2.later s1.jf
    by_cases hi : i < ds.length
    · refine .inr ⟨wd.go i J2 H2 l1 l2 hi, fun σ' H' => ∃ e2 J2 F2, SR X.K pn σ' H' e2 J2 F2 ∧ Tr J1 H1 F1 J2 H' F2 ∧ gFor bd g (ds.drop (i + 1)) e2 = .ok fl e', fun σ' H' hN => ⟨ds.length - (i + 1), by omega, rfl, hi, hN⟩, fun x H' hy => ?_⟩
      obtain ⟨J', n⟩ := wd.yld i J2 H2 x H' l1 l2 s2.jd hy ds[i] (by simp [hi])
      obtain ⟨s3, o3, tr3⟩ := n.sr s2
      have hd : ds.drop i = ds[i] :: ds.drop (i + 1) := List.drop_eq_getElem_cons hi
      rw [hd] at h3
      obtain ⟨_, e3, k1, k2⟩ := bnd_ok h3
      obtain ⟨y, e4, k3, k4⟩ := bnd_ok k2
      simp only [List.append_nil] at tr3
      have r3 : RD X.K J' H' x ds[i] := by
        cases o3.rt with
        | leaf r => exact r
      refine ⟨e2, J', F2, ds[i], s3, r3, e3, k1, fun σ4 H4 J4 F4 s4 tr4 _ => ?_⟩
      have tr24 := (tr2.trans tr3).trans tr4
      refine ⟨e3, J4, F4, s4, y, e4, k3, ?_⟩
      cases y with
      | nx => exact fun σ' H' J' F' s' tr' => ⟨e4, J', F', s', tr24.trans tr', k4⟩
      | ct => exact fun σ' H' J' F' s' tr' => ⟨e4, J', F', s', tr24.trans tr', k4⟩
      | bk => cases k4; exact fun σ' H' J' F' s' tr' => q σ' H' J' F' s' (tr1.trans (tr24.trans tr'))
      | rt t => cases k4; exact fun v σ' H' J' F' fp s' o tr' => q v σ' H' J' F' fp s' o (tr1.trans (tr24.trans tr'))
    · have e0 : i = ds.length := by omega
      subst e0
      rw [List.drop_length] at h3
      cases h3
      exact .inl ⟨wd.stop J2 H2 l1 l2, q σ2 H2 J2 F2 s2 (tr1.trans tr2)⟩
end
end IL

namespace IL
open PySem PySem.Spec PyProof.Rows L2
section
variable {K : PySem.W.Frag}
theorem new_pair {J : Addr → Prop} {H : Hp} {x y : V} {d1 d2 : D} {p : Addr} (r1 : RD K J H x d1) (r2 : RD K J H y d2) (jd : ∀ b, J b → H b ≠ none) (hp : H p = none) : ∃ J', New K J H J' (upd H p (.tup [x, y])) (.ref p) (.leaf (.tuple [d1, d2])) [] :=
  ⟨_, New.tuple (.cons r1 (.cons r2 .nil)) jd hp⟩
/-- what a Walk gives -/
theorem WD.of {Jt : It} {ds : List D} {J0 : Addr → Prop} {H0 : Hp} {G : Hp → Prop} {Y : Nat → Hp → V → Hp → Prop} (w : Walk Jt ds.length G Y)
    (hG : ∀ (J : Addr → Prop) (H : Hp), (∀ b, J0 b → J b) → (∀ b o, J0 b → H0 b = some o → H b = some o) → G H)
    (hY : ∀ (i : Nat) (J : Addr → Prop) (H : Hp) (x : V) (H' : Hp), (∀ b, J0 b → J b) → (∀ b o, J0 b → H0 b = some o → H b = some o) → (∀ b, J b → H b ≠ none) → Y i H x H' → ∀ d, ds[i]? = some d → ∃ J', New K J H J' H' x (.leaf d) []) : WD K Jt ds J0 H0 :=
  ⟨fun i J H h1 h2 hi => w.goes i H hi (hG J H h1 h2), fun J H h1 h2 => w.stops H (hG J H h1 h2), fun i J H x H' h1 h2 jd hy d hd => hY i J H x H' h1 h2 jd (w.yields i H x H' (List.getElem?_eq_some_iff.mp hd).1 (hG J H h1 h2) hy) d hd⟩
theorem wd_list {a : Addr} {xs : List V} {ds : List D} {J0 : Addr → Prop} {H0 : Hp} (j : J0 a) (p : H0 a = some (.lst xs)) (r : RDs K J0 H0 xs ds) : WD K (Itl K a) ds J0 H0 := by
  refine WD.of (G := fun H => SqL K H a xs) (Y := YAt xs) (by rw [← r.length]; exact walk_list) (fun J H h1 h2 => .inl (.inl (h2 _ _ j p))) fun i J H x H' h1 h2 jd hy d hd => ?_
  obtain ⟨rfl, hx⟩ := hy
  obtain ⟨y, hy, ry⟩ := (r.mono h1 h2).get hd
  rw [hx] at hy
  cases hy
  exact ⟨J, New.same ry jd⟩
theorem wd_tup {a : Addr} {xs : List V} {ds : List D} {J0 : Addr → Prop} {H0 : Hp} (p : PT2 K J0 H0 a xs) (r : RDs K J0 H0 xs ds) : WD K (Itt K a) ds J0 H0 := by
  refine WD.of (G := fun H => SqT K H a xs) (Y := YAt xs) (by rw [← r.length]; exact walk_tup) (fun J H h1 h2 => (p.mono h1 h2).sq) fun i J H x H' h1 h2 jd hy d hd => ?_
  obtain ⟨rfl, hx⟩ := hy
  obtain ⟨y, hy, ry⟩ := (r.mono h1 h2).get hd
  rw [hx] at hy
  cases hy
  exact ⟨J, New.same ry jd⟩
def signs (z : Str) : List D := z.cps.toList.map fun c => .str ⟨#[c]⟩
theorem wd_str {z : Str} {J0 : Addr → Prop} {H0 : Hp} : WD K (Its z) (signs z) J0 H0 := by
  have hl : (signs z).length = z.cps.size := by simp [signs]
  refine WD.of (G := fun _ => True) (Y := fun i H v H' => H' = H ∧ ∃ c, z.cps[i]? = some c ∧ v = .str ⟨#[c]⟩) (by rw [hl]; exact walk_str) (fun _ _ _ _ => trivial) fun i J H x H' h1 h2 jd hy d hd => ?_
  obtain ⟨rfl, c, hc, rfl⟩ := hy
  have e : d = .str ⟨#[c]⟩ := by
    unfold signs at hd
    rw [List.getElem?_map, Array.getElem?_toList, hc] at hd
    exact (Option.some.inj hd).symm
  subst e
  exact ⟨J, New.same (.str _) jd⟩
def rangeL (lo : Int) (n : Nat) : List D := (List.range n).map fun i => .int (lo + (i : Nat))
theorem wd_range {lo : Int} {n : Nat} {J0 : Addr → Prop} {H0 : Hp} : WD K (Itr lo n) (rangeL lo n) J0 H0 := by
  have hl : (rangeL lo n).length = n := by simp [rangeL]
  refine WD.of (G := fun _ => True) (Y := YFn fun i => .int (lo + i)) (by rw [hl]; exact walk_range) (fun _ _ _ _ => trivial) fun i J H x H' h1 h2 jd hy d hd => ?_
  obtain ⟨rfl, rfl⟩ := hy
  have hi : i < n := by rw [← hl]; exact (List.getElem?_eq_some_iff.mp hd).1
  have e : d = .int (lo + (i : Nat)) := by
    unfold rangeL at hd
    rw [List.getElem?_map, List.getElem?_range hi] at hd
    exact (Option.some.inj hd).symm
  subst e
  exact ⟨J, New.same (.int _) jd⟩
def zipL : List D → List D → List D
  | x :: xs, y :: ys => .tuple [x, y] :: zipL xs ys
  | _, _ => []
theorem zipL_len : ∀ (xs ys : List D), (zipL xs ys).length = min xs.length ys.length
  | [], _ => by simp [zipL]
  | _ :: _, [] => by simp [zipL]
  | x :: xs, y :: ys => by simp [zipL, zipL_len xs ys]
theorem zipL_get : ∀ (xs ys : List D) (i : Nat) (d : D), (zipL xs ys)[i]? = some d → ∃ x y, xs[i]? = some x ∧ ys[i]? = some y ∧ d = .tuple [x, y]
  | [], _, _, _, h => by simp [zipL] at h
  | _ :: _, [], _, _, h => by simp [zipL] at h
  | x :: xs, y :: ys, 0, d, h => by simp [zipL] at h; exact ⟨x, y, by simp, by simp, h.symm⟩
  | x :: xs, y :: ys, i + 1, d, h => by
    obtain ⟨a, b, h1, h2, h3⟩ := zipL_get xs ys i d (by simpa [zipL] using h)
    exact ⟨a, b, by simpa using h1, by simpa using h2, h3⟩
theorem wd_zip {a b : Addr} {xs ys : List V} {ds es : List D} {J0 : Addr → Prop} {H0 : Hp} (j : J0 a) (p : H0 a = some (.lst xs)) (r : RDs K J0 H0 xs ds) (j' : J0 b) (p' : H0 b = some (.lst ys)) (r' : RDs K J0 H0 ys es) : WD K (Itz K a b) (zipL ds es) J0 H0 := by
  refine WD.of (G := fun H => SqL K H a xs ∧ SqL K H b ys) (Y := YPair (fun i => xs[i]?) (fun i => ys[i]?)) (walk_zip (by rw [zipL_len, r.length, r'.length])) (fun J H h1 h2 => ⟨.inl (.inl (h2 _ _ j p)), .inl (.inl (h2 _ _ j' p'))⟩) fun i J H x H' h1 h2 jd hy d hd => ?_
  obtain ⟨T, x1, y1, rfl, nT, rfl, hx, hy⟩ := hy
  obtain ⟨d1, d2, e1, e2, rfl⟩ := zipL_get _ _ _ _ hd
  obtain ⟨v1, hv1, rv1⟩ := (r.mono h1 h2).get e1
  obtain ⟨v2, hv2, rv2⟩ := (r'.mono h1 h2).get e2
  cases (show xs[i]? = some x1 from hx).symm.trans hv1
  cases (show ys[i]? = some y1 from hy).symm.trans hv2
  exact new_pair rv1 rv2 jd nT
def enumL (n : Nat) : List D → List D
  | [] => []
  | x :: xs => .tuple [.int (n : Nat), x] :: enumL (n + 1) xs
theorem enumL_len : ∀ (xs : List D) (n : Nat), (enumL n xs).length = xs.length
  | [], _ => rfl
  | x :: xs, n => by simp [enumL, enumL_len xs]
theorem enumL_get : ∀ (xs : List D) (n i : Nat) (d : D), (enumL n xs)[i]? = some d → ∃ x, xs[i]? = some x ∧ d = .tuple [.int ((n + i : Nat)), x]
  | [], _, _, _, h => by simp [enumL] at h
  | x :: xs, n, 0, d, h => by simp [enumL] at h; exact ⟨x, by simp, h.symm⟩
  | x :: xs, n, i + 1, d, h => by
    obtain ⟨a, h1, h3⟩ := enumL_get xs (n + 1) i d (by simpa [enumL] using h)
    exact ⟨a, by simpa using h1, by rw [h3]; congr 3; omega⟩
theorem wd_enum {a : Addr} {xs : List V} {ds : List D} {J0 : Addr → Prop} {H0 : Hp} (j : J0 a) (p : H0 a = some (.lst xs)) (r : RDs K J0 H0 xs ds) : WD K (Ite K a) (enumL 0 ds) J0 H0 := by
  refine WD.of (G := fun H => SqL K H a xs) (Y := YPair (fun i => some (.int (i : Nat))) (fun i => xs[i]?)) (by rw [enumL_len, ← r.length]; exact walk_enum) (fun J H h1 h2 => .inl (.inl (h2 _ _ j p))) fun i J H x H' h1 h2 jd hy d hd => ?_
  obtain ⟨T, x1, y1, rfl, nT, rfl, hx, hy⟩ := hy
  obtain ⟨d2, e2, rfl⟩ := enumL_get _ _ _ _ hd
  obtain ⟨v2, hv2, rv2⟩ := (r.mono h1 h2).get e2
  cases (show xs[i]? = some y1 from hy).symm.trans hv2
  cases hx
  rw [Nat.zero_add]
  exact new_pair (.int _) rv2 jd nT
end
section
variable {X : Cx} {pn : List (Nat × V)} {tg a b c : Expr} {p pos : Pos}
def seqD : D → Option (List D)
  | .list ds => some ds
  | .tuple ds => some ds
  | .str z => some (signs z)
  | _ => none
def gItr (f : M D) : M (List D) := bnd f fun d => opt (seqD d)
theorem ii_seq {f : M D} (h : PE X a (rdD X.K pn f)) : PI X tg a (rdI X.K pn (gItr f)) := by
  refine PI.weak (PI.or (pi_list h) (PI.or (pi_tup h) (pi_str h))) fun σ H R ⟨e, J, F, s, ds, e', h, q⟩ => ?_
  obtain ⟨d, e1, h1, h2⟩ := bnd_ok h
  obtain ⟨h3, rfl⟩ := opt_ok h2
  unfold seqD at h3
  split at h3
  · cases h3
    exact .inl ⟨e, J, F, s, _, _, h1, fun v H1 J1 F1 s1 r1 tr1 => by
      cases r1 with
      | lst j p r => exact ⟨_, rfl, ⟨_, .inl (.inl p)⟩, q _ H1 J1 F1 s1 tr1 (wd_list j p r)⟩⟩
  · cases h3
    exact .inr (.inl ⟨e, J, F, s, _, _, h1, fun v H1 J1 F1 s1 r1 tr1 => by
      cases r1 with
      | tup p r => exact ⟨_, rfl, ⟨_, p.sq⟩, q _ H1 J1 F1 s1 tr1 (wd_tup p r)⟩⟩)
  · cases h3
    exact .inr (.inr ⟨e, J, F, s, _, _, h1, fun v H1 J1 F1 s1 r1 tr1 => by
      cases r1
      exact ⟨_, rfl, q _ H1 J1 F1 s1 tr1 wd_str⟩⟩)
  · cases h3
def far (i : Int) : Bool := decide (-(2 ^ 62) ≤ i ∧ i < 2 ^ 62)
theorem far_of {i : Int} (h : far i = true) : -(2 ^ 62) ≤ i ∧ i < 2 ^ 62 := of_decide_eq_true (p := -(2 ^ 62) ≤ i ∧ i < 2 ^ 62) h
def rng1 : List D → Option (List D)
  | [.int j] => if far j then some (rangeL 0 j.toNat) else none
  | _ => none
def rng2 : List D → Option (List D)
  | [.int i, .int j] => if far i && far j then some (rangeL i (j - i).toNat) else none
  | _ => none
def gRng (g : List D → Option (List D)) (f : M (List D)) : M (List D) := bnd f fun ds => opt (g ds)
theorem ii_rng1 {f : M (List D)} (hg : Gl X "range") (hm : X.mg "range" = none) (h : PA X [a] (rdDs X.K pn f)) (hs : starEach [a] X.env = [(false, eval a X.env)]) : PI X tg (.Call (.Name "range" p) [a] [] pos) (rdI X.K pn (gRng rng1 f)) := by
  refine PI.weak (pi_range1 hg hm h hs) fun σ H R ⟨e, J, F, s, ds, e', h, q⟩ => ?_
  obtain ⟨d, e1, h1, h2⟩ := bnd_ok h
  obtain ⟨h3, rfl⟩ := opt_ok h2
  unfold rng1 at h3
  split at h3
  · split at h3
    · rename_i j hj
      cases h3
      refine ⟨e, J, F, s, _, _, h1, fun v H1 J1 F1 s1 r1 tr1 => ?_⟩
      obtain ⟨w, rfl, r⟩ := r1.one
      cases r
      exact ⟨j, rfl, (far_of hj).1, (far_of hj).2, q _ H1 J1 F1 s1 tr1 wd_range⟩
    · cases h3
  · cases h3
theorem ii_rng2 {f : M (List D)} (hg : Gl X "range") (hm : X.mg "range" = none) (h : PA X [a, b] (rdDs X.K pn f)) (hs : starEach [a, b] X.env = [(false, eval a X.env), (false, eval b X.env)]) (hs2 : starEach [b] X.env = [(false, eval b X.env)]) : PI X tg (.Call (.Name "range" p) [a, b] [] pos) (rdI X.K pn (gRng rng2 f)) := by
  refine PI.weak (pi_range2 hg hm h hs hs2) fun σ H R ⟨e, J, F, s, ds, e', h, q⟩ => ?_
  obtain ⟨d, e1, h1, h2⟩ := bnd_ok h
  obtain ⟨h3, rfl⟩ := opt_ok h2
  unfold rng2 at h3
  split at h3
  · split at h3
    · rename_i i j hj
      cases h3
      simp only [Bool.and_eq_true] at hj
      refine ⟨e, J, F, s, _, _, h1, fun v H1 J1 F1 s1 r1 tr1 => ?_⟩
      obtain ⟨w, w2, rfl, r, r2⟩ := r1.two
      cases r; cases r2
      exact ⟨i, j, rfl, ⟨(far_of hj.1).1, (far_of hj.1).2, (far_of hj.2).1, (far_of hj.2).2⟩, q _ H1 J1 F1 s1 tr1 wd_range⟩
    · cases h3
  · cases h3
def zip2 : List D → Option (List D)
  | [.list xs, .list ys] => some (zipL xs ys)
  | [.tuple xs, .tuple ys] => some (zipL xs ys)
  | _ => none
theorem wd_zipT {K : PySem.W.Frag} {a b : Addr} {xs ys : List V} {ds es : List D} {J0 : Addr → Prop} {H0 : Hp} (p : PT2 K J0 H0 a xs) (r : RDs K J0 H0 xs ds) (p' : PT2 K J0 H0 b ys) (r' : RDs K J0 H0 ys es) : WD K (RZ.ItzT K a b) (zipL ds es) J0 H0 := by
  refine ⟨fun i J H h1 h2 hi => ?_, fun J H h1 h2 => ?_, fun i J H x H' h1 h2 jd hy d hd => ?_⟩
  · rw [zipL_len, ← r.length, ← r'.length] at hi
    have ha : i < xs.length := by omega
    have hb : i < ys.length := by omega
    exact ⟨xs, ys, xs[i], ys[i], (p.mono h1 h2).sq, (p'.mono h1 h2).sq, by simp [ha], by simp [hb]⟩
  · refine ⟨xs, ys, (p.mono h1 h2).sq, (p'.mono h1 h2).sq, ?_⟩
    rw [zipL_len, ← r.length, ← r'.length]
    omega
  · obtain ⟨T, x1, y1, rfl, nT, rfl, hx, hy⟩ := hy
    obtain ⟨d1, d2, e1, e2, rfl⟩ := zipL_get _ _ _ _ hd
    obtain ⟨v1, hv1, rv1⟩ := (r.mono h1 h2).get e1
    obtain ⟨v2, hv2, rv2⟩ := (r'.mono h1 h2).get e2
    cases (hx _ (p.mono h1 h2).sq).symm.trans hv1
    cases (hy _ (p'.mono h1 h2).sq).symm.trans hv2
    exact new_pair rv1 rv2 jd nT
theorem ii_zip {f : M (List D)} {elts : List Expr} {kk : Nat} {tpos : Pos} (hg : Gl X "zip") (hm : X.mg "zip" = none) (h : PA X [a, b] (rdDs X.K pn f)) (hs : starEach [a, b] X.env = [(false, eval a X.env), (false, eval b X.env)]) (hs2 : starEach [b] X.env = [(false, eval b X.env)]) :
    PI X (.Tuple elts kk tpos) (.Call (.Name "zip" p) [a, b] [] pos) (rdI X.K pn (gRng zip2 f)) := by
  have hs1 : starEach [a, b] X.env = (false, eval a X.env) :: starEach [b] X.env := by rw [hs, hs2]
  refine PI.weak (RZ.pi_zipA hg hm h hs1 (by rw [hs2]; rfl)) fun σ H R ⟨e, J, F, s, ds, e', h, q⟩ => ?_
  obtain ⟨d, e1, h1, h2⟩ := bnd_ok h
  obtain ⟨h3, rfl⟩ := opt_ok h2
  unfold zip2 at h3
  split at h3
  · cases h3
    refine ⟨e, J, F, s, _, _, h1, fun v H1 J1 F1 s1 r1 tr1 => ?_⟩
    obtain ⟨w, w2, rfl, r, r2⟩ := r1.two
    cases r with
    | lst j p r => cases r2 with
      | lst j' p' r' => exact ⟨_, _, _, _, rfl, .inl ⟨.inl (.inl p), .inl (.inl p'), q _ H1 J1 F1 s1 tr1 (wd_zip j p r j' p' r')⟩⟩
  · cases h3
    refine ⟨e, J, F, s, _, _, h1, fun v H1 J1 F1 s1 r1 tr1 => ?_⟩
    obtain ⟨w, w2, rfl, r, r2⟩ := r1.two
    cases r with
    | tup p r => cases r2 with
      | tup p' r' => exact ⟨_, _, _, _, rfl, .inr ⟨p.sq, p'.sq, q _ H1 J1 F1 s1 tr1 (wd_zipT p r p' r')⟩⟩
  · cases h3
def enum1 : List D → Option (List D)
  | [.list xs] => some (enumL 0 xs)
  | _ => none
theorem ii_enum {f : M (List D)} {elts : List Expr} {kk : Nat} {tpos : Pos} (hg : Gl X "enumerate") (hm : X.mg "enumerate" = none) (h : PA X [a] (rdDs X.K pn f)) (hs : starEach [a] X.env = [(false, eval a X.env)]) :
    PI X (.Tuple elts kk tpos) (.Call (.Name "enumerate" p) [a] [] pos) (rdI X.K pn (gRng enum1 f)) := by
  refine PI.weak (pi_enum hg hm h hs) fun σ H R ⟨e, J, F, s, ds, e', h, q⟩ => ?_
  obtain ⟨d, e1, h1, h2⟩ := bnd_ok h
  obtain ⟨h3, rfl⟩ := opt_ok h2
  unfold enum1 at h3
  split at h3
  · cases h3
    refine ⟨e, J, F, s, _, _, h1, fun v H1 J1 F1 s1 r1 tr1 => ?_⟩
    obtain ⟨w, rfl, r⟩ := r1.one
    cases r with
    | lst j p r => exact ⟨_, _, rfl, .inl (.inl p), q _ H1 J1 F1 s1 tr1 (wd_enum j p r)⟩
  · cases h3

/-! ### comprehensions -/
def wipeE (e : En) : List Nat → En
  | [] => e
  | v :: vs => (wipeE e vs).set v none
theorem SR.wipe {K : PySem.W.Frag} {σ : L2.St} {H : Hp} {e : En} {J : Addr → Prop} {F : List Addr} (s : SR K pn σ H e J F) : ∀ (vs : List Nat), (∀ p ∈ pn, p.1 ∉ vs) → ∃ F', SR K pn (L2.wipe σ vs) H (wipeE e vs) J F' ∧ ∀ b ∈ F', b ∈ F
  | [], _ => ⟨F, s, fun _ h => h⟩
  | v :: vs, hp => by
    obtain ⟨F1, s1, h1⟩ := SR.wipe s vs fun p hpp z => hp p hpp (List.mem_cons_of_mem _ z)
    obtain ⟨F2, s2, h2⟩ := s1.clear v none fun p hpp z => hp p hpp (by rw [z]; exact List.mem_cons_self)
    exact ⟨F2, s2, fun b hb => h1 b (h2 b hb)⟩
theorem wipe_get {σ : L2.St} {i : Nat} : ∀ {vs : List Nat}, i ∉ vs → (L2.wipe σ vs)[i]? = σ[i]?
  | [], _ => rfl
  | v :: vs, h => by
    unfold L2.wipe
    rw [List.getElem?_set_ne (fun z => h (by simp [z])), wipe_get fun z => h (List.mem_cons_of_mem _ z)]
theorem wipe_in {σ : L2.St} {i : Nat} : ∀ {vs : List Nat}, i ∈ vs → i < σ.length → (L2.wipe σ vs)[i]? = some none
  | [], h, _ => by cases h
  | v :: vs, h, hl => by
    unfold L2.wipe
    by_cases e : v = i
    · subst e
      rw [List.getElem?_set_self (by rw [wipe_length]; exact hl)]
    · rw [List.getElem?_set_ne e]
      exact wipe_in ((List.mem_cons.mp h).resolve_left fun z => e z.symm) hl
theorem wipe_eq {σ σ' : L2.St} {ws vs : List Nat} (sm : Sm ws (L2.wipe σ vs) σ') (hw : ∀ i ∈ ws, i ∈ vs) : L2.wipe σ' vs = L2.wipe σ vs := by
  have hl : σ'.length = σ.length := by rw [sm.1, wipe_length]
  apply List.ext_getElem?
  intro i
  by_cases hi : i ∈ vs
  · by_cases hlt : i < σ.length
    · rw [wipe_in hi (by rw [hl]; exact hlt), wipe_in hi hlt]
    · rw [List.getElem?_eq_none (by rw [wipe_length]; omega), List.getElem?_eq_none (by rw [wipe_length]; omega)]
  · rw [wipe_get hi, sm.2 i fun z => hi (hw i z)]
theorem RE.unwipe {K : PySem.W.Frag} {J : Addr → Prop} {H : Hp} {F : List Addr} {σ σ' : L2.St} {e : En} (r : RE K J H σ e F) : σ'.length = σ.length → (∀ i : Nat, e[i]? ≠ some none → σ'[i]? = σ[i]?) → RE K J H σ' e F := by
  intro h1 h2
  induction r generalizing σ' with
  | nil =>
    cases σ' with
    | nil => exact .nil
    | cons a l => simp at h1
  | out r ih =>
    cases σ' with
    | nil => simp at h1
    | cons a l => exact .out (ih (by simpa using h1) fun i hi => by have := h2 (i + 1) (by simpa using hi); simpa using this)
  | held q r ih =>
    cases σ' with
    | nil => simp at h1
    | cons a l =>
      have h0 := h2 0 (by simp)
      simp at h0
      subst h0
      exact .held q (ih (by simpa using h1) fun i hi => by have := h2 (i + 1) (by simpa using hi); simpa using this)
theorem wipeE_len (e : En) : ∀ ws : List Nat, (wipeE e ws).length = e.length
  | [] => rfl
  | a :: l => by unfold wipeE; rw [List.length_set, wipeE_len e l]
theorem wipeE_get {e : En} {i : Nat} : ∀ {vs : List Nat}, i ∈ vs → i < e.length → (wipeE e vs)[i]? = some none
  | [], h, _ => by cases h
  | v :: vs, h, hl => by
    unfold wipeE
    by_cases q : v = i
    · subst q
      rw [List.getElem?_set_self (by rw [wipeE_len]; exact hl)]
    · rw [List.getElem?_set_ne q]
      exact wipeE_get ((List.mem_cons.mp h).resolve_left fun z => q z.symm) hl
theorem wipeE_out {e : En} {i : Nat} : ∀ {vs : List Nat}, i ∉ vs → (wipeE e vs)[i]? = e[i]?
  | [], _ => rfl
  | v :: vs, h => by
    unfold wipeE
    rw [List.getElem?_set_ne (fun z => h (by simp [z])), wipeE_out fun z => h (List.mem_cons_of_mem _ z)]
theorem wipeE_idem (e : En) (vs : List Nat) : wipeE (wipeE e vs) vs = wipeE e vs := by
  apply List.ext_getElem?
  intro i
  by_cases hi : i ∈ vs
  · by_cases hlt : i < e.length
    · rw [wipeE_get hi (by rw [wipeE_len]; exact hlt), wipeE_get hi hlt]
    · rw [List.getElem?_eq_none (by rw [wipeE_len, wipeE_len]; omega), List.getElem?_eq_none (by rw [wipeE_len]; omega)]
  · rw [wipeE_out hi]
/-- behind a block: the block's own slots are forgotten, the frame's stand as they did -/
theorem SR.unwipe {K : PySem.W.Frag} {σ : L2.St} {H : Hp} {e : En} {J : Addr → Prop} {F : List Addr} {vs : List Nat} (s : SR K pn (L2.wipe σ vs) H e J F) (hp : ∀ p ∈ pn, p.1 ∉ vs) : ∃ F', SR K pn σ H (wipeE e vs) J F' ∧ ∀ b ∈ F', b ∈ F := by
  obtain ⟨F', s', h⟩ := s.wipe vs hp
  have hl : σ.length = e.length := by
    have := s.re.length
    rw [wipe_length] at this
    exact this
  refine ⟨F', ⟨s'.re.unwipe (by rw [wipe_length, wipe_length]) fun i hi => ?_, s'.nd, s'.jf, s'.jd, fun p hpp => ?_⟩, h⟩
  · by_cases hv : i ∈ vs
    · by_cases hlt : i < e.length
      · exact absurd (wipeE_get hv hlt) hi
      · rw [List.getElem?_eq_none (by omega), List.getElem?_eq_none (by rw [wipe_length, wipe_length]; omega)]
    · rw [wipe_get hv, wipe_get hv]
  · have := s'.pin p hpp
    rwa [wipe_get (hp p hpp), wipe_get (hp p hpp)] at this
def wipeM (vs : List Nat) : M Unit := fun e => .ok () (wipeE e vs)
def gLc (vs : List Nat) (bd : D → M Unit) (tt : M Bool) (el : M D) : List D → List D → M T
  | [], acc => bnd (wipeM vs) fun _ => ret (.lst (acc.map .leaf))
  | d :: ds, acc => bnd (wipeM vs) fun _ => bnd (bd d) fun _ => bnd tt fun b => if b then bnd el fun x => if acc.length < most then gLc vs bd tt el ds (acc ++ [x]) else bad else gLc vs bd tt el ds acc
theorem gLc_wiped (vs : List Nat) (bd : D → M Unit) (tt : M Bool) (el : M D) (rest acc : List D) (e : En) : gLc vs bd tt el rest acc (wipeE e vs) = gLc vs bd tt el rest acc e := by
  cases rest with
  | nil =>
    show Res.ok _ (wipeE (wipeE e vs) vs) = Res.ok _ (wipeE e vs)
    rw [wipeE_idem]
  | cons d ds =>
    unfold gLc
    show bnd (bd d) _ (wipeE (wipeE e vs) vs) = bnd (bd d) _ (wipeE e vs)
    rw [wipeE_idem]
/-- a list aside gets a new item -/
theorem SR.asideSet {K : PySem.W.Frag} {σ : L2.St} {H : Hp} {e : En} {J : Addr → Prop} {F : List Addr} (s : SR K pn σ H e J F) {p : Addr} {u : HO} (hF : p ∉ F) (hJ : ¬ J p) (hd : H p ≠ none) :
    SR K pn σ (upd H p u) e J F ∧ Tr J H (F ++ [p]) J (upd H p u) (F ++ [p]) := by
  have dm : ∀ b, H b ≠ none → upd H p u b ≠ none := fun b q => by
    by_cases hb : b = p
    · subst hb; rw [upd_same]; exact fun z => nomatch z
    · rw [upd_ne hb]; exact q
  refine ⟨s.step (fun _ j => j) (fun b o z q => ?_) (fun b z => dm b (s.jd b z)) s.jf, ⟨fun b o q hb => ?_, dm, fun _ j => j, fun b hb => .inl hb, fun b z => .inl z⟩⟩
  · rw [upd_ne (fun w => by subst w; rcases z with z | z; exact hJ z; exact hF z)]; exact q
  · rw [upd_ne (fun w => hb (by rw [w]; exact List.mem_append_right _ (List.mem_singleton.mpr rfl)))]; exact q
theorem tLc_rd {K : PySem.W.Frag} {ws vs : List Nat} {f : M (List D)} {bd : D → M Unit} {tt : M Bool} {el : M D} (hp : ∀ p ∈ pn, p.1 ∉ vs) (hw : ∀ i ∈ ws, i ∈ vs) {σ : L2.St} {H : Hp} {Q : VK}
    (h : rdE K pn (bnd f fun ds => gLc vs bd tt el ds []) σ H Q) : tLc (rdI K pn f) (rdG K pn ws bd) (rdT K pn tt) (rdD K pn el) vs σ H Q := by
  obtain ⟨e, J, F, s, t, e', h, q⟩ := h
  obtain ⟨ds, e1, h1, h2⟩ := bnd_ok h
  refine ⟨e, J, F, s, ds, e1, h1, fun Jt H1 J1 F1 s1 tr1 wd P hP => ?_⟩
  obtain ⟨s1', trP, nF, nJ⟩ := s1.laid (o := .lst []) hP
  have ndP : ∀ {F2 : List Addr}, F2.Nodup → P ∉ F2 → (F2 ++ [P]).Nodup := fun h1 h2 => List.nodup_append.mpr ⟨h1, by simp, fun x hx y hy z => by simp at hy; subst hy; subst z; exact h2 hx⟩
  obtain ⟨Fw, sw, hFw⟩ := s1'.wipe vs hp
  -- the state between two turns: the frame's slots as they were, but for those of the block
  refine ⟨fun i m H2 => m = ds.length - i ∧ i ≤ ds.length ∧ ∃ e2 J2 F2 acc xs, SR K pn (L2.wipe σ vs) H2 e2 J2 F2 ∧ Tr J1 H1 F1 J2 H2 (F2 ++ [P]) ∧ P ∉ F2 ∧ ¬ J2 P ∧ H2 P = some (.lst xs) ∧ RDs K J2 H2 xs acc ∧ gLc vs bd tt el (ds.drop i) acc e2 = .ok t e',
    ⟨ds.length, by simp, Nat.zero_le _, wipeE e1 vs, J1, Fw, [], [], sw, trP.trans (Tr.sub fun b hb => by
      rcases List.mem_append.mp hb with z | z
      · exact List.mem_append_left _ (hFw b z)
      · exact List.mem_append_right _ z), fun z => nF (hFw _ z), nJ, upd_same, .nil, ?_⟩, ?_⟩
  · rw [gLc_wiped]
    simpa using h2
  · rintro i m H2 ⟨rfl, hle, e2, J2, F2, acc, xs, s2, tr2, nF2, nJ2, hH, rds, h3⟩
    have later : (∀ b, J1 b → J2 b) ∧ (∀ b o, J1 b → H1 b = some o → H2 b = some o) := tr2.later s1.jf
    by_cases hi : i < ds.length
    · refine .inr ⟨wd.go i J2 H2 later.1 later.2 hi, fun H' => ∃ e2 J2 F2 acc xs, SR K pn (L2.wipe σ vs) H' e2 J2 F2 ∧ Tr J1 H1 F1 J2 H' (F2 ++ [P]) ∧ P ∉ F2 ∧ ¬ J2 P ∧ H' P = some (.lst xs) ∧ RDs K J2 H' xs acc ∧ gLc vs bd tt el (ds.drop (i + 1)) acc e2 = .ok t e',
        fun H' hN => ⟨ds.length - (i + 1), by omega, rfl, hi, hN⟩, fun x H' hy => ?_⟩
      obtain ⟨J', n⟩ := wd.yld i J2 H2 x H' later.1 later.2 s2.jd hy ds[i] (by simp [hi])
      obtain ⟨s3, o3, tr3⟩ := n.sr s2
      simp only [List.append_nil] at tr3
      have hd : ds.drop i = ds[i] :: ds.drop (i + 1) := List.drop_eq_getElem_cons hi
      rw [hd] at h3
      unfold gLc at h3
      obtain ⟨_, e3, k1, k2⟩ := bnd_ok h3
      cases k1
      obtain ⟨_, e4, k3, k4⟩ := bnd_ok k2
      obtain ⟨b, e5, k5, k6⟩ := bnd_ok k4
      have r3 : RD K J' H' x ds[i] := by
        cases o3.rt with
        | leaf r => exact r
      -- the list aside, carried along
      have oP : Own K J2 H2 F2 (.ref P) (.lst (acc.map .leaf)) [P] := ⟨.lst hH (RTs.leaves rds), ndP s2.nd nF2, fun a ha => by simp at ha; subst ha; exact nJ2⟩
      obtain ⟨Fw3, sw3, hw3⟩ := s3.wipe vs hp
      have ww2 : L2.wipe (L2.wipe σ vs) vs = L2.wipe σ vs := wipe_eq (ws := []) .refl (fun _ h => nomatch h)
      rw [ww2] at sw3
      have trw : Tr J2 H2 F2 J' H' Fw3 := tr3.trans (Tr.sub hw3)
      refine ⟨wipeE e2 vs, J', Fw3, ds[i], sw3, r3, e4, k3, fun σ4 H4 J4 F4 s4 tr4 sm4 => ⟨wipe_eq sm4 hw, ?_⟩⟩
      refine ⟨e4, J4, F4, s4, b, e5, k5, fun H5 J5 F5 s5 tr5 => ?_⟩
      have back : ∀ {H6 : Hp} {J6 : Addr → Prop} {F6 : List Addr} {e6 : En}, SR K pn σ4 H6 e6 J6 F6 → ∃ F7, SR K pn (L2.wipe σ vs) H6 (wipeE e6 vs) J6 F7 ∧ ∀ b ∈ F7, b ∈ F6 := fun s6 => by
        obtain ⟨F7, s7, h7⟩ := s6.wipe vs hp
        rw [wipe_eq sm4 hw] at s7
        exact ⟨F7, s7, h7⟩
      have tr25 : Tr J2 H2 F2 J5 H5 F5 := (trw.trans tr4).trans tr5
      cases b with
      | false =>
        simp only [Bool.false_eq_true, if_false] at k6 ⊢
        obtain ⟨F7, s7, h7⟩ := back s5
        have o5 := oP.step tr25 s2.jf s5.nd
        obtain ⟨hP5, nP5, nJ5⟩ : H5 P = some (.lst xs) ∧ P ∉ F5 ∧ ¬ J5 P := ⟨tr25.keep P _ hH nF2, not_both o5.nd (List.mem_singleton.mpr rfl), o5.jf _ (List.mem_singleton.mpr rfl)⟩
        refine ⟨wipeE e5 vs, J5, F7, acc, xs, s7, (tr2.trans tr25.aside).trans (Tr.sub fun b hb => ?_), fun z => nP5 (h7 _ z), nJ5, hP5, rds.step tr25 s2.jf, by rw [gLc_wiped]; exact k6⟩
        rcases List.mem_append.mp hb with z | z
        · exact List.mem_append_left _ (h7 b z)
        · exact List.mem_append_right _ z
      | true =>
        simp only [if_true] at k6 ⊢
        obtain ⟨y, e6, k7, k8⟩ := bnd_ok k6
        split at k8
        · rename_i hz
          refine ⟨e5, J5, F5, s5, y, e6, k7, fun w H6 J6 F6 s6 r6 tr6 => ?_⟩
          have tr26 := tr25.trans tr6
          have o6 := oP.step tr26 s2.jf s6.nd
          obtain ⟨hP6, nP6, nJ6⟩ : H6 P = some (.lst xs) ∧ P ∉ F6 ∧ ¬ J6 P := ⟨tr26.keep P _ hH nF2, not_both o6.nd (List.mem_singleton.mpr rfl), o6.jf _ (List.mem_singleton.mpr rfl)⟩
          have rds6 := rds.step tr26 s2.jf
          refine ⟨xs, hP6, by rw [rds6.length]; exact most_lt (Nat.le_of_lt hz), ?_⟩
          obtain ⟨s7, tr7⟩ := s6.asideSet (u := .lst (xs ++ [w])) nP6 nJ6 (by rw [hP6]; exact fun z => nomatch z)
          obtain ⟨F8, s8, h8⟩ := back s7
          have mv : ∀ b o, J6 b → H6 b = some o → upd H6 P (.lst (xs ++ [w])) b = some o := fun b o j q => by rw [upd_ne (show b ≠ P from fun z => by subst z; exact nJ6 j)]; exact q
          refine ⟨wipeE e6 vs, J6, F8, acc ++ [y], xs ++ [w], s8, ((tr2.trans tr26.aside).trans tr7).trans (Tr.sub fun b hb => ?_), fun z => nP6 (h8 _ z), nJ6, upd_same, (rds6.append (.cons r6 .nil)).mono (fun _ j => j) mv, by rw [gLc_wiped]; exact k8⟩
          rcases List.mem_append.mp hb with z | z
          · exact List.mem_append_left _ (h8 b z)
          · exact List.mem_append_right _ z
        · cases k8
    · have e0 : i = ds.length := by omega
      subst e0
      rw [List.drop_length] at h3
      unfold gLc at h3
      obtain ⟨_, e3, k1, k2⟩ := bnd_ok h3
      cases k1
      cases k2
      obtain ⟨F7, s7, h7⟩ := s2.unwipe hp
      refine .inl ⟨wd.stop J2 H2 later.1 later.2, q _ H2 J2 F7 [P] s7 ⟨.lst hH (RTs.leaves rds), ndP s7.nd fun z => nF2 (h7 _ z), fun a ha => by simp at ha; subst ha; exact nJ2⟩ ?_⟩
      refine (tr1.trans tr2).trans (Tr.sub fun b hb => ?_)
      rcases List.mem_append.mp hb with z | z
      · exact List.mem_append_left _ (h7 b z)
      · exact List.mem_append_right _ z
end
end IL

namespace IL
open PySem PySem.Spec PyProof.Rows L2

/-! ### a def's promise where no repr is under way -/
structure FnG (P : Program) (w : World) (K : PySem.W.Frag) (mg : Str → Option Value) (base : Heap) (CX : CXT) (k : Nat) (f : Addr) (fd : FuncData) (ps : List Str) (sp : Sp) : Prop where
  len : ∀ vs H Q E, sp vs H Q E → vs.length = ps.length
  run : ∀ (B : Around) (around : List PySem.Env) (s : Shared) (H : Hp) (args : Args) (us : List Value) (vs : List V) (Q : VK) (E : XK), Room k B → B.guards = some [] → Env0 P w K mg base B around s H → BindsTo s fd args (ps.zip us) → Vals vs us → sp vs H Q E →
    codeAny (model P w) B (.call (.ref f) args) (CR CX around P w H s Q E) s
theorem FnG.mono {P : Program} {w : World} {K : PySem.W.Frag} {mg : Str → Option Value} {base : Heap} {CX : CXT} {j k : Nat} {f : Addr} {fd : FuncData} {ps : List Str} {sp : Sp} (G : FnG P w K mg base CX j f fd ps sp) (h : j ≤ k) :
    FnG P w K mg base CX k f fd ps sp := ⟨G.len, fun B o s H args us vs Q E hr => G.run B o s H args us vs Q E (hr.mono h)⟩
theorem FnG.imp {P : Program} {w : World} {K : PySem.W.Frag} {mg : Str → Option Value} {base : Heap} {CX : CXT} {k : Nat} {f : Addr} {fd : FuncData} {ps : List Str} {sp sp' : Sp} (G : FnG P w K mg base CX k f fd ps sp)
    (h : ∀ vs H Q E, sp' vs H Q E → sp vs H Q E) : FnG P w K mg base CX k f fd ps sp' :=
  ⟨fun vs H Q E q => G.len vs H Q E (h _ _ _ _ q), fun B o s H args us vs Q E hr hg he hb hv hs => G.run B o s H args us vs Q E hr hg he hb hv (h _ _ _ _ hs)⟩
section
variable {X : Cx} {CX : CXT} {k : Nat} {f : Addr} {fd : FuncData} {ps : List Str} {sp : Sp} {dvs : List V} {ds : List Value} {E : XK} {x : Str} {p pos : Pos} {e : Expr} {es : List Expr} {t : TA}
theorem runG {pins : List (Addr × Obj)} {σ : L2.St} {H : Hp} {s : Shared} {Q : VK} {us : List Value} {vs : List V} (G : FnG X.prog X.w X.K X.mg X.base CX k f fd ps sp) (hr : Room k X.A) (hgd : X.A.guards = some []) (hb : Binds X.K fd ps ds) (hd : Vals dvs ds) (hx : Passes CX X E)
    (I : Inv X pins σ H s) (r : Vals vs us) (h : sp (vs ++ dvs) H Q E) : wpAny (model X.prog X.w) X.A (call (.ref f) us) (EP X pins σ Q) X.xe s := by
  have rv : Vals (vs ++ dvs) (us ++ ds) := r.append hd
  have hlen : (us ++ ds).length = ps.length := rv.length.symm.trans (G.len _ _ _ _ h)
  have hc := G.run X.A X.stack s H ⟨us, []⟩ (us ++ ds) (vs ++ dvs) Q E hr hgd I.env0 (hb s us I.kIn hlen) rv h
  refine wpAny_call (codeAny_mono hc fun res s' hq => ?_)
  match res, hq with
  | .error er, hq => exact hx pins σ H s er s' I hq
  | .ok (.ret u), hq => exact I.after hq
  | .ok .next, hq => exact hq.elim
  | .ok .brk, hq => exact hq.elim
  | .ok .cont, hq => exact hq.elim
theorem pe_callG (G : FnG X.prog X.w X.K X.mg X.base CX k f fd ps sp) (hr : Room k X.A) (hgd : X.A.guards = some []) (hg : Gl X x) (hm : X.mg x = some (.ref f)) (hk : PySem.W.keepIn X.K (.ref f) = true) (hb : Binds X.K fd ps ds) (hd : Vals dvs ds) (hx : Passes CX X E)
    (ha : PA X (e :: es) t) (hdb : (x == ("__debug__" : Str)) = false) (he : starEach (e :: es) X.env = (false, eval e X.env) :: starEach es X.env) (hpl : (backTo pos (starEach es X.env)).any (·.1) = false) :
    PE X (.Call (.Name x p) (e :: es) [] pos) (tCall sp dvs E t) := by
  refine ⟨fun pins s σ H Q I h => wpAny_Call_Name_kw (ld_glob I hg hm ?_ hdb)⟩
  refine PySem.W.callWith_K (h₀ := X.base) I.ok.mod.kin hk ?_ he hpl
  refine thn (ha.run pos pins s σ H _ I h) ?_
  rintro us s1 ⟨vs, H1, I1, r, q⟩
  exact ⟨I1.kIn, runG G hr hgd hb hd hx I1 r q⟩
theorem pe_callG0 (G : FnG X.prog X.w X.K X.mg X.base CX k f fd ps sp) (hr : Room k X.A) (hgd : X.A.guards = some []) (hg : Gl X x) (hm : X.mg x = some (.ref f)) (hk : PySem.W.keepIn X.K (.ref f) = true) (hb : Binds X.K fd ps ds) (hd : Vals dvs ds) (hx : Passes CX X E)
    (hdb : (x == ("__debug__" : Str)) = false) : PE X (.Call (.Name x p) [] [] pos) (tCall sp dvs E tNil) := by
  refine ⟨fun pins s σ H Q I h => wpAny_Call_Name_kw (ld_glob I hg hm ?_ hdb)⟩
  exact PySem.W.callWith_K0 I.kIn hk (runG (us := []) G hr hgd hb hd hx I .nil h)
end
/-- a def by its body -/
theorem fnG_of {CX : CXT} {P : Program} {w : World} {K : PySem.W.Frag} {mg : Str → Option Value} {base : Heap} {k : Nat} {f : Addr} {x qual : Str} {st : Stmt} {fd : FuncData} {N ps : List Str} {sp : Sp}
    (F : Fun K x qual st f fd) (S : FnScope N ps (defScope st)) (len : ∀ vs H Q E, sp vs H Q E → vs.length = ps.length)
    (hbody : ∀ (cdv : Value) (B : Around) (around : List PySem.Env) (s : Shared) (H : Hp) (vs : List V) (Q : VK) (E : XK), Room k (B.deeper (envOfC qual (defScope st) s.heap.objs.size f cdv)) → (B.deeper (envOfC qual (defScope st) s.heap.objs.size f cdv)).guards = some [] → sp vs H Q E →
      ∃ t, PSs (cxOf CX P w K mg base N qual (defScope st) f cdv B around s H E) (defBody st) t ∧ t { nx := fun _ H' => Q .non H', rt := Q } (start N vs) H) : FnG P w K mg base CX (k + 1) f fd ps sp := by
  obtain ⟨oc, od, kV, doc, pm, an, cdv, ct, osl, hfd, lk, hcd⟩ := F.ex
  subst hfd
  refine ⟨len, ?_⟩
  intro B around s H args us vs Q E room gd e0 bd rv want
  have hlen := len _ _ _ _ want
  have KX : K.In s.heap := e0.mod.kin.keeps fun b o e => (e0.bs b o e).1
  have lim : s.heap.NoLimit := e0.mod.nolimit.keeps fun b o e => (e0.bs b o e).1
  have kinds : ∀ y ∈ ps.zip us, (defScope st).names.lookup y.1 = some .local ∨ ((defScope st).names.lookup y.1 = some .cell ∧ ((cellsFrom (s.heap.objs.size + 1) (defScope st).names []).lookup y.1).isSome = true) := by
    rintro ⟨n, v⟩ hy
    rcases S.par n (List.of_mem_zip hy).1 with q | q
    · exact Or.inl q
    · exact Or.inr ⟨q, PySem.W.cellsFrom_some _ _ _ (Or.inl q)⟩
  refine codeAny_call_function room.depth (KX _ _ lk) rfl S.co S.gen rfl (PySem.W.codeRec_of KX hcd) (bd _ _ _ _ ?_)
  refine wpAny_newFunctionEnv_cells S.kind kinds ?_
  rintro env rfl s1 entered
  refine ⟨lim.keeps entered.toInCall.keep, codeAny_func ?_⟩
  obtain ⟨t, ht, hq⟩ := hbody cdv B around s H vs Q E (room.deeper _) gd want
  have I0 : Inv (cxOf CX P w K mg base N qual (defScope st) f cdv B around s H E) [] (start N vs) H s1 := inv_start S room.hd e0 hlen rv entered
  have leave : ∀ {s' : Shared} {σ' : L2.St} {H' : Hp} {v : V} {u : Value}, Inv (cxOf CX P w K mg base N qual (defScope st) f cdv B around s H E) [] σ' H' s' → RelV v u → Q v H' → CE around P w H s Q u s' :=
    fun {s' σ' H' v u} J ru q => ⟨v, H', J.os, J.bare, J.base, J.hok, ru, q⟩
  refine wpAny_mono (ht.run [] s1 (start N vs) H _ I0 hq) ?_ fun er s' hs => hs
  rintro fl s' hs
  match fl, hs with
  | .ret u, ⟨v, σ', H', J, ru, q⟩ => exact leave J ru q
  | .next, ⟨σ', H', J, q⟩ => exact leave (v := V.non) (u := Value.none) J rfl q
  | .brk, ⟨_, _, _, q⟩ => exact q.elim
  | .cont, ⟨_, _, _, q⟩ => exact q.elim

/-! ### what a def tells, as a function of trees -/
abbrev FSem := List T → Option (T × List (Option T))
def maskN (L : List Nat) : Nat → List (Option T) → List (Option T)
  | _, [] => []
  | k, o :: r => (if k ∈ L then o else none) :: maskN L (k + 1) r
def spG (K : PySem.W.Frag) (n : Nat) (L : List Nat) (F : FSem) : Sp := fun vs H Q _ => vs.length = n ∧ ∃ J fp ts, SR K [] (vs.map some) H (ts.map some) J fp ∧ ∃ t outs, F ts = some (t, outs) ∧
  ∀ v H' J' fp' fpv, SR K [] (vs.map some) H' (maskN L 0 outs) J' fp' → Own K J' H' fp' v t fpv → Tr J H fp J' H' (fp' ++ fpv) → Q v H'
/-- weaker: another function that tells the same where it tells -/
theorem spG.imp {K : PySem.W.Frag} {n : Nat} {L : List Nat} {F F' : FSem} (h : ∀ ts r, ts.length = n → F' ts = some r → F ts = some r) : ∀ vs H Q E, spG K n L F' vs H Q E → spG K n L F vs H Q E := by
  rintro vs H Q E ⟨hl, J, fp, ts, s, t, outs, hF, q⟩
  refine ⟨hl, J, fp, ts, s, t, outs, h ts _ ?_ hF, q⟩
  have := s.re.length
  simp at this
  omega
/-! ### arguments: lent or given -/
def rdAs (K : PySem.W.Frag) (pn : List (Nat × V)) (ls : List (Option Nat)) (f : M (List T)) : TA := fun σ H Q => ∃ e J F, SR K pn σ H e J F ∧ ∃ t e', f e = .ok t e' ∧ ∀ v H' J' F' fp, SR K pn σ H' e' J' F' → Owns K J' H' F' v t fp → Tr J H F J' H' (F' ++ fp) →
  (∀ (j i : Nat), ls[j]? = some (some i) → ∃ w, v[j]? = some w ∧ σ[i]? = some (some w)) → Q v H'
def gTake (i : Nat) : M T := fun e => match e[i]? with
  | some (some t) => .ok t (e.set i none)
  | _ => .bad
section
variable {X : Cx} {pn : List (Nat × V)} {a b c : Expr} {pos : Pos} {es : List Expr}
theorem al_nil : PA X [] (rdAs X.K pn [] (ret [])) := PA.weak pa_nil' fun σ H Q ⟨e, J, F, s, t, e', h, q⟩ => ⟨e, J, F, s, t, e', h, fun v H' J' F' fp s' o tr => q v H' J' F' fp s' o tr fun j i h => by simp at h⟩
/-- two own things beside F -/
theorem own_join {K : PySem.W.Frag} {J J1 : Addr → Prop} {H H1 : Hp} {F F1 : List Addr} {v : V} {vs : List V} {t : T} {ts : List T} {f g : List Addr} (o1 : Own K J H F v t f) (jf : ∀ a ∈ F, ¬ J a) (tr : Tr J H F J1 H1 (F1 ++ g)) (o2 : Owns K J1 H1 F1 vs ts g) (nd : F1.Nodup) : Owns K J1 H1 F1 (v :: vs) (t :: ts) (f ++ g) := by
  have o1' := o1.step (F' := F1) ⟨tr.keep, tr.dom, tr.jj, fun b hb => tr.fnew b (List.mem_append_left _ hb), tr.jnew⟩ jf nd
  refine ⟨.cons o1'.rt o2.rt, ?_, fun b hb => ?_⟩
  · have n1 := o1'.nd
    have n2 := o2.nd
    rw [List.nodup_append] at n1 n2 ⊢
    refine ⟨n2.1, List.nodup_append.mpr ⟨n1.2.1, n2.2.1, fun x hx y hy z => ?_⟩, fun x hx y hy z => ?_⟩
    · subst z
      rcases tr.fnew x (List.mem_append_right _ hy) with z | z
      · exact not_both o1.nd hx z
      · exact RT.dom o1.rt x hx z
    · rcases List.mem_append.mp hy with hy | hy
      · exact n1.2.2 x hx y hy z
      · exact n2.2.2 x hx y hy z
  · rcases List.mem_append.mp hb with hb | hb
    · exact o1'.jf b hb
    · exact o2.jf b hb
theorem tr_join {J J1 J2 : Addr → Prop} {H H1 H2 : Hp} {F F1 F2 f g : List Addr} (a : Tr J H F J1 H1 (F1 ++ f)) (b : Tr J1 H1 F1 J2 H2 (F2 ++ g)) : Tr J H F J2 H2 (F2 ++ (f ++ g)) := by
  have h := a.trans (b.aside (G := f))
  refine h.trans (Tr.sub fun c hc => ?_)
  simp only [List.mem_append] at hc ⊢
  rcases hc with z | z | z
  · exact .inl (.inl z)
  · exact .inr z
  · exact .inl (.inr z)
theorem al_val {ls : List (Option Nat)} {f : M T} {g : M (List T)} (ha : PE X a (rdE X.K pn f)) (hn : nstar a = true) (hb : PA X es (rdAs X.K pn ls g)) : PA X (a :: es) (rdAs X.K pn (none :: ls) (consM f g)) :=
  PA.weak (pa_cons ha hb (star_of hn es X.env)) fun σ H Q ⟨e, J, F, s, t, e', h, q⟩ => by
    obtain ⟨x, e1, h1, h2⟩ := bnd_ok h
    obtain ⟨xs, e2, h3, h4⟩ := bnd_ok h2
    cases h4
    refine ⟨e, J, F, s, x, e1, h1, fun v H1 J1 F1 fp1 s1 o1 tr1 => ?_⟩
    refine ⟨e1, J1, F1, s1, xs, _, h3, fun vs H2 J2 F2 fp2 s2 o2 tr2 hl => ?_⟩
    refine q (v :: vs) H2 J2 F2 (fp1 ++ fp2) s2 (own_join o1 s1.jf tr2 o2 s2.nd) (tr_join tr1 tr2) fun j i hj => ?_
    cases j with
    | zero => simp at hj
    | succ j =>
      obtain ⟨w, k1, k2⟩ := hl j i (by simpa using hj)
      exact ⟨w, by simpa using k1, k2⟩
theorem al_lend {ls : List (Option Nat)} {i : Nat} {g : M (List T)} (ha : PE X a (tVar i)) (hn : nstar a = true) (hb : PA X es (rdAs X.K pn ls g)) : PA X (a :: es) (rdAs X.K pn (some i :: ls) (consM (gTake i) g)) :=
  PA.weak (pa_cons ha hb (star_of hn es X.env)) fun σ H Q ⟨e, J, F, s, t, e', h, q⟩ => by
    obtain ⟨x, e1, h1, h2⟩ := bnd_ok h
    obtain ⟨xs, e2, h3, h4⟩ := bnd_ok h2
    cases h4
    unfold gTake at h1
    split at h1
    · rename_i t0 h0
      cases h1
      obtain ⟨v, fp1, F1, hv, o1, s1, pm⟩ := s.take h0
      have tr1 : Tr J H F J H (F1 ++ fp1) := Tr.sub fun b hb => pm.mem_iff.mpr hb
      refine ⟨v, hv, _, J, F1, s1, xs, _, h3, fun vs H2 J2 F2 fp2 s2 o2 tr2 hl => ?_⟩
      refine q (v :: vs) H2 J2 F2 (fp1 ++ fp2) s2 (own_join o1 s1.jf tr2 o2 s2.nd) (tr_join tr1 tr2) fun j k hj => ?_
      cases j with
      | zero =>
        simp at hj
        subst hj
        exact ⟨v, by simp, hv⟩
      | succ j =>
        obtain ⟨w, k1, k2⟩ := hl j k (by simpa using hj)
        exact ⟨w, by simpa using k1, k2⟩
    · cases h1
theorem pa_lend {i : Nat} {g : M (List T)} (ha : PE X a (tVar i)) (hn : nstar a = true) (hb : PA X es (rdEs X.K pn g)) : PA X (a :: es) (rdEs X.K pn (consM (gTake i) g)) :=
  PA.weak (pa_cons ha hb (star_of hn es X.env)) fun σ H Q ⟨e, J, F, s, t, e', h, q⟩ => by
    obtain ⟨x, e1, h1, h2⟩ := bnd_ok h
    obtain ⟨xs, e2, h3, h4⟩ := bnd_ok h2
    cases h4
    unfold gTake at h1
    split at h1
    · rename_i t0 h0
      cases h1
      obtain ⟨v, fp1, F1, hv, o1, s1, pm⟩ := s.take h0
      have tr1 : Tr J H F J H (F1 ++ fp1) := Tr.sub fun b hb => pm.mem_iff.mpr hb
      refine ⟨v, hv, _, J, F1, s1, xs, _, h3, fun vs H2 J2 F2 fp2 s2 o2 tr2 => ?_⟩
      exact q (v :: vs) H2 J2 F2 (fp1 ++ fp2) s2 (own_join o1 s1.jf tr2 o2 s2.nd) (tr_join tr1 tr2)
    · cases h1
/-- what was lent comes back -/
def putBack : List (Option Nat) → List (Option T) → En → En
  | some i :: ls, some t :: outs, e => putBack ls outs (match e[i]? with
    | some none => e.set i (some t)
    | _ => e)
  | _ :: ls, _ :: outs, e => putBack ls outs e
  | _, _, e => e
theorem putBack_ok {K : PySem.W.Frag} {σ : L2.St} {H : Hp} {J : Addr → Prop} : ∀ (ls : List (Option Nat)) (vs : List V) (outs : List (Option T)) (e : En) (F fp : List Addr), SR K pn σ H e J F → RE K J H (vs.map some) outs fp → (F ++ fp).Nodup → (∀ a ∈ fp, ¬ J a) →
    (∀ (j i : Nat), ls[j]? = some (some i) → ∃ w, vs[j]? = some w ∧ σ[i]? = some (some w)) → ∃ F', SR K pn σ H (putBack ls outs e) J F' ∧ ∀ b ∈ F', b ∈ F ++ fp
  | [], vs, outs, e, F, fp, s, r, nd, jf, hl => by
    refine ⟨F, ?_, fun b hb => List.mem_append_left _ hb⟩
    cases outs <;> exact s
  | l :: ls, vs, [], e, F, fp, s, r, nd, jf, hl => by
    refine ⟨F, ?_, fun b hb => List.mem_append_left _ hb⟩
    cases l <;> exact s
  | l :: ls, [], o :: outs, e, F, fp, s, r, nd, jf, hl => by cases r
  | l :: ls, v :: vs, o :: outs, e, F, fp, s, r, nd, jf, hl => by
    have hl' : ∀ (j i : Nat), ls[j]? = some (some i) → ∃ w, vs[j]? = some w ∧ σ[i]? = some (some w) := fun j i h => by
      obtain ⟨w, k1, k2⟩ := hl (j + 1) i (by simpa using h)
      exact ⟨w, by simpa using k1, k2⟩
    cases r with
    | out r =>
      have go := putBack_ok ls vs outs e F fp s r nd jf hl'
      cases l <;> exact go
    | held q r =>
      rename_i t f g
      have nd' : (F ++ g).Nodup := by
        rw [List.nodup_append] at nd ⊢
        exact ⟨nd.1, (List.nodup_append.mp nd.2.1).2.1, fun x hx y hy => nd.2.2 x hx y (List.mem_append_right _ hy)⟩
      have jf' : ∀ a ∈ g, ¬ J a := fun a ha => jf a (List.mem_append_right _ ha)
      have skip : ∃ F', SR K pn σ H (putBack ls outs e) J F' ∧ ∀ b ∈ F', b ∈ F ++ (f ++ g) := by
        obtain ⟨F', s', h'⟩ := putBack_ok ls vs outs e F g s r nd' jf' hl'
        refine ⟨F', s', fun b hb => ?_⟩
        rcases List.mem_append.mp (h' b hb) with z | z
        · exact List.mem_append_left _ z
        · exact List.mem_append_right _ (List.mem_append_right _ z)
      cases l with
      | none => exact skip
      | some i =>
        show ∃ F', SR K pn σ H (putBack ls outs (match e[i]? with
          | some none => e.set i (some t)
          | _ => e)) J F' ∧ _
        split
        · rename_i h0
          obtain ⟨w, k1, k2⟩ := hl 0 i rfl
          have hw : v = w := by simpa using k1
          subst hw
          have ov : Own K J H F v t f := ⟨q, by
            rw [List.nodup_append] at nd ⊢
            exact ⟨nd.1, (List.nodup_append.mp nd.2.1).1, fun x hx y hy => nd.2.2 x hx y (List.mem_append_left _ hy)⟩, fun a ha => jf a (List.mem_append_left _ ha)⟩
          obtain ⟨F1, s1, pm⟩ := s.put h0 k2 ov
          have nd1 : (F1 ++ g).Nodup := by
            refine ((List.Perm.append_right g pm).nodup_iff).mpr ?_
            rw [List.append_assoc]
            exact nd
          obtain ⟨F', s', h'⟩ := putBack_ok ls vs outs _ F1 g s1 r nd1 jf' hl'
          refine ⟨F', s', fun b hb => ?_⟩
          rcases List.mem_append.mp (h' b hb) with z | z
          · rcases List.mem_append.mp (pm.mem_iff.mp z) with z | z
            · exact List.mem_append_left _ z
            · exact List.mem_append_right _ (List.mem_append_left _ z)
          · exact List.mem_append_right _ (List.mem_append_right _ z)
        · exact skip
def gCallF (F : FSem) (L : List Nat) (ls : List (Option Nat)) (fa : M (List T)) : M T := bnd fa fun ts => fun e => match F ts with
  | some (t, outs) => .ok t (putBack ls (maskN L 0 outs) e)
  | none => .bad
theorem RTs.re {K : PySem.W.Frag} {J : Addr → Prop} {H : Hp} : ∀ {vs : List V} {ts : List T} {fp : List Addr}, RTs K J H vs ts fp → RE K J H (vs.map some) (ts.map some) fp
  | _, _, _, .nil => .nil
  | _, _, _, .cons r s => .held r (RTs.re s)
theorem call_rd {F : FSem} {L : List Nat} {ls : List (Option Nat)} {n : Nat} {fa : M (List T)} {E : XK} {σ : L2.St} {H : Hp} {Q : VK} (hn : ∀ e ts e', fa e = .ok ts e' → ts.length = n) (h : rdE X.K pn (gCallF F L ls fa) σ H Q) :
    tCall (spG X.K n L F) [] E (rdAs X.K pn ls fa) σ H Q := by
  obtain ⟨e, J, F0, s, t, e', h, q⟩ := h
  obtain ⟨ts, e1, h1, h2⟩ := bnd_ok h
  refine ⟨e, J, F0, s, ts, e1, h1, fun vs H1 J1 F1 fp s1 o1 tr1 hl => ?_⟩
  cases hF : F ts with
  | none => simp only [hF] at h2; cases h2
  | some r =>
    obtain ⟨t', outs⟩ := r
    simp only [hF] at h2
    cases h2
    rw [List.append_nil]
    have ndf : fp.Nodup := (List.nodup_append.mp o1.nd).2.1
    refine ⟨by rw [o1.rt.length]; exact hn _ _ _ h1, J1, fp, ts, ⟨o1.rt.re, ndf, o1.jf, s1.jd, fun p hp => (nomatch hp)⟩, _, outs, hF, fun v H' J' fp' fpv s' ov tr => ?_⟩
    -- the caller's own things stand
    have ndc : (fp ++ F1).Nodup := (List.perm_append_comm.nodup_iff).mp o1.nd
    have dF1 : ∀ b ∈ F1, H1 b ≠ none := s1.re.dom
    have sep : ∀ b ∈ F1, b ∉ fp' ++ fpv := fun b hb z => by
      rcases tr.fnew b z with z | z
      · exact not_both ndc hb z
      · exact dF1 b hb z
    have s2 : SR X.K pn σ H' e1 J' F1 := s1.step tr.jj (fun b o z eq => tr.keep b o eq fun w => by
      rcases z with z | z
      · exact o1.jf b w z
      · exact not_both ndc z w) s'.jd fun a ha z => by
        rcases tr.jnew a z with z | z | z
        · exact s1.jf a ha z
        · exact not_both ndc ha z
        · exact dF1 a ha z
    have nd2 : (F1 ++ fp').Nodup := List.nodup_append.mpr ⟨s1.nd, s'.nd, fun x hx y hy z => sep x hx (z ▸ List.mem_append_left _ hy)⟩
    obtain ⟨F3, s3, h3⟩ := putBack_ok ls vs _ e1 F1 fp' s2 s'.re nd2 s'.jf hl
    refine q v H' J' F3 fpv s3 ⟨ov.rt, ?_, ov.jf⟩ ?_
    · refine List.nodup_append.mpr ⟨s3.nd, (List.nodup_append.mp ov.nd).2.1, fun x hx y hy z => ?_⟩
      subst z
      rcases List.mem_append.mp (h3 x hx) with w | w
      · exact sep x w (List.mem_append_right _ hy)
      · exact not_both ov.nd hy w
    · have t2 : Tr J1 H1 (F1 ++ fp) J' H' (F1 ++ (fp' ++ fpv)) := by
        refine ⟨fun b o e n => tr.keep b o e fun z => n (List.mem_append_right _ z), tr.dom, tr.jj, fun b z => ?_, fun b z => (tr.jnew b z).imp id (Or.imp (List.mem_append_right _) id)⟩
        rcases List.mem_append.mp z with z | z
        · exact .inl (List.mem_append_left _ z)
        · exact (tr.fnew b z).imp (List.mem_append_right _) id
      refine (tr1.trans t2).trans (Tr.sub fun b hb => ?_)
      rcases List.mem_append.mp hb with z | z
      · rcases List.mem_append.mp (h3 b z) with z | z
        · exact List.mem_append_left _ z
        · exact List.mem_append_right _ (List.mem_append_left _ z)
      · exact List.mem_append_right _ (List.mem_append_right _ z)
end
end IL

namespace IL
open PySem PySem.Spec PyProof.Rows L2

/-! ### a def by its body's run -/
def runF (nN n : Nat) (g : M Fl) : FSem := fun ts => match g (ts.map some ++ List.replicate (nN - n) none) with
  | .ok (.rt t) e => some (t, (e ++ List.replicate n none).take n)
  | .ok .nx e => some (.leaf .none, (e ++ List.replicate n none).take n)
  | _ => none
section
variable {K : PySem.W.Frag} {J : Addr → Prop} {H : Hp}
theorem RE.takeN {σ : L2.St} {e : En} {F : List Addr} (r : RE K J H σ e F) : ∀ n, ∃ F', RE K J H (σ.take n) (e.take n) F' ∧ F'.Sublist F := by
  induction r with
  | nil => intro n; exact ⟨[], by simpa using RE.nil, .slnil⟩
  | out r ih =>
    intro n
    cases n with
    | zero => exact ⟨[], by simpa using RE.nil, List.nil_sublist _⟩
    | succ n =>
      obtain ⟨F', h1, h2⟩ := ih n
      exact ⟨F', .out h1, h2⟩
  | held q r ih =>
    intro n
    cases n with
    | zero => exact ⟨[], by simpa using RE.nil, List.nil_sublist _⟩
    | succ n =>
      obtain ⟨F', h1, h2⟩ := ih n
      exact ⟨_, .held q h1, List.Sublist.append_left h2 _⟩
theorem RE.mask {σ : L2.St} {e : En} {F : List Addr} (L : List Nat) (r : RE K J H σ e F) : ∀ k, ∃ F', RE K J H σ (maskN L k e) F' ∧ F'.Sublist F := by
  induction r with
  | nil => intro k; exact ⟨[], .nil, .slnil⟩
  | out r ih =>
    intro k
    obtain ⟨F', h1, h2⟩ := ih (k + 1)
    refine ⟨F', ?_, h2⟩
    unfold maskN
    split <;> exact .out h1
  | held q r ih =>
    intro k
    obtain ⟨F', h1, h2⟩ := ih (k + 1)
    unfold maskN
    split
    · exact ⟨_, .held q h1, List.Sublist.append_left h2 _⟩
    · exact ⟨F', .out h1, h2.trans (List.sublist_append_right _ _)⟩
theorem maskN_none {L : List Nat} : ∀ {e : List (Option T)} {k i : Nat} {t : T}, (maskN L k e)[i]? = some (some t) → k + i ∈ L
  | [], _, _, _, h => by simp [maskN] at h
  | o :: r, k, 0, t, h => by
    unfold maskN at h
    split at h
    · simpa using ‹k ∈ L›
    · simp at h
  | o :: r, k, i + 1, t, h => by
    unfold maskN at h
    have := maskN_none (L := L) (e := r) (k := k + 1) (i := i) (t := t) (by simpa using h)
    have e : k + 1 + i = k + (i + 1) := by omega
    rw [← e]; exact this
theorem maskN_len (L : List Nat) : ∀ (e : List (Option T)) (k : Nat), (maskN L k e).length = e.length
  | [], _ => rfl
  | o :: r, k => by simp [maskN, maskN_len L r]
end
theorem RE.pad {K : PySem.W.Frag} {J : Addr → Prop} {H : Hp} {σ : L2.St} {e : En} {F0 : List Addr} (m : Nat) (r : RE K J H σ e F0) : RE K J H (σ ++ List.replicate m none) (e ++ List.replicate m none) F0 := by
  induction r with
  | nil =>
    induction m with
    | zero => exact .nil
    | succ m ih => exact .out ih
  | out _ ih => exact .out ih
  | held q _ ih => exact .held q ih
theorem maskN_twice (L : List Nat) : ∀ (e : List (Option T)) (k : Nat), maskN L k (maskN L k e) = maskN L k e
  | [], _ => rfl
  | o :: r, k => by
    simp only [maskN, maskN_twice L r (k + 1)]
    split <;> rfl
/-- the same, but for what is lent nothing is told of the arguments -/
def runM (nN n : Nat) (L : List Nat) (g : M Fl) : FSem := fun ts => match runF nN n g ts with
  | some (t, o) => some (t, maskN L 0 o)
  | none => none
theorem runM_sp {K : PySem.W.Frag} {nN n : Nat} {L : List Nat} {g : M Fl} : ∀ vs H Q E, spG K n L (runM nN n L g) vs H Q E → spG K n L (runF nN n g) vs H Q E := by
  rintro vs H Q E ⟨hl, J, fp, ts, s, t, outs, hF, q⟩
  unfold runM at hF
  split at hF
  · rename_i t' o' h'
    cases hF
    rw [maskN_twice] at q
    exact ⟨hl, J, fp, ts, s, t, o', h', q⟩
  · cases hF
def pinsOf (L : List Nat) (vs : List V) : List (Nat × V) := L.filterMap fun i => vs[i]?.map fun v => (i, v)
theorem mem_pinsOf {L : List Nat} {vs : List V} {p : Nat × V} : p ∈ pinsOf L vs ↔ p.1 ∈ L ∧ vs[p.1]? = some p.2 := by
  unfold pinsOf
  rw [List.mem_filterMap]
  constructor
  · rintro ⟨i, hi, h⟩
    cases hv : vs[i]? with
    | none => rw [hv] at h; cases h
    | some v => rw [hv] at h; cases h; exact ⟨hi, hv⟩
  · rintro ⟨h1, h2⟩
    exact ⟨p.1, h1, by rw [h2]; rfl⟩
section
variable {P : Program} {w : World} {K : PySem.W.Frag} {mg : Str → Option Value} {base : Heap}
/-- a def keeps to its body's run -/
theorem fnG_body {k : Nat} {f : Addr} {x qual : Str} {st : Stmt} {fd : FuncData} {N ps : List Str} {L : List Nat} {g : M Fl}
    (F : Fun K x qual st f fd) (S : FnScope N ps (defScope st))
    (hbody : ∀ (X : Cx) (pn : List (Nat × V)), X.prog = P → X.w = w → X.K = K → X.mg = mg → X.base = base → X.N = N → X.env.scope = defScope st → X.calm = true → (X.xe = fun _ _ => False) → Room k X.A → X.A.guards = some [] → (∀ y, X.fn y = true) → (∀ p ∈ pn, p.1 ∈ L) →
      PSs X (defBody st) (rdS X.K pn g)) : FnG P w K mg base CX0 (k + 1) f fd ps (spG K ps.length L (runF N.length ps.length g)) := by
  refine fnG_of F S (fun vs H Q E h => h.1) fun cdv B around s H vs Q E hr hg h => ?_
  obtain ⟨hl, J, fp, ts, sr, t, outs, hF, q⟩ := h
  have hps : ps.length ≤ N.length := by have := congrArg List.length S.pre; rw [List.length_take] at this; omega
  have hb := hbody (cxOf CX0 P w K mg base N qual (defScope st) f cdv B around s H E).nox (pinsOf L vs) rfl rfl rfl rfl rfl rfl rfl rfl rfl hr hg (fun _ => rfl) fun p hp => (mem_pinsOf.mp hp).1
  refine ⟨_, PSs.nox hb, ?_⟩
  have hlen : ts.length = ps.length := by
    have := sr.re.length
    simp at this
    omega
  -- the slots at the entry
  have re0 : RE K J H (L2.start N vs) (ts.map some ++ List.replicate (N.length - ps.length) none) fp := by
    have := sr.re.pad (N.length - ps.length)
    unfold L2.start
    rw [hl]
    exact this
  have s0 : SR K (pinsOf L vs) (L2.start N vs) H (ts.map some ++ List.replicate (N.length - ps.length) none) J fp := by
    refine ⟨re0, sr.nd, sr.jf, sr.jd, fun p hp => ?_⟩
    obtain ⟨h1, h2⟩ := mem_pinsOf.mp hp
    have hlt : p.1 < vs.length := (List.getElem?_eq_some_iff.mp h2).1
    unfold L2.start
    rw [List.getElem?_append_left (by simpa using hlt), List.getElem?_map, h2]
    rfl
  -- what the def's end leaves of the arguments
  have fin : ∀ {σ' : L2.St} {H' : Hp} {J' : Addr → Prop} {e' : En} {F' : List Addr}, SR K (pinsOf L vs) σ' H' e' J' F' → ∃ fp', SR K [] (vs.map some) H' (maskN L 0 ((e' ++ List.replicate ps.length none).take ps.length)) J' fp' ∧ fp'.Sublist F' := by
    intro σ' H' J' e' F' s'
    obtain ⟨F1, h1, l1⟩ := (s'.re.pad ps.length).takeN ps.length
    obtain ⟨F2, h2, l2⟩ := h1.mask L 0
    have l3 := l2.trans l1
    refine ⟨F2, ⟨h2.unwipe ?_ fun i hi => ?_, s'.nd.sublist l3, fun a ha => s'.jf a (l3.mem ha), s'.jd, fun p hp => (nomatch hp)⟩, l3⟩
    · simp [hl]
    · cases hm : (maskN L 0 ((e' ++ List.replicate ps.length none).take ps.length))[i]? with
      | none =>
        have hge := List.getElem?_eq_none_iff.mp hm
        rw [maskN_len] at hge
        simp at hge
        rw [List.getElem?_eq_none (by simp [hl]; omega), List.getElem?_eq_none (by simp; omega)]
      | some o =>
        cases o with
        | none => exact absurd hm hi
        | some tt =>
          have hiL := maskN_none hm
          rw [Nat.zero_add] at hiL
          have hlt : i < ps.length := by
            have := (List.getElem?_eq_some_iff.mp hm).1
            rw [maskN_len] at this
            simp at this
            omega
          have hv : vs[i]? = some (vs[i]'(by omega)) := List.getElem?_eq_getElem (by omega)
          have hp := s'.pin (i, vs[i]'(by omega)) (mem_pinsOf.mpr ⟨hiL, hv⟩)
          have hlt2 : i < σ'.length := (List.getElem?_eq_some_iff.mp hp).1
          rw [List.getElem?_take_of_lt hlt, List.getElem?_append_left hlt2, hp, List.getElem?_map, hv]
          rfl
  unfold runF at hF
  split at hF
  · rename_i t' e' hg'
    cases hF
    refine ⟨_, J, fp, s0, _, e', hg', fun v σ' H' J' F' fpv s' o' tr => ?_⟩
    obtain ⟨fp', s2, l2⟩ := fin s'
    exact q v H' J' fp' fpv s2 ⟨o'.rt, o'.nd.sublist (List.Sublist.append_right l2 _), o'.jf⟩ (tr.trans (Tr.sub fun b hb => (List.Sublist.append_right l2 fpv).mem hb))
  · rename_i e' hg'
    cases hF
    refine ⟨_, J, fp, s0, _, e', hg', fun σ' H' J' F' s' tr => ?_⟩
    obtain ⟨fp', s2, l2⟩ := fin s'
    exact q .non H' J' fp' [] s2 ⟨.leaf .non, by simpa using s2.nd, fun _ z => (nomatch z)⟩ (by
      rw [List.append_nil]
      exact tr.trans (Tr.sub fun b hb => l2.mem hb))
  · cases hF
end
end IL

namespace IL
open PySem PySem.Spec PyProof.Rows L2
section
variable {X : Cx}
/-! ### repr, isinstance, a text of a number -/
theorem hasDict_no {d : D} (h : d.canLay0 = true) : d.hasDict = true → ∀ {P : Prop}, P := fun z => by
  have := PyData.hasDict_of_canLay d h
  rw [this] at z
  cases z
theorem call_reprD (hu : X.A.units + 66 < cLine) (hg : X.A.guards = some []) : CallR X (.builtin "repr") (fun xs H Q => ∃ v d, xs = [v] ∧ Dp X.K H v d ∧ d.canLay0 = true ∧ d.showable = true ∧ d.depth ≤ 64 ∧ d.shown.length ≤ sizeLine ∧ Q (.str d.shown) H) := by
  intro pins s σ H xs us Q I r h
  obtain ⟨v, d, rfl, hd, h1, h2, h3, h4, q⟩ := h
  obtain ⟨u, rfl, ru⟩ : ∃ u, us = [u] ∧ RelV v u := by
    cases r with
    | cons r t => cases t; exact ⟨_, rfl, r⟩
  cases hd with
  | non =>
    cases ru
    simp only [PyData.shown] at q
    exact PySem.P.repr_of_none ⟨.str _, H, I.tok _, ⟨_, rfl⟩, q⟩
  | bl b =>
    cases ru
    simp only [PyData.shown] at q
    exact PySem.P.repr_of_bool ⟨.str _, H, I.tok _, ⟨_, rfl⟩, q⟩
  | int i =>
    obtain ⟨t, rfl⟩ := ru
    simp only [PyData.shown] at q
    exact PySem.P.repr_of_int (by simpa [PyData.showable] using h2) ⟨.str _, H, I.tok _, ⟨_, rfl⟩, q⟩
  | str x =>
    obtain ⟨t, rfl⟩ := ru
    simp only [PyData.shown] at q h4
    exact PySem.P.repr_of_str (hsz := h4) ⟨.str _, H, I.tok _, ⟨_, rfl⟩, q⟩
  | lst hs ha =>
    rename_i a xs ds
    have ru' : u = Value.ref a := ru
    subst ru'
    obtain ⟨as, rd⟩ := Dp.reads I _ _ _ (.lst hs ha) (show RelV (.ref a) (.ref a) from rfl)
    refine repr_of_reads' rd h2 (fun z => hasDict_no h1 z) hg (by omega) (fun b o e => e) (fun h' u tk hk => ?_) h4
    exact ⟨.str _, H, I.kept (t' := tk) hk, ⟨_, rfl⟩, q⟩
  | tup hs ha =>
    rename_i a xs ds
    have ru' : u = Value.ref a := ru
    subst ru'
    obtain ⟨as, rd⟩ := Dp.reads I _ _ _ (.tup hs ha) (show RelV (.ref a) (.ref a) from rfl)
    refine repr_of_reads' rd h2 (fun z => hasDict_no h1 z) hg (by omega) (fun b o e => e) (fun h' u tk hk => ?_) h4
    exact ⟨.str _, H, I.kept (t' := tk) hk, ⟨_, rfl⟩, q⟩
theorem cs_repr (hu : X.A.units + 66 < cLine) (hg : X.A.guards = some []) : CallS X (.builtin "repr") reprD := by
  refine .mk (call_reprD hu hg) fun xs t h J H vs jd rx Q q => ?_
  unfold reprD at h
  split at h
  · split at h
    · rename_i d hz
      cases h
      simp only [reprOk, Bool.and_eq_true, decide_eq_true_eq] at hz
      obtain ⟨v, rfl, r⟩ := rx.one
      exact ⟨v, d, rfl, r.dp hz.1.1.1, hz.1.1.1, hz.1.1.2, hz.1.2, hz.2, q _ _ _ _ (New.same (.str _) jd)⟩
    · cases h
  · cases h
inductive Ty where
  | int | bool | str | list | tuple | dict
  deriving DecidableEq
def Ty.nm : Ty → String
  | .int => "int" | .bool => "bool" | .str => "str" | .list => "list" | .tuple => "tuple" | .dict => "dict"
def Ty.nmS : Ty → Str
  | .int => "int" | .bool => "bool" | .str => "str" | .list => "list" | .tuple => "tuple" | .dict => "dict"
def isiB : Ty → D → Bool
  | .int, .int _ => true
  | .int, .bool _ => true
  | .bool, .bool _ => true
  | .str, .str _ => true
  | .list, .list _ => true
  | .tuple, .tuple _ => true
  | .dict, .dict _ => true
  | _, _ => false
def tyD : D → String
  | .none => "NoneType" | .bool _ => "bool" | .int _ => "int" | .str _ => "str" | .list _ => "list" | .tuple _ => "tuple" | .dict _ => "dict"
theorem tyX_of {K : PySem.W.Frag} {J : Addr → Prop} {H : Hp} {v : V} {d : D} (r : RD K J H v d) : TyX K H v (.type (tyD d)) := by
  cases r with
  | non => exact .base .non
  | bl b => exact .base (.bl b)
  | int i => exact .base (.int i)
  | str x => exact .base (.str x)
  | lst j p r => exact .base (.lst p)
  | tup p r =>
    rcases p with ⟨_, p⟩ | p
    · exact .base (.tup p)
    · rcases p with (h | ⟨_, h⟩) | ⟨o, its, n, h1, h2, _⟩
      · cases h
      · cases h
      · exact .kTuple h1 h2
  | dct j p r => exact .base (.dK p)
theorem kit_of (t : Ty) (d : D) {K : PySem.W.Frag} : PySem.W.kitOne K (.type (tyD d)) (.type t.nm) = some (isiB t d) := by
  refine kit_ty ?_
  cases t <;> cases d <;> (simp only [tyD, Ty.nm, isiB]; decide +kernel)
def isiG (t : Ty) (f : M D) : M T := bnd f fun d => ret (.leaf (.bool (isiB t d)))
theorem ie_isi {pn : List (Nat × V)} {a : Expr} {p p2 pos : Pos} {t : Ty} {f : M T} (hg : Gl X "isinstance") (hm : X.mg "isinstance" = none) (ha : IE X pn a f) (hg2 : Gl X t.nmS) (hm2 : X.mg t.nmS = none) :
    IE X pn (.Call (.Name "isinstance" p) [a, .Name t.nmS p2] [] pos) (isiG t (fz f)) := by
  have hT : PE X (.Name t.nmS p2) (tC (.ty t.nm)) := by
    cases t <;> exact pe_bltn hg2 hm2 (by decide +kernel) rfl
  have h1 : starEach [a, .Name t.nmS p2] X.env = (false, eval a X.env) :: starEach [.Name t.nmS p2] X.env := star_of ha.ns _ X.env
  refine ie_mk (PE.weak (pe_callB call_isi hg hm (by decide +kernel) (pa_cons (pe_fz ha.pe) (pa_cons hT pa_nil) h1) (he := h1)) fun σ H Q ⟨e, J, F, s, r, e', h, q⟩ => ?_)
  obtain ⟨d, e1, k1, k2⟩ := bnd_ok h
  cases k2
  refine ⟨e, J, F, s, d, _, k1, fun v H1 J1 F1 s1 r1 tr1 => ?_⟩
  exact ⟨v, _, _, _, _, rfl, .ty _, tyX_of r1, kit_of t d, q _ H1 J1 F1 [] s1 (own_leaf_bl s1.nd) (by simpa using tr1)⟩
def strD : List D → Option T
  | [.int i] => if decide (i.natAbs.log2 < 1920) then some (.leaf (.str (toString i))) else none
  | [.str x] => some (.leaf (.str x))
  | _ => none
end
end IL

namespace IL
open PySem PySem.Spec PyProof.Rows L2
def eqb (k : Bool) (v : Value) : Bool := match v with
  | .bool n => n == k
  | _ => false
theorem vals_bools : ∀ {bs : List Bool} {us : List Value}, Vals (bs.map V.bl) us → us = bs.map Value.bool
  | [], us, r => by cases r; rfl
  | b :: bs, us, r => by
    rw [List.map_cons] at r
    cases r with
    | cons r1 r2 =>
      have e : _ = Value.bool b := r1
      rw [e, vals_bools r2]
      rfl
theorem eqb_count {k : Bool} : ∀ bs : List Bool, (bs.map Value.bool).countP (eqb k) = bs.count k
  | [] => rfl
  | b :: bs => by
    rw [List.map_cons, List.countP_cons, List.count_cons, eqb_count bs]
    rfl
section
variable {X : Cx}
def rCntB (K : PySem.W.Frag) : V → List V → Hp → VK → Prop := fun x xs H Q => ∃ (p : Addr) (bs : List Bool) (k : Bool), x = .ref p ∧ xs = [.bl k] ∧ SqL K H p (bs.map V.bl) ∧ Q (.int (bs.count k : Nat)) H
theorem mt_countB : MtR X "list.count" (rCntB X.K) := by
  intro pins s σ H x xs v us Q I rx rxs h
  obtain ⟨p, bs, k, rfl, rfl, hs, q⟩ := h
  cases rx
  obtain ⟨u, rfl, ru⟩ := rxs.one
  have hu : u = Value.bool k := ru
  subst hu
  obtain ⟨its, rv, ⟨⟨cls, dd, data, sl⟩, n, ho, hc, hdn, hd⟩, hlen⟩ := I.list hs
  simp only at hc hd
  subst hc hd
  have hi := vals_bools rv
  refine call_meets PySem.F.slot_list_count ⟨_, ho, rfl⟩ PySem.F.entry_list_count (PySem.F.args_list_count_2 _ _)
    (SeqAt.list_countAt p its.toArray n dd sl (.bool k) (eqb k)) ⟨ho, fun y hy => ?_, ?_⟩
  · have hy2 : y ∈ bs.map Value.bool := by rw [← hi]; simpa using hy
    obtain ⟨b, _, rfl⟩ := List.mem_map.mp hy2
    exact SeqAt.EqAt.bool_bool b k
  · have ec : its.toArray.toList.countP (eqb k) = bs.count k := by
      rw [show its.toArray.toList = its from rfl, hi]
      exact eqb_count bs
    refine ⟨.int (bs.count k : Nat), H, I.tok _, ⟨s.toks, ?_⟩, q⟩
    show Value.int ((its.toArray.toList.countP (eqb k) : Nat) : Int) s.toks = Value.int ((bs.count k : Nat) : Int) s.toks
    rw [ec]
end
end IL

namespace IL
open PySem PySem.Spec PyProof.Rows L2
section
variable {X : Cx} {pn : List (Nat × V)} {a b : Expr} {pos : Pos}
/-- xs.count(k), of bools -/
def cntD : D → D → Option T
  | .list ds, .bool k => (boolsD ds).map fun bs => .leaf (.int (bs.count k : Nat))
  | _, _ => none
theorem ie_cnt {fa fb : M D} {apos : Pos} (ho : PE X a (rdD X.K pn fa)) (hn : nstar b = true) (hb : PE X b (rdD X.K pn fb)) (hbase : attributeBase a "count" X.env (eval a X.env) = eval a X.env) (hline : (apos.endLine == pos.line) = true) :
    IE X pn (.Call (.Attribute a "count" apos) [b] [] pos) (gBin cntD fa fb) := by
  have hs : starEach [b] X.env = (false, eval b X.env) :: starEach [] X.env := star_of hn [] X.env
  refine ie_mk (PE.weak (pe_bm PySem.F.plainAttrs_list PySem.F.slot_list_count PySem.F.type_list_count mt_countB ho (pa_cons hb pa_nil hs) hbase (by rw [hs]; rfl) hline hs (by rfl)) fun σ H Q ⟨e, J, F, s, t, e', h, q⟩ => ?_)
  obtain ⟨x, e1, h1, h2⟩ := bnd_ok h
  obtain ⟨y, e2, h3, h4⟩ := bnd_ok h2
  obtain ⟨h5, rfl⟩ := opt_ok h4
  unfold cntD at h5
  split at h5
  · rename_i ds k
    cases hbs : boolsD ds with
    | none => rw [hbs] at h5; cases h5
    | some bs =>
      rw [hbs] at h5
      cases h5
      refine ⟨e, J, F, s, _, e1, h1, fun v H1 J1 F1 s1 r1 tr1 => ?_⟩
      cases r1 with
      | lst j p r =>
        refine ⟨.inl ⟨rfl, _, .inl (.inl p)⟩, e1, J1, F1, s1, _, e', h3, fun w H2 J2 F2 s2 r2 tr2 => ?_⟩
        cases r2
        have r3 := (RD.lst j p r).step tr2 s1.jf
        cases r3 with
        | lst j' p' r' =>
          obtain ⟨s3, o3, tr3⟩ := (New.same (K := X.K) (H := H2) (v := .int (bs.count k : Nat)) (d := .int (bs.count k : Nat)) (.int _) s2.jd).sr s2
          exact ⟨_, bs, k, rfl, rfl, by rw [← bools_rule hbs r']; exact .inl (.inl p'), q _ _ _ _ _ s3 o3 ((tr1.trans tr2).trans tr3)⟩
  · cases h5
end
end IL

namespace IL
open PySem PySem.Spec PyProof.Rows L2
section
variable {X : Cx}
/-- a list times an int -/
def lstRep : D → D → Option T
  | .list a, .int k => if 0 ≤ k ∧ k ≤ 1000 ∧ a.length ≤ 1000 then some (.lst ((List.replicate k.toNat a).flatten.map .leaf)) else none
  | _, _ => none
theorem os_lstRep : OpS X (binaryOp .Mult) lstRep := by
  refine .mk op_rep fun x y t h J H v u jd rx ry Q q => ?_
  unfold lstRep at h
  split at h
  · split at h
    · rename_i a k hz
      cases h
      cases ry
      cases rx with
      | lst j p r =>
        refine ⟨_, _, _, rfl, rfl, p, by omega, by omega, ?_, fun z hz => q _ _ _ _ (New.list (r.flat _) jd hz)⟩
        rw [r.length, sizeLine_eq]
        have h1 : k.toNat ≤ 1000 := by omega
        have := Nat.mul_le_mul hz.2.2 h1
        omega
    · cases h
  · cases h
/-- a text times an int -/
def strTimes (a : Str) (k : Nat) : Str := ⟨(List.replicate k a.cps).foldl (· ++ ·) #[]⟩
theorem size_times {α : Type} (c : Array α) : ∀ (k : Nat) (i : Array α), (List.foldl (fun x1 x2 => x1 ++ x2) i (List.replicate k c)).size = i.size + k * c.size
  | 0, i => by simp
  | k + 1, i => by
    rw [List.replicate_succ, List.foldl_cons, size_times c k, Array.size_append, Nat.succ_mul]
    omega
def strRep : D → D → Option T
  | .str a, .int k => if 2 ≤ k ∧ k ≤ 1000 ∧ a.length ≤ 1000 ∧ (a.length == 0) = false then some (.leaf (.str (strTimes a k.toNat))) else none
  | _, _ => none
theorem op_strRep : OpR X (binaryOp .Mult) (fun x y H Q => ∃ a k, x = .str a ∧ y = .int k ∧ (2 ≤ k ∧ k ≤ 1000 ∧ a.length ≤ 1000 ∧ (a.length == 0) = false) ∧ Q (.str (strTimes a k.toNat)) H) := by
  intro pins s σ H x y v u Q I rx ry h
  obtain ⟨a, k, rfl, rfl, ⟨h1, h2, h3, h4⟩, q⟩ := h
  obtain ⟨t, rfl⟩ := rx
  obtain ⟨t', rfl⟩ := ry
  have hn : ¬ k < 1 := by omega
  have hk : (k == 1 || a.length == 0) = false := by
    rw [h4, Bool.or_false]
    have : k ≠ 1 := by omega
    simpa using this
  refine PySem.P.mul_str ?_ (fun _ _ => ?_) (fun _ _ => ?_) ?_
  · have e1 : ¬ k < -(2 ^ 63 : Int) := by omega
    have e2 : ¬ k ≥ 2 ^ 63 := by omega
    rw [decide_eq_false e1, decide_eq_false e2]
    rfl
  · have h5 : (2 ^ 63 - 1) / 1000 ≤ ((2 ^ 63 - 1) / k : Int) := by
      rw [Int.le_ediv_iff_mul_le (by omega)]
      omega
    have h6 : ((2 : Int) ^ 63 - 1) / 1000 = 9223372036854775 := by decide
    omega
  · unfold Builtin.Str.tooLong
    have := Nat.mul_le_mul h3 (show k.toNat ≤ 1000 by omega)
    simp only [decide_eq_false_iff_not]
    rw [sizeLine_eq]
    omega
  · rw [if_neg hn, if_neg (by rw [hk]; exact Bool.false_ne_true)]
    show (PySem.Made.str _).post _ _
    unfold PySem.Made.post
    refine ⟨?_, ⟨.str _, H, I.tok _, ⟨_, rfl⟩, q⟩⟩
    show (List.foldl (fun x1 x2 => x1 ++ x2) #[] (List.replicate k.toNat a.cps)).size ≤ sizeLine
    rw [size_times, sizeLine_eq]
    have := Nat.mul_le_mul h3 (show k.toNat ≤ 1000 by omega)
    have e : a.cps.size = a.length := rfl
    rw [e, Nat.mul_comm]
    simp
    omega
theorem os_strRep : OpS X (binaryOp .Mult) strRep := by
  refine .mk op_strRep fun x y t h J H v u jd rx ry Q q => ?_
  unfold strRep at h
  split at h
  · split at h
    · rename_i a k hz
      cases h
      cases ry
      cases rx
      exact ⟨_, _, rfl, rfl, hz, q _ _ _ _ (New.same (.str _) jd)⟩
    · cases h
  · cases h
/-- max, min of a list of ints -/
def maxLD : List D → Option T
  | [.list ds] => (intsD ds).bind fun ns => ns.max?.map fun m => .leaf (.int m)
  | _ => none
def minLD : List D → Option T
  | [.list ds] => (intsD ds).bind fun ns => ns.min?.map fun m => .leaf (.int m)
  | _ => none
theorem cs_maxL (hc : X.calm = true) : CallS X (.builtin "max") maxLD := by
  refine .mk (cr_max hc) fun xs t h J H vs jd rx Q q => ?_
  unfold maxLD at h
  split at h
  · rename_i ds
    obtain ⟨ns, hb, h2⟩ := Option.bind_eq_some_iff.mp h
    obtain ⟨m, hm, e⟩ := Option.map_eq_some_iff.mp h2
    subst e
    obtain ⟨h3, h4⟩ := List.max?_eq_some_iff.mp hm
    obtain ⟨v, rfl, r⟩ := rx.one
    cases r with
    | lst j p r =>
      refine ⟨_, ns, rfl, by rw [← ints_rule hb r]; exact .inl (.inl p), List.length_pos_of_mem h3, fun m' h5 h6 => ?_⟩
      have : m' = m := by have := h4 m' h5; have := h6 m h3; omega
      subst this
      exact q _ _ _ _ (New.same (.int _) jd)
  · cases h
theorem cs_minL (hc : X.calm = true) : CallS X (.builtin "min") minLD := by
  refine .mk (cr_min hc) fun xs t h J H vs jd rx Q q => ?_
  unfold minLD at h
  split at h
  · rename_i ds
    obtain ⟨ns, hb, h2⟩ := Option.bind_eq_some_iff.mp h
    obtain ⟨m, hm, e⟩ := Option.map_eq_some_iff.mp h2
    subst e
    obtain ⟨h3, h4⟩ := List.min?_eq_some_iff.mp hm
    obtain ⟨v, rfl, r⟩ := rx.one
    cases r with
    | lst j p r =>
      refine ⟨_, ns, rfl, by rw [← ints_rule hb r]; exact .inl (.inl p), List.length_pos_of_mem h3, fun m' h5 h6 => ?_⟩
      have : m' = m := by have := h4 m' h5; have := h6 m h3; omega
      subst this
      exact q _ _ _ _ (New.same (.int _) jd)
  · cases h
/-- str(int), int(bool), int(int) -/
def strOfD : List D → Option T
  | [.int i] => if i.natAbs.log2 < 1920 then some (.leaf (.str (toString i))) else none
  | _ => none
def intOfD : List D → Option T
  | [.int i] => some (.leaf (.int i))
  | [.bool b] => some (.leaf (.int (if b then 1 else 0)))
  | _ => none
theorem cs_str : CallS X (.type "str") strOfD := by
  refine .mk call_str_int fun xs t h J H vs jd rx Q q => ?_
  unfold strOfD at h
  split at h
  · split at h
    · rename_i i hz
      cases h
      obtain ⟨v, rfl, r⟩ := rx.one
      cases r
      exact ⟨_, rfl, hz, q _ _ _ _ (New.same (.str _) jd)⟩
    · cases h
  · cases h
theorem cs_int : CallS X (.type "int") intOfD := by
  refine .mk call_int1 fun xs t h J H vs jd rx Q q => ?_
  unfold intOfD at h
  split at h
  · cases h
    obtain ⟨v, rfl, r⟩ := rx.one
    cases r
    exact .inl ⟨_, rfl, q _ _ _ _ (New.same (.int _) jd)⟩
  · cases h
    obtain ⟨v, rfl, r⟩ := rx.one
    cases r
    exact .inr ⟨_, rfl, q _ _ _ _ (New.same (.int _) jd)⟩
  · cases h
end
end IL

namespace IL
open PySem PySem.Spec PyProof.Rows L2
theorem tuple_mul1 (l : Addr) (items : Array Value) (n : Nat) (dd : Option Addr) (sl : Array (Option Value)) (u : Tok) :
    Meets (Builtin.«tuple.__mul__» ⟨[.ref l, .int 1 u], []⟩) (fun _ R s => s.heap.get? l = some { cls := .type "tuple", dict := dd, data := .seq items n, slots := sl } ∧
      R (.ok (.ret (.ref l))) s) :=
  .of_wp fun prog w A R s h => by
    obtain ⟨hp, g, d, tk, os⟩ := s
    obtain ⟨hl, h⟩ := h
    have f1 := AutoSeq1.idx_int
    have c0 : (decide ((1 : Int) < -(2 ^ 63)) || decide ((1 : Int) ≥ 2 ^ 63)) = false := by decide
    wp_walk using wpAny_loadPart' hl
    exact ⟨_, rfl, h⟩
section
variable {X : Cx}
/-- a tuple times 1: itself -/
def tupRep1 : D → D → Option T
  | .tuple a, .int k => if k = 1 then some (.leaf (.tuple a)) else none
  | _, _ => none
theorem op_rep1 : OpR X (binaryOp .Mult) (fun x y H Q => ∃ l xs, x = .ref l ∧ y = .int 1 ∧ SqT X.K H l xs ∧ Q (.ref l) H) := by
  intro pins s σ H x y v u Q I rx ry h
  obtain ⟨l, xs, rfl, rfl, hT, q⟩ := h
  cases rx
  obtain ⟨t, rfl⟩ := ry
  obtain ⟨its, r, ⟨⟨cls, dd, data, sl⟩, ho, hc, n, hd⟩, hs⟩ := I.tuple hT
  simp only at hc hd
  subst hc hd
  exact wpAny_binaryOp_repeat_ref (T := "tuple") (U := "int") (by decide) ⟨_, ho, rfl⟩ (fun s' => typeIs_int s' 1 t) noFill_tuple_mul F.fills_int_mul F.slot_int_rmul repeat_tuple F.slot_int_index.lookup
    (call_meets F.slot_int_rmul (typeIs_int s 1 t) F.entry_int_rmul (F.args_int_rmul_2 _ _) (int_rmul_tuple 1 t l its.toArray n dd sl)
      ⟨ho, rfl, ⟨_, ho, rfl⟩, call_meets F.slot_tuple_mul ⟨_, ho, rfl⟩ F.entry_tuple_mul (F.args_tuple_mul_2 _ _) (tuple_mul1 l its.toArray n dd sl t) ⟨ho, ⟨.ref l, H, I, rfl, q⟩⟩⟩)
theorem os_rep1 : OpS X (binaryOp .Mult) tupRep1 := by
  refine .mk op_rep1 fun x y t h J H v u jd rx ry Q q => ?_
  unfold tupRep1 at h
  split at h
  · split at h
    · rename_i a k hz
      subst hz
      cases h
      cases ry
      cases rx with
      | tup p r => exact ⟨_, _, rfl, rfl, p.sq, q _ _ _ _ (New.same (.tup p r) jd)⟩
    · cases h
  · cases h
/-- a sequence times an int -/
def repD (x y : D) : Option T := orr (lstRep x y) (orr (strRep x y) (orr (tupRep x y) (tupRep1 x y)))
theorem os_rep : OpS X (binaryOp .Mult) repD := .or os_lstRep (.or os_strRep (.or os_tupRep os_rep1))
end
end IL

namespace IL
open PySem PySem.Spec PyProof.Rows L2
section
variable {X : Cx} {pn : List (Nat × V)} {a b : Expr} {pos : Pos}
/-- list(range(a, b)) -/
def lrgD : D → D → Option T
  | .int i, .int j => if -(2 ^ 40) ≤ i ∧ i ≤ 2 ^ 40 ∧ -(2 ^ 40) ≤ j ∧ j ≤ 2 ^ 40 ∧ (j - i).toNat ≤ 100000 then some (.lst ((rangeL i (j - i).toNat).map .leaf)) else none
  | _, _ => none
theorem rds_rg {K : PySem.W.Frag} {J : Addr → Prop} {H : Hp} (i j : Int) : RDs K J H (rgV i j) (rangeL i (j - i).toNat) := by
  unfold rgV rangeL
  have go : ∀ l : List Nat, RDs K J H (l.map fun k : Nat => V.int (i + (k : Int))) (l.map fun k : Nat => PyData.int (i + (k : Int))) := by
    intro l
    induction l with
    | nil => exact .nil
    | cons k l ih => exact .cons (.int _) ih
  exact go _
theorem ie_lrg {fa fb : M D} {p p2 pos2 : Pos} (hc : X.calm = true) (hg : Gl X "list") (hm : X.mg "list" = none) (hg2 : Gl X "range") (hm2 : X.mg "range" = none) (ha : PE X a (rdD X.K pn fa)) (hb : PE X b (rdD X.K pn fb)) (na : nstar a = true) (nb : nstar b = true) :
    IE X pn (.Call (.Name "list" p) [.Call (.Name "range" p2) [a, b] [] pos2] [] pos) (gBin lrgD fa fb) := by
  refine ie_mk (PE.weak (pe_listRg hc hg hm (prg_2 hg2 hm2 ha hb (star_of na [b] X.env) (star_of nb [] X.env) (by rw [star_of nb [] X.env]; rfl))) fun σ H Q q => ?_)
  have h2 : RuleD X (fun x y H Q => ∃ i j, x = V.int i ∧ y = V.int j ∧ RgOk i j ∧ ∀ q, H q = none → Q (.ref q) (upd H q (.lst (rgV i j)))) lrgD := by
    intro x y t h J H v u jd rx ry Q q
    unfold lrgD at h
    split at h
    · split at h
      · rename_i i j hz
        cases h
        cases rx
        cases ry
        exact ⟨_, _, rfl, rfl, ⟨by omega, by omega, by omega, by omega, by omega⟩, fun z hz => q _ _ _ _ (New.list (rds_rg i j) jd hz)⟩
      · cases h
    · cases h
  exact tOp_rd h2 q
/-- a in range(n) -/
def inrD : D → D → Option T
  | .int i, .int n => if far n then some (.leaf (.bool (decide (0 ≤ i ∧ i < n)))) else none
  | _, _ => none
theorem New.junk {K : PySem.W.Frag} {J : Addr → Prop} {H : Hp} {v : V} {d : D} {p : Addr} {o : HO} (r : RD K J H v d) (jd : ∀ b, J b → H b ≠ none) (hp : H p = none) : New K J H J (upd H p o) v (.leaf d) [] := by
  have keep : ∀ b o', H b = some o' → upd H p o b = some o' := fun b o' e => by rw [upd_ne (ne_of_none e hp)]; exact e
  refine ⟨.leaf (r.mono (fun _ e => e) fun b o' _ e => keep b o' e), .nil, fun _ h => (nomatch h), keep, fun _ e => e, fun _ e => .inl e, fun b z => ?_⟩
  cases q : H b with
  | none => exact absurd q (jd b z)
  | some o' => rw [keep b o' q]; exact fun z => nomatch z
theorem cr_range1 : CallR X (.type "range") (fun vs H Q => ∃ n, vs = [V.int n] ∧ ∀ p, H p = none → Q (.ref p) (upd H p (.rng 0 n))) := by
  intro pins s σ H vs us Q I r h
  obtain ⟨n, rfl, q⟩ := h
  obtain ⟨u1, rfl, ri⟩ := vals1 r
  obtain ⟨t, rfl⟩ := ri
  refine call_range_1 ⟨.ref s.heap.objs.size, upd H s.heap.objs.size (.rng 0 n), I.laid (t' := s.toks + 1 + 1) (fun b o e => Heap.get?_push_of_some _ e) (Nat.le_refl _) ?_, rfl, q _ (I.hok.fresh (Nat.le_refl _))⟩
  exact ⟨_, _, _, Heap.get?_push_size _ rfl⟩
theorem ie_inr {fa fb : M D} {p pos2 : Pos} (hg2 : Gl X "range") (hm2 : X.mg "range" = none) (ha : PE X a (rdD X.K pn fa)) (hb : PE X b (rdD X.K pn fb)) (nb : nstar b = true) (hmk : behindInMarks .In (.Call (.Name "range" p) [b] [] pos2) = false) :
    IE X pn (.Compare a [.In] [.Call (.Name "range" p) [b] [] pos2] pos) (gBin inrD fa fb) := by
  have hs : starEach [b] X.env = (false, eval b X.env) :: starEach [] X.env := star_of nb [] X.env
  have h1 := pe_callTy (p := p) (pos := pos2) cr_range1 hg2 hm2 (by decide +kernel) (pa_cons hb pa_nil hs) (by decide) (by decide) hs (by rfl)
  have key : ∀ σ H Q, rdE X.K pn (gBin inrD fa fb) σ H Q → tOp (fun x y H Q => ∃ i a lo hi, x = V.int i ∧ y = V.ref a ∧ H a = some (.rng lo hi) ∧ Q (.bl (decide (lo ≤ i ∧ i < hi))) H) (rdD X.K pn fa) (tCB (fun vs H Q => ∃ n, vs = [V.int n] ∧ ∀ p, H p = none → Q (.ref p) (upd H p (.rng 0 n))) (tCons (rdD X.K pn fb) tNil)) σ H Q := by
    intro σ H Q h
    obtain ⟨e, J, F, s, t, e', h, q⟩ := h
    obtain ⟨x, e1, h1, h⟩ := bnd_ok h
    obtain ⟨y, e2, h2, h⟩ := bnd_ok h
    obtain ⟨h3, rfl⟩ := opt_ok h
    refine ⟨e, J, F, s, x, e1, h1, fun v H1 J1 F1 s1 r1 tr1 => ?_⟩
    refine ⟨e1, J1, F1, s1, y, _, h2, fun u H2 J2 F2 s2 r2 tr2 => ?_⟩
    unfold inrD at h3
    split at h3
    · split at h3
      · rename_i n i hx hy hz
        cases h3
        cases r1
        cases r2
        refine ⟨_, rfl, fun p hp => ⟨_, p, 0, _, rfl, rfl, upd_same, ?_⟩⟩
        obtain ⟨s3, o3, tr3⟩ := (New.junk (o := .rng 0 _) (.bl _) s2.jd hp).sr s2
        exact q _ _ _ _ _ s3 o3 ((tr1.trans tr2).trans tr3)
      · cases h3
    · cases h3
  exact ⟨PE.weak (pe_cmpR op_in_rng ha h1 hmk) key, fun _ => PT.weak (pt_cmpR op_in_rng ha h1 hmk) fun σ H Q q => key _ _ _ (rdT_of q), rfl⟩
/-- s.join(texts) -/
def strsD : List D → Option (List Str)
  | [] => some []
  | .str b :: r => (strsD r).map (b :: ·)
  | _ => none
theorem strs_rule {K : PySem.W.Frag} {J : Addr → Prop} {H : Hp} : ∀ {ds : List D} {bs : List Str} {vs : List V}, strsD ds = some bs → RDs K J H vs ds → vs = bs.map V.str
  | [], _, _, h, .nil => by cases h; rfl
  | d :: ds, bs, _, h, .cons r s => by
    cases d with
    | str b =>
      unfold strsD at h
      cases hb : strsD ds with
      | none => rw [hb] at h; cases h
      | some bs' =>
        rw [hb] at h
        cases h
        cases r
        rw [strs_rule hb s]
        rfl
    | _ => cases h
def joinD : D → D → Option T
  | .str a, .list ds => (strsD ds).bind fun ys => if (ys.map (·.length)).sum + ys.length * a.length ≤ 100000 then some (.leaf (.str (Txt.join a ys))) else none
  | _, _ => none
theorem ie_join {fa fb : M D} {apos : Pos} (ho : PE X a (rdD X.K pn fa)) (hs : ∀ e x e', fa e = .ok x e' → ∃ z, x = .str z) (hb : PE X b (rdD X.K pn fb)) (nb : nstar b = true) (hbase : attributeBase a "join" X.env (eval a X.env) = eval a X.env) (hline : (apos.endLine == pos.line) = true) :
    IE X pn (.Call (.Attribute a "join" apos) [b] [] pos) (gBin joinD fa fb) := by
  refine ie_mk (PE.weak (pe_join ho hb (star_of nb [] X.env) hbase hline) fun σ H Q h => ?_)
  obtain ⟨e, J, F, s, t, e', h, q⟩ := h
  obtain ⟨x, e1, h1, h⟩ := bnd_ok h
  obtain ⟨y, e2, h2, h⟩ := bnd_ok h
  obtain ⟨h3, rfl⟩ := opt_ok h
  obtain ⟨z, rfl⟩ := hs _ _ _ h1
  refine ⟨e, J, F, s, _, e1, h1, fun v H1 J1 F1 s1 r1 tr1 => ?_⟩
  cases r1
  refine ⟨⟨_, rfl⟩, e1, J1, F1, s1, y, _, h2, fun u H2 J2 F2 s2 r2 tr2 => ?_⟩
  unfold joinD at h3
  split at h3
  · rename_i a1 ds hx
    obtain ⟨ys, hy, h4⟩ := Option.bind_eq_some_iff.mp h3
    split at h4
    · cases hx
      cases h4
      cases r2 with
      | lst j p r =>
        obtain ⟨s3, o3, tr3⟩ := (New.same (K := X.K) (H := H2) (v := .str (Txt.join z ys)) (d := .str (Txt.join z ys)) (.str _) s2.jd).sr s2
        exact ⟨_, _, ys, rfl, rfl, .inl (by rw [← strs_rule hy r]; exact .inl (.inl p)), by omega, q _ _ _ _ _ s3 o3 ((tr1.trans tr2).trans tr3)⟩
    · cases h4
  · cases h3
end
end IL

namespace IL
open PySem PySem.Spec PyProof.Rows L2

/-! ### the written programs, without places -/
inductive Bop where
  | add | sub | mul | fdv | mod | pow | rep
  deriving DecidableEq
def Bop.o : Bop → Operator
  | .add => .Add | .sub => .Sub | .mul => .Mult | .fdv => .FloorDiv | .mod => .Mod | .pow => .Pow | .rep => .Mult
def Bop.d : Bop → D → D → Option T
  | .add => addD | .sub => subD | .mul => mulD | .fdv => fdvD | .mod => modD | .pow => powD | .rep => repD
inductive Cop where
  | eq | ne | lt | le | gt | ge | is | isnt | in | nin
  deriving DecidableEq
def Cop.o : Cop → CmpOp
  | .eq => .Eq | .ne => .NotEq | .lt => .Lt | .le => .LtE | .gt => .Gt | .ge => .GtE | .is => .Is | .isnt => .IsNot | .in => .In | .nin => .NotIn
def Cop.d : Cop → D → D → Option T
  | .eq => eqD | .ne => neD | .lt => ltD | .le => leD | .gt => gtD | .ge => geD | .is => isD | .isnt => isntD | .in => inD | .nin => ninD
inductive Bif where
  | len | abs | list | tuple | all | any | sum | max | min | repr | str | int | maxL | minL
  deriving DecidableEq
def Bif.nm : Bif → Str
  | .len => "len" | .abs => "abs" | .list => "list" | .tuple => "tuple" | .all => "all" | .any => "any" | .sum => "sum" | .max => "max" | .min => "min" | .repr => "repr" | .str => "str" | .int => "int" | .maxL => "max" | .minL => "min"
def Bif.d : Bif → List D → Option T
  | .len => lenD | .abs => absD | .list => listD | .tuple => tupleD | .all => allD | .any => anyD | .sum => sumD | .max => max2D | .min => min2D | .repr => reprD | .str => strOfD | .int => intOfD | .maxL => maxLD | .minL => minLD
mutual
inductive C where
  | var (i : Nat)
  | int (n : Int)
  | str (s : Str)
  | bl (b : Bool)
  | non
  | glb (x : Str)
  | bin (op : Bop) (a b : C)
  | neg (a : C)
  | cmp (op : Cop) (a b : C)
  | vcmp (op : Cop) (i : Nat) (b : C)
  | chain (op op' : Cop) (a b c : C)
  | and (a b : C)
  | or (a b : C)
  | not (a : C)
  | ite (c a b : C)
  | ix (a b : C)
  | vix (i : Nat) (b : C)
  | sl (a : C) (lo hi : Co)
  | tup (cs : Cs)
  | lst (cs : Cs)
  | call (f : Str) (cs : Cs)
  | bif (b : Bif) (cs : Cs)
  | isi (t : Ty) (a : C)
  | comp (vs : List Nat) (tg : Tg) (it : It2) (t : Co) (el : C)
  | push (i : Nat) (a : C)
  | cnt (a b : C)
  | lrg (a b : C)
  | inr (a b : C)
  | join (s : Str) (a : C)
inductive Co where
  | no
  | so (c : C)
inductive Cs where
  | nil
  | val (c : C) (r : Cs)
  | own (c : C) (r : Cs)
  | lend (i : Nat) (r : Cs)
inductive Tg where
  | nm (i : Nat)
  | tp (ts : Tgs)
  | sub (i : Nat) (k : C)
inductive Tgs where
  | nil
  | cons (t : Tg) (r : Tgs)
inductive It2 where
  | seq (c : C)
  | rng1 (c : Cs)
  | rng2 (c : Cs)
  | zip (c : Cs)
  | enm (c : Cs)
end
mutual
inductive S where
  | set (i : Nat) (c : C)
  | fed (i : Nat) (f : Str)
  | asg (t : Tg) (c : C)
  | par (i j : Nat) (cs : Cs)
  | ret (c : C)
  | retN
  | exp (c : C)
  | ifs (c : C) (a b : Ss)
  | whl (n : Nat) (c : C) (b : Ss)
  | fore (t : Tg) (it : It2) (b : Ss)
  | brk
  | cnt
  | pass
inductive Ss where
  | nil
  | cons (s : S) (r : Ss)
end
/-- what stands around: the defs, the module's constants, what the law is fed -/
structure Fe where
  np : Nat
  lent : List Nat
  sem : FSem
structure Wd where
  fn : Str → Option Fe
  glb : Str → Option D
  feed : Option T := none

/-! ### what they tell -/
def gGlb (o : Option D) : M D := opt o
def gNeg (f : M D) : M T := bnd f fun d => match d with
  | .int i => ret (.leaf (.int (-i)))
  | _ => bad
/-- a name's value looked at, as it is then -/
def onlyB (o : Option T) : Option T := match o with
  | some (.leaf (.bool b)) => some (.leaf (.bool b))
  | _ => none
def gVcmp (g : D → D → Option T) (i : Nat) (fb : M D) : M T := bnd (held i) fun _ => bnd fb fun y => peek i fun t => onlyB (g (frz t) y)
def lens : Cs → List (Option Nat)
  | .nil => []
  | .val _ r => none :: lens r
  | .own _ r => none :: lens r
  | .lend i r => some i :: lens r
mutual
def evC (W : Wd) : C → M T
  | .var i => lf (gVar i)
  | .int n => lf (ret (.int n))
  | .str s => lf (ret (.str s))
  | .bl b => lf (ret (.bool b))
  | .non => lf (ret .none)
  | .glb x => lf (gGlb (W.glb x))
  | .bin op a b => gBin op.d (fz (evC W a)) (fz (evC W b))
  | .neg a => gNeg (fz (evC W a))
  | .cmp op a b => gBin op.d (fz (evC W a)) (fz (evC W b))
  | .vcmp op i b => gVcmp op.d i (fz (evC W b))
  | .chain op op' a b c => gChain op.d op'.d (fz (evC W a)) (fz (evC W b)) (fz (evC W c))
  | .and a b => gAnd (evC W a) (evC W b)
  | .or a b => gOr (evC W a) (evC W b)
  | .not a => gNot (evC W a)
  | .ite c a b => cond (tst (evC W c)) (evC W a) (evC W b)
  | .ix a b => lf (gIx (fz (evC W a)) (fz (evC W b)))
  | .vix i b => lf (gVix i (fz (evC W b)))
  | .sl a lo hi => gSl (fz (evC W a)) (evO W lo) (evO W hi)
  | .tup cs => gTup (evCs W cs)
  | .lst cs => gLst (evCs W cs)
  | .call f cs => (match W.fn f with
    | some fe => if (lens cs).length = fe.np then gCallF fe.sem fe.lent (lens cs) (evCs W cs) else bad
    | none => bad)
  | .bif b cs => gCall b.d (fzs (evCs W cs))
  | .isi t a => isiG t (fz (evC W a))
  | .comp vs tg it t el => bnd (evI W it) fun ds => gLc vs (evTg W tg) (evCond W t) (fz (evC W el)) ds []
  | .push i a => gPush i (evC W a)
  | .cnt a b => gBin cntD (fz (evC W a)) (fz (evC W b))
  | .lrg a b => gBin lrgD (fz (evC W a)) (fz (evC W b))
  | .inr a b => gBin inrD (fz (evC W a)) (fz (evC W b))
  | .join s a => gBin joinD (IL.ret (.str s)) (fz (evC W a))
def evO (W : Wd) : Co → M (Option Int)
  | .no => ret none
  | .so c => gPart (fz (evC W c))
def evCond (W : Wd) : Co → M Bool
  | .no => ret true
  | .so c => tst (evC W c)
def evCs (W : Wd) : Cs → M (List T)
  | .nil => ret []
  | .val c r => consM (lf (fz (evC W c))) (evCs W r)
  | .own c r => consM (evC W c) (evCs W r)
  | .lend i r => consM (gTake i) (evCs W r)
def evTg (W : Wd) : Tg → D → M Unit
  | .nm i => fun d => store i (.leaf d)
  | .tp ts => unT (tgN ts) (evTgs W ts)
  | .sub i k => gPut i (fz (evC W k))
def evTgs (W : Wd) : Tgs → List D → M Unit
  | .nil => fun ds => match ds with
    | [] => ret ()
    | _ => bad
  | .cons t r => consG (evTg W t) (evTgs W r)
def tgN : Tgs → Nat
  | .nil => 0
  | .cons _ r => tgN r + 1
def evI (W : Wd) : It2 → M (List D)
  | .seq c => gItr (fz (evC W c))
  | .rng1 cs => gRng rng1 (fzs (evCs W cs))
  | .rng2 cs => gRng rng2 (fzs (evCs W cs))
  | .zip cs => gRng zip2 (fzs (evCs W cs))
  | .enm cs => gRng enum1 (fzs (evCs W cs))
end
mutual
def evS (W : Wd) : S → M Fl
  | .set i c => gSet i (evC W c)
  | .fed i _ => (match W.feed with
    | some t => gSet i (ret t)
    | none => bad)
  | .asg t c => gAsg (fz (evC W c)) (evTg W t)
  | .par i j cs => gPar i j (evCs W cs)
  | .ret c => gRet (evC W c)
  | .retN => ret (.rt (.leaf .none))
  | .exp c => gExp (evC W c)
  | .ifs c a b => gIfS (tst (evC W c)) (evSs W a) (evSs W b)
  | .whl n c b => gWhile n (tst (evC W c)) (evSs W b)
  | .fore t it b => bnd (evI W it) (gFor (evTg W t) (evSs W b))
  | .brk => ret .bk
  | .cnt => ret .ct
  | .pass => ret .nx
def evSs (W : Wd) : Ss → M Fl
  | .nil => ret .nx
  | .cons s r => gSeq (evS W s) (evSs W r)
end
end IL

namespace IL
open PySem PySem.Spec PyProof.Rows L2

/-! ### does a text say what a written program says -/
def nmOk (x : Str) : Bool := !(x == ("__debug__" : Str)) && !(x == ("__classdict__" : Str))
def visB (sc : Scope) (x : Str) : Bool := match sc.names.lookup x with
  | some .local => true
  | some .cell => true
  | some .free => true
  | _ => false
def gloB (sc : Scope) (x : Str) : Bool := match sc.names.lookup x with
  | some .globalImplicit => true
  | _ => false
def isNm (N : List Str) (sc : Scope) (i : Nat) : Expr → Bool
  | .Name x _ => decide (N[i]? = some x) && visB sc x && nmOk x
  | _ => false
def isGl (sc : Scope) (x : Str) : Expr → Bool
  | .Name y _ => decide (y = x) && gloB sc x && nmOk x
  | _ => false
def one (e : Expr) : Expr := match e with
  | .BoolOp _ [y] _ => if notIf y then y else e
  | _ => e
mutual
def chkC (N : List Str) (L : List Nat) (sc : Scope) : C → Expr → Bool
  | .var i, e => isNm N sc i e
  | .int n, e => (match e with
    | .Constant (.int m) _ _ => decide (m = n)
    | _ => false)
  | .str s, e => (match e with
    | .Constant (.str m) _ _ => decide (m = s)
    | _ => false)
  | .bl s, e => (match e with
    | .Constant (.bool m) _ _ => decide (m = s)
    | _ => false)
  | .non, e => (match e with
    | .Constant .none _ _ => true
    | _ => false)
  | .glb x, e => isGl sc x e
  | .bin op a b, e => (match e with
    | .BinOp ea o eb _ => decide (o = op.o) && chkC N L sc a ea && chkC N L sc b eb
    | _ => false)
  | .neg a, e => (match e with
    | .UnaryOp .USub ea _ => chkC N L sc a ea
    | _ => false)
  | .cmp op a b, e => (match e with
    | .Compare ea [o] [eb] _ => decide (o = op.o) && chkC N L sc a ea && chkC N L sc b eb && !behindInMarks o eb
    | _ => false)
  | .vcmp op i b, e => (match e with
    | .Compare ea [o] [eb] _ => decide (o = op.o) && isNm N sc i ea && chkC N L sc b eb && !behindInMarks o eb
    | _ => false)
  | .chain op op' a b c, e => (match e with
    | .Compare ea [o, o'] [eb, ec] _ => decide (o = op.o) && decide (o' = op'.o) && chkC N L sc a ea && chkC N L sc b eb && chkC N L sc c ec && !lastMarks [o, o'] [eb, ec]
    | _ => false)
  | .and a b, e => (match e with
    | .BoolOp .And (x :: y :: r) p => chkC N L sc a x && notIf x && chkC N L sc b (one (.BoolOp .And (y :: r) p))
    | _ => false)
  | .or a b, e => (match e with
    | .BoolOp .Or (x :: y :: r) p => chkC N L sc a x && notIf x && chkC N L sc b (one (.BoolOp .Or (y :: r) p))
    | _ => false)
  | .not a, e => (match e with
    | .UnaryOp .Not ea _ => chkC N L sc a ea && notIf ea
    | _ => false)
  | .ite c a b, e => (match e with
    | .IfExp ec ea eb _ => chkC N L sc c ec && notIf ec && chkC N L sc a ea && chkC N L sc b eb
    | _ => false)
  | .ix a b, e => (match e with
    | .Subscript ea eb _ => chkC N L sc a ea && chkC N L sc b eb && isPlain eb
    | _ => false)
  | .vix i b, e => (match e with
    | .Subscript ea eb _ => isNm N sc i ea && chkC N L sc b eb && isPlain eb
    | _ => false)
  | .sl a lo hi, e => (match e with
    | .Subscript ea (.Slice l h none _) _ => chkC N L sc a ea && chkO N L sc lo l && chkO N L sc hi h
    | _ => false)
  | .tup cs, e => (match e with
    | .Tuple es _ _ => chkCs N L sc cs es
    | _ => false)
  | .lst cs, e => (match e with
    | .List es _ => chkCs N L sc cs es
    | _ => false)
  | .call f cs, e => (match e with
    | .Call g es [] _ => isGl sc f g && chkCs N L sc cs es
    | _ => false)
  | .bif b cs, e => (match e with
    | .Call g (a :: es) [] _ => isGl sc b.nm g && chkCs N L sc cs (a :: es)
    | _ => false)
  | .isi t a, e => (match e with
    | .Call g [ea, h] [] _ => isGl sc "isinstance" g && chkC N L sc a ea && isGl sc t.nmS h
    | _ => false)
  | .comp vs tg it t el, e => (match e with
    | .ListComp elt [⟨etg, iter, ifs, 0⟩] scope _ =>
      decide ((vs.filterMap fun i => N[i]?.map fun x => (x, i)).map (·.2) = vs) && blkC N sc scope (vs.filterMap fun i => N[i]?.map fun x => (x, i)) && (vs.all fun i => !L.contains i) &&
      chkI N L sc it etg iter && chkTg N L (relS scope sc) true vs tg etg && chkIf N L (relS scope sc) t ifs && chkC N L (relS scope sc) el elt
    | _ => false)
  | .push i a, e => (match e with
    | .Call (.Attribute o at' apos) [ea] [] pos => decide (at' = ("append" : Str)) && isNm N sc i o && chkC N L sc a ea && (apos.endLine == pos.line)
    | _ => false)
  | .cnt a b, e => (match e with
    | .Call (.Attribute (.List es lp) at' apos) [eb] [] pos => decide (at' = ("count" : Str)) && chkC N L sc a (.List es lp) && chkC N L sc b eb && (apos.endLine == pos.line)
    | _ => false)
  | .lrg a b, e => (match e with
    | .Call g [.Call g2 [ea, eb] [] _] [] _ => isGl sc "list" g && isGl sc "range" g2 && chkC N L sc a ea && chkC N L sc b eb
    | _ => false)
  | .inr a b, e => (match e with
    | .Compare ea [.In] [.Call g [eb] [] p] _ => isGl sc "range" g && chkC N L sc a ea && chkC N L sc b eb && !behindInMarks .In (.Call g [eb] [] p)
    | _ => false)
  | .join s a, e => (match e with
    | .Call (.Attribute (.Constant (.str m) k p) at' apos) [ea] [] pos => decide (at' = ("join" : Str)) && decide (m = s) && chkC N L sc a ea && (apos.endLine == pos.line)
    | _ => false)
def chkO (N : List Str) (L : List Nat) (sc : Scope) : Co → Option Expr → Bool
  | .no, e => (match e with
    | none => true
    | _ => false)
  | .so c, e => (match e with
    | some ec => chkC N L sc c ec
    | _ => false)
def chkIf (N : List Str) (L : List Nat) (sc : Scope) : Co → List Expr → Bool
  | .no, e => (match e with
    | [] => true
    | _ => false)
  | .so c, e => (match e with
    | [ec] => chkC N L sc c ec && notIf ec
    | _ => false)
def chkCs (N : List Str) (L : List Nat) (sc : Scope) : Cs → List Expr → Bool
  | .nil, es => (match es with
    | [] => true
    | _ => false)
  | .val c r, es => (match es with
    | e :: es => chkC N L sc c e && chkCs N L sc r es
    | _ => false)
  | .own c r, es => (match es with
    | e :: es => chkC N L sc c e && chkCs N L sc r es
    | _ => false)
  | .lend i r, es => (match es with
    | e :: es => isNm N sc i e && chkCs N L sc r es
    | _ => false)
def chkTg (N : List Str) (L : List Nat) (sc : Scope) (blk : Bool) (vs : List Nat) : Tg → Expr → Bool
  | .nm i, e => (match e with
    | .Name x _ => decide (N[i]? = some x) && (decide (sc.names.lookup x = some .local) || (!blk && decide (sc.names.lookup x = some .cell))) && !L.contains i && (!blk || vs.contains i)
    | _ => false)
  | .tp ts, e => (match e with
    | .Tuple es _ _ => chkTgs N L sc blk vs ts es
    | _ => false)
  | .sub i k, e => (match e with
    | .Subscript a b _ => isNm N sc i a && chkC N L sc k b && isPlain b
    | _ => false)
def chkTgs (N : List Str) (L : List Nat) (sc : Scope) (blk : Bool) (vs : List Nat) : Tgs → List Expr → Bool
  | .nil, es => (match es with
    | [] => true
    | _ => false)
  | .cons t r, es => (match es with
    | e :: es => chkTg N L sc blk vs t e && chkTgs N L sc blk vs r es
    | _ => false)
def chkI (N : List Str) (L : List Nat) (sc : Scope) : It2 → Expr → Expr → Bool
  | .seq c, _, e => chkC N L sc c e && (match e with
    | .Set .. => false
    | _ => true)
  | .rng1 cs, _, e => (match e with
    | .Call g [a] [] _ => isGl sc "range" g && chkCs N L sc cs [a] && nstar a
    | _ => false)
  | .rng2 cs, _, e => (match e with
    | .Call g [a, b] [] _ => isGl sc "range" g && chkCs N L sc cs [a, b] && nstar a && nstar b
    | _ => false)
  | .zip cs, tg, e => (match tg, e with
    | .Tuple .., .Call g [a, b] [] _ => isGl sc "zip" g && chkCs N L sc cs [a, b] && nstar a && nstar b
    | _, _ => false)
  | .enm cs, tg, e => (match tg, e with
    | .Tuple .., .Call g [a] [] _ => isGl sc "enumerate" g && chkCs N L sc cs [a] && nstar a
    | _, _ => false)
end
def notComp : Expr → Bool
  | .ListComp .. => false
  | .SetComp .. => false
  | .DictComp .. => false
  | _ => true
/-- a display to names would be stored the other way round -/
def fairTo (a b : Expr) : Bool := match b with
  | .Tuple .. => (match a with
    | .Tuple [.Subscript .., .Subscript ..] _ _ => true
    | .Tuple [.Tuple .., .Tuple ..] _ _ => true
    | .Subscript .. => true
    | _ => false)
  | _ => (match a with
    | .Tuple .. => true
    | .Subscript .. => true
    | _ => false)
mutual
def chkS (N : List Str) (L : List Nat) (sc : Scope) : S → Stmt → Bool
  | .set i c, st => (match st with
    | .Assign [.Name x px] e p => decide (N[i]? = some x) && !L.contains i && chkC N L sc c e &&
      (if notComp e then decide (sc.names.lookup x = some .local) || decide (sc.names.lookup x = some .cell)
       else (match e with
        | .ListComp _ [⟨_, _, _, 0⟩] scope q => (decide (sc.names.lookup x = some .local) && (px.line == q.line) && !(scope.names.any fun (n, k) => n == x && (k == .local || k == .cell))) || decide (sc.names.lookup x = some .cell)
        | _ => false))
    | _ => false)
  | .fed i f, st => (match st with
    | .Assign [.Name x px] (.Call g [h] [] _) p => decide (N[i]? = some x) && !L.contains i && isGl sc f g && isNm N sc 0 h && (decide (sc.names.lookup x = some .local) || decide (sc.names.lookup x = some .cell))
    | _ => false)
  | .asg t c, st => (match st with
    | .Assign [a] e _ => chkTg N L sc false [] t a && chkC N L sc c e && fairTo a e
    | _ => false)
  | .par i j cs, st => (match st with
    | .Assign [.Tuple [.Name x px, .Name y py] _ _] (.Tuple [a, b] _ _) _ => decide (N[i]? = some x) && decide (N[j]? = some y) && decide (i ≠ j) && decide (sc.names.lookup x = some .local) && decide (sc.names.lookup y = some .local) && !L.contains i && !L.contains j &&
      chkCs N L sc cs [a, b] && nstar a && nstar b && (px.line == py.line) && !([a, b].all (foldedForSure 8)) && !([a, b].all (constantsAlone 8)) && decide (x ≠ y)
    | _ => false)
  | .ret c, st => (match st with
    | .Return (some e) _ => chkC N L sc c e
    | _ => false)
  | .retN, st => (match st with
    | .Return none _ => true
    | _ => false)
  | .exp c, st => (match st with
    | .Expr e _ => chkC N L sc c e && notComp e
    | _ => false)
  | .ifs c a b, st => (match st with
    | .If e sa sb _ => chkC N L sc c e && notIf e && chkSs N L sc a sa && chkSs N L sc b sb
    | _ => false)
  | .whl _ c b, st => (match st with
    | .While e sb [] _ => chkC N L sc c e && notIf e && chkSs N L sc b sb
    | _ => false)
  | .fore t it b, st => (match st with
    | .For a e sb [] _ => chkTg N L sc false [] t a && chkI N L sc it a e && chkSs N L sc b sb
    | _ => false)
  | .brk, st => (match st with
    | .Break _ => true
    | _ => false)
  | .cnt, st => (match st with
    | .Continue _ => true
    | _ => false)
  | .pass, st => (match st with
    | .Pass _ => true
    | _ => false)
def chkSs (N : List Str) (L : List Nat) (sc : Scope) : Ss → List Stmt → Bool
  | .nil, sts => (match sts with
    | [] => true
    | _ => false)
  | .cons s r, sts => (match sts with
    | st :: sts => chkS N L sc s st && chkSs N L sc r sts
    | _ => false)
end
end IL

namespace IL
open PySem PySem.Spec PyProof.Rows L2

def bltNames : List Str := ["len", "abs", "list", "tuple", "all", "any", "sum", "max", "min", "repr", "isinstance", "int", "bool", "str", "dict", "range", "zip", "enumerate"]
structure GX (X : Cx) (W : Wd) (N : List Str) (sc : Scope) (L : List Nat) (pn : List (Nat × V)) (blk : Bool) : Prop where
  calm : X.calm = true
  xe : X.xe = fun _ _ => False
  hN : X.N = N
  nd : N.Nodup
  hsc : X.env.scope = sc
  kd : sc.kind = .function
  units : X.A.units + 66 < cLine
  gd : X.A.guards = some []
  blt : ∀ x ∈ bltNames, X.mg x = none
  fn : ∀ x fe, W.fn x = some fe → ∃ k f fd ps, FnG X.prog X.w X.K X.mg X.base CX0 k f fd ps (spG X.K fe.np fe.lent fe.sem) ∧ Room k X.A ∧ X.mg x = some (.ref f) ∧ PySem.W.keepIn X.K (.ref f) = true ∧ Binds X.K fd ps []
  glb : ∀ x d, W.glb x = some d → ∃ v u, X.mg x = some u ∧ RelV v u ∧ ∀ J H, RD X.K J H v d
  feed : blk = false → ∀ t, W.feed = some t → ∀ f g h pos, isGl sc f g = true → isNm N sc 0 h = true → PE X (.Call g [h] [] pos) (rdE X.K pn (ret t))
  pin : ∀ p ∈ pn, p.1 ∈ L
  fnl : blk = false → ∀ x, X.fn x = true
section
variable {X : Cx} {W : Wd} {N : List Str} {sc : Scope} {L : List Nat} {pn : List (Nat × V)} {blk : Bool}
theorem ie_bad {e : Expr} (h : nstar e = true) : IE X pn e bad :=
  ⟨⟨fun pins s σ H Q I ⟨e, J, F, s', t, e', h, q⟩ => by cases h⟩, fun _ => ⟨fun pins s σ H Q I ⟨e, J, F, s', t, e', h, q⟩ => by cases h⟩, h⟩
theorem nmOk_d {x : Str} (h : nmOk x = true) : (x == ("__debug__" : Str)) = false ∧ (x == ("__classdict__" : Str)) = false := by
  unfold nmOk at h
  simp only [Bool.and_eq_true, Bool.not_eq_true'] at h
  exact h
theorem visB_vis {x : Str} (h : visB sc x = true) : Vis sc x := by
  unfold visB at h
  split at h
  · exact .inl (by assumption)
  · exact .inr (.inl (by assumption))
  · exact .inr (.inr (by assumption))
  · cases h
theorem nm_var (g : GX X W N sc L pn blk) {i : Nat} {e : Expr} (h : isNm N sc i e = true) : ∃ x p, e = .Name x p ∧ PE X e (tVar i) := by
  unfold isNm at h
  split at h
  · rename_i x p
    simp only [Bool.and_eq_true, decide_eq_true_eq] at h
    obtain ⟨⟨h1, h2⟩, h3⟩ := h
    obtain ⟨d1, d2⟩ := nmOk_d h3
    refine ⟨x, p, rfl, pe_var (by rw [g.hN]; exact h1) ?_ d1 d2⟩
    rw [g.hsc]
    exact visB_vis h2
  · cases h
theorem gl_name (g : GX X W N sc L pn blk) {x : Str} {e : Expr} (h : isGl sc x e = true) : ∃ p, e = .Name x p ∧ Gl X x ∧ (x == ("__debug__" : Str)) = false := by
  unfold isGl at h
  split at h
  · rename_i y p
    simp only [Bool.and_eq_true, decide_eq_true_eq] at h
    obtain ⟨⟨rfl, h2⟩, h3⟩ := h
    refine ⟨p, rfl, ?_, (nmOk_d h3).1⟩
    unfold gloB at h2
    split at h2
    · show X.env.scope.names.lookup y = _
      rw [g.hsc]
      assumption
    · cases h2
  · cases h
theorem ie_of_one {e : Expr} {f : M T} (h : IE X pn (one e) f) : IE X pn e f := by
  unfold one at h
  split at h
  · rename_i op y p
    split at h
    · exact ie_one h (by assumption)
    · exact h
  · exact h
theorem bif_mem (b : Bif) : b.nm ∈ bltNames := by cases b <;> simp [Bif.nm, bltNames]
theorem ie_bif (g : GX X W N sc L pn blk) {b : Bif} {p pos : Pos} {a : Expr} {es : List Expr} {f : M (List T)} (hg : Gl X b.nm) (hdb : (b.nm == ("__debug__" : Str)) = false) (hs : starEach (a :: es) X.env = (false, eval a X.env) :: starEach es X.env) (hpl : (backTo pos (starEach es X.env)).any (·.1) = false)
    (h : PA X (a :: es) (rdEs X.K pn f)) : IE X pn (.Call (.Name b.nm p) (a :: es) [] pos) (gCall b.d (fzs f)) := by
  have hm : X.mg b.nm = none := g.blt _ (bif_mem b)
  have fin : ∀ {id : String}, bootBuiltins b.nm = some (.builtin id) → CallS X (.builtin id) b.d → b.nm ≠ "__name__" → IE X pn (.Call (.Name b.nm p) (a :: es) [] pos) (gCall b.d (fzs f)) := fun hv ⟨r, h1, h2⟩ hn =>
    ie_mk (PE.weak (pe_callB h1 hg hm hv (pa_fzs h) hn hdb hs hpl) fun σ H Q q => tCB_rd h2 q)
  have finT : ∀ {id : String}, bootBuiltins b.nm = some (.type id) → CallS X (.type id) b.d → b.nm ≠ "__name__" → IE X pn (.Call (.Name b.nm p) (a :: es) [] pos) (gCall b.d (fzs f)) := fun hv ⟨r, h1, h2⟩ hn =>
    ie_mk (PE.weak (pe_callTy h1 hg hm hv (pa_fzs h) hn hdb hs hpl) fun σ H Q q => tCB_rd h2 q)
  cases b with
  | len => exact fin (by decide +kernel) cs_len (by decide)
  | abs => exact fin (by decide +kernel) cs_abs (by decide)
  | list => exact finT (by decide +kernel) cs_list (by decide)
  | tuple => exact finT (by decide +kernel) cs_tuple (by decide)
  | all => exact fin (by decide +kernel) (cs_all g.calm) (by decide)
  | any => exact fin (by decide +kernel) (cs_any g.calm) (by decide)
  | sum => exact fin (by decide +kernel) (cs_sum g.calm) (by decide)
  | max => exact fin (by decide +kernel) (cs_max2 g.calm) (by decide)
  | min => exact fin (by decide +kernel) (cs_min2 g.calm) (by decide)
  | repr => exact fin (by decide +kernel) (cs_repr g.units g.gd) (by decide)
  | str => exact finT (by decide +kernel) cs_str (by decide)
  | int => exact finT (by decide +kernel) cs_int (by decide)
  | maxL => exact fin (by decide +kernel) (cs_maxL g.calm) (by decide)
  | minL => exact fin (by decide +kernel) (cs_minL g.calm) (by decide)
theorem bop_ok (g : GX X W N sc L pn blk) (op : Bop) : OpS X (binaryOp op.o) op.d := by
  cases op with
  | add => exact os_add
  | sub => exact os_sub
  | mul => exact os_mul
  | fdv => exact os_fdv
  | mod => exact os_mod
  | pow => exact os_pow
  | rep => exact os_rep
theorem cop_ok (g : GX X W N sc L pn blk) (op : Cop) : OpS X (compareOp op.o) op.d := by
  have h1 : X.A.units + 64 < cLine := by have := g.units; omega
  have h2 : X.A.units + 65 < cLine := by have := g.units; omega
  cases op with
  | eq => exact os_eq h1
  | ne => exact os_ne h1
  | lt => exact os_lt
  | le => exact os_le
  | gt => exact os_gt
  | ge => exact os_ge
  | is => exact os_is
  | isnt => exact os_isnt
  | «in» => exact os_in h2
  | nin => exact os_notIn h2
theorem onlyB_some {o : Option T} {t : T} (h : onlyB o = some t) : ∃ b, o = some (.leaf (.bool b)) ∧ t = .leaf (.bool b) := by
  unfold onlyB at h
  split at h
  · cases h; exact ⟨_, rfl, rfl⟩
  · cases h
theorem vcmp_rd {i : Nat} {gg : D → D → Option T} {r : R2} (h2 : RuleD X r gg) {fb : M D} {σ : L2.St} {H : Hp} {Q : VK} (h : rdE X.K pn (gVcmp gg i fb) σ H Q) : tOp r (tVar i) (rdD X.K pn fb) σ H Q := by
  obtain ⟨e, J, F, s, t, e', h, q⟩ := h
  obtain ⟨_, e0, k1, k2⟩ := bnd_ok h
  obtain ⟨rfl, t0, h0⟩ := held_ok k1
  obtain ⟨y, e1, k3, k4⟩ := bnd_ok k2
  obtain ⟨rfl, x, hx, k5⟩ := peek_ok k4
  obtain ⟨b, k6, rfl⟩ := onlyB_some k5
  obtain ⟨v, fp0, hv, _⟩ := s.at h0
  refine ⟨v, hv, _, J, F, s, y, _, k3, fun u H2 J2 F2 s2 r2 tr2 => ?_⟩
  obtain ⟨v', fp, hv', rt⟩ := s2.at hx
  rw [hv] at hv'
  cases hv'
  have jd' : ∀ a, (J2 a ∨ a ∈ fp) → H2 a ≠ none := fun a z => by
    rcases z with z | z
    · exact s2.jd a z
    · exact RT.dom rt a z
  refine h2 (frz x) y _ k6 (fun a => J2 a ∨ a ∈ fp) H2 v u jd' (rt.frz (fun _ j => .inl j) fun _ z => .inr z) (r2.mono (fun _ j => .inl j) fun _ _ _ q => q) Q fun w H' J' fpw n => ?_
  have hrt := n.rt
  have e2 : w = .bl b := by
    cases hrt with
    | leaf r => cases r; rfl
  subst e2
  have dm : ∀ a, H2 a ≠ none → H' a ≠ none := fun a z => by
    cases q' : H2 a with
    | none => exact absurd q' z
    | some o => rw [n.keep a o q']; exact fun z => nomatch z
  have s3 : SR X.K pn σ H' _ J2 F2 := s2.step (fun _ j => j) (fun a o _ q => n.keep a o q) (fun a z => dm a (s2.jd a z)) s2.jf
  exact q _ H' J2 F2 [] s3 (own_leaf_bl s3.nd) (by
    rw [List.append_nil]
    exact tr2.trans ⟨fun a o q _ => n.keep a o q, dm, fun _ j => j, fun a z => .inl z, fun a z => .inl z⟩)
/-- the context of a comprehension's block -/
theorem GX.block (g : GX X W N sc L pn blk) {s : Shared} {H : Hp} {scope : Scope} {C : Addr} {cl : List (Str × Addr)} {fp : List Addr} (hk : scope.kind = .function) :
    GX (X.blk s H scope (compEnvC scope cl C X.env) fp) W N (relS scope sc) L pn true where
  calm := g.calm
  xe := rfl
  hN := g.hN
  nd := g.nd
  hsc := by
    show relS scope X.env.scope = _
    rw [g.hsc]
  kd := hk
  units := g.units
  gd := g.gd
  blt := g.blt
  fn := g.fn
  glb := g.glb
  feed := fun h => by cases h
  pin := g.pin
  fnl := fun h => by cases h

mutual
def tgVs : Tg → List Nat
  | .nm i => [i]
  | .tp ts => tgsVs ts
  | .sub _ _ => []
def tgsVs : Tgs → List Nat
  | .nil => []
  | .cons t r => tgVs t ++ tgsVs r
end
mutual
theorem okTgVs : ∀ (t : Tg) {sc : Scope} {vs : List Nat} {e : Expr}, chkTg N L sc true vs t e = true → ∀ i ∈ tgVs t, i ∈ vs
  | .nm i, sc, vs, e, h => by
    unfold chkTg at h
    split at h
    · simp only [Bool.and_eq_true, Bool.or_eq_true, Bool.not_true, Bool.false_eq_true, false_or, List.contains_eq_mem, decide_eq_true_eq] at h
      intro j hj
      simp [tgVs] at hj
      subst hj
      exact h.2
    · cases h
  | .tp ts, sc, vs, e, h => by
    unfold chkTg at h
    split at h
    · exact okTgsVs ts h
    · cases h
  | .sub i k, sc, vs, e, h => fun j hj => by simp [tgVs] at hj
theorem okTgsVs : ∀ (t : Tgs) {sc : Scope} {vs : List Nat} {e : List Expr}, chkTgs N L sc true vs t e = true → ∀ i ∈ tgsVs t, i ∈ vs
  | .nil, sc, vs, e, h => fun j hj => by simp [tgsVs] at hj
  | .cons t r, sc, vs, e, h => by
    unfold chkTgs at h
    split at h
    · simp only [Bool.and_eq_true] at h
      intro j hj
      simp only [tgsVs, List.mem_append] at hj
      rcases hj with hj | hj
      · exact okTgVs t h.1 j hj
      · exact okTgsVs r h.2 j hj
    · cases h
end
theorem notIf_one {e : Expr} (h : notIf e = true) : notIf e = true := h
def nstars : List Expr → Bool
  | [] => true
  | e :: r => nstar e && nstars r
theorem stars_none : ∀ {es : List Expr} (pos : Pos), nstars es = true → (backTo pos (starEach es X.env)).any (·.1) = false
  | [], _, _ => rfl
  | e :: r, pos, h => by
    simp only [nstars, Bool.and_eq_true] at h
    rw [star_of h.1]
    have := stars_none (es := r) pos h.2
    unfold backTo at this ⊢
    simpa using this
theorem cmp_not {e : Expr} (h : nstar e = true) : nstar e = true := h
mutual
theorem okC : ∀ (c : C) {X : Cx} {sc : Scope} {pn : List (Nat × V)} {blk : Bool}, GX X W N sc L pn blk → ∀ (e : Expr), chkC N L sc c e = true → IE X pn e (evC W c)
  | .var i, X, sc, pn, blk, g, e, h => by
    unfold chkC at h
    obtain ⟨x, p, rfl, hp⟩ := nm_var g h
    exact ie_mk (pe_lf (pe_var' hp))
  | .int n, X, sc, pn, blk, g, e, h => by
    unfold chkC at h
    split at h
    · simp only [decide_eq_true_eq] at h
      subst h
      exact ie_mk (pe_lf (pe_const' pe_int fun _ _ => .int _))
    · cases h
  | .str n, X, sc, pn, blk, g, e, h => by
    unfold chkC at h
    split at h
    · simp only [decide_eq_true_eq] at h
      subst h
      exact ie_mk (pe_lf (pe_const' pe_str fun _ _ => .str _))
    · cases h
  | .bl n, X, sc, pn, blk, g, e, h => by
    unfold chkC at h
    split at h
    · simp only [decide_eq_true_eq] at h
      subst h
      exact ie_mk (pe_lf (pe_const' pe_bl fun _ _ => .bl _))
    · cases h
  | .non, X, sc, pn, blk, g, e, h => by
    unfold chkC at h
    split at h
    · exact ie_mk (pe_lf (pe_const' pe_non fun _ _ => .non))
    · cases h
  | .glb x, X, sc, pn, blk, g, e, h => by
    unfold chkC at h
    obtain ⟨p, rfl, hg, hd⟩ := gl_name g h
    unfold evC gGlb
    cases hx : W.glb x with
    | none =>
      refine ie_mk (pe_lf ⟨fun pins s σ H Q I ⟨e, J, F, s', t, e', h, q⟩ => by cases h⟩)
    | some d =>
      obtain ⟨v, u, h1, h2, h3⟩ := g.glb x d hx
      exact ie_mk (pe_lf (pe_const' (pe_glob hg h1 h2 hd) h3))
  | .bin op a b, X, sc, pn, blk, g, e, h => by
    unfold chkC at h
    split at h
    · simp only [Bool.and_eq_true, decide_eq_true_eq] at h
      obtain ⟨⟨rfl, ha⟩, hb⟩ := h
      exact ie_bin (bop_ok g op) (pe_fz (okC a g _ ha).pe) (pe_fz (okC b g _ hb).pe)
    · cases h
  | .neg a, X, sc, pn, blk, g, e, h => by
    unfold chkC at h
    split at h
    · refine ie_mk (PE.weak (pe_un un_neg (pe_fz (okC a g _ h).pe)) fun σ H Q ⟨e, J, F, s, t, e', h, q⟩ => ?_)
      unfold evC gNeg at h
      obtain ⟨d, e1, k1, k2⟩ := bnd_ok h
      refine ⟨e, J, F, s, d, e1, k1, fun v H1 J1 F1 s1 r1 tr1 => ?_⟩
      split at k2
      · cases k2
        exact ⟨_, r1.int_inv, q _ H1 J1 F1 [] s1 ⟨.leaf (.int _), by simpa using s1.nd, fun _ z => nomatch z⟩ (by simpa using tr1)⟩
      · cases k2
    · cases h
  | .cmp op a b, X, sc, pn, blk, g, e, h => by
    unfold chkC at h
    split at h
    · simp only [Bool.and_eq_true, decide_eq_true_eq, Bool.not_eq_true'] at h
      obtain ⟨⟨⟨rfl, ha⟩, hb⟩, hm⟩ := h
      exact ie_cmp (cop_ok g op) (pe_fz (okC a g _ ha).pe) (pe_fz (okC b g _ hb).pe) hm
    · cases h
  | .vcmp op i b, X, sc, pn, blk, g, e, h => by
    unfold chkC at h
    split at h
    · simp only [Bool.and_eq_true, decide_eq_true_eq, Bool.not_eq_true'] at h
      obtain ⟨⟨⟨rfl, ha⟩, hb⟩, hm⟩ := h
      obtain ⟨x, p, rfl, hp⟩ := nm_var g ha
      obtain ⟨r, h1, h2⟩ := cop_ok g op
      have hb' := pe_fz (okC b g _ hb).pe
      exact ⟨PE.weak (pe_cmpR h1 hp hb' hm) fun σ H Q q => vcmp_rd h2 q, fun _ => PT.weak (pt_cmpR h1 hp hb' hm) fun σ H Q q => vcmp_rd h2 (rdT_of q), rfl⟩
    · cases h
  | .chain op op' a b c, X, sc, pn, blk, g, e, h => by
    unfold chkC at h
    split at h
    · simp only [Bool.and_eq_true, decide_eq_true_eq, Bool.not_eq_true'] at h
      obtain ⟨⟨⟨⟨⟨rfl, rfl⟩, ha⟩, hb⟩, hc⟩, hm⟩ := h
      exact pe_chain' (cop_ok g op) (cop_ok g op') (pe_fz (okC a g _ ha).pe) (pe_fz (okC b g _ hb).pe) (pe_fz (okC c g _ hc).pe) hm
    · cases h
  | .and a b, X, sc, pn, blk, g, e, h => by
    unfold chkC at h
    split at h
    · simp only [Bool.and_eq_true] at h
      obtain ⟨⟨ha, hn⟩, hb⟩ := h
      exact ie_and (okC a g _ ha) hn (ie_of_one (okC b g _ hb))
    · cases h
  | .or a b, X, sc, pn, blk, g, e, h => by
    unfold chkC at h
    split at h
    · simp only [Bool.and_eq_true] at h
      obtain ⟨⟨ha, hn⟩, hb⟩ := h
      exact ie_or (okC a g _ ha) hn (ie_of_one (okC b g _ hb))
    · cases h
  | .not a, X, sc, pn, blk, g, e, h => by
    unfold chkC at h
    split at h
    · simp only [Bool.and_eq_true] at h
      exact ie_not (okC a g _ h.1) h.2
    · cases h
  | .ite c a b, X, sc, pn, blk, g, e, h => by
    unfold chkC at h
    split at h
    · simp only [Bool.and_eq_true] at h
      obtain ⟨⟨⟨hc, hn⟩, ha⟩, hb⟩ := h
      exact ie_ite (okC c g _ hc) hn (okC a g _ ha) (okC b g _ hb)
    · cases h
  | .ix a b, X, sc, pn, blk, g, e, h => by
    unfold chkC at h
    split at h
    · simp only [Bool.and_eq_true] at h
      obtain ⟨⟨ha, hb⟩, hp⟩ := h
      exact ie_ix (pe_fz (okC a g _ ha).pe) (pe_fz (okC b g _ hb).pe) hp
    · cases h
  | .vix i b, X, sc, pn, blk, g, e, h => by
    unfold chkC at h
    split at h
    · simp only [Bool.and_eq_true] at h
      obtain ⟨⟨ha, hb⟩, hp⟩ := h
      obtain ⟨x, p, rfl, hv⟩ := nm_var g ha
      exact ie_vix hv (pe_fz (okC b g _ hb).pe) hp
    · cases h
  | .sl a lo hi, X, sc, pn, blk, g, e, h => by
    unfold chkC at h
    split at h
    · simp only [Bool.and_eq_true] at h
      obtain ⟨⟨ha, hl⟩, hh⟩ := h
      exact ie_sl (pe_fz (okC a g _ ha).pe) (okO lo g _ hl) (okO hi g _ hh)
    · cases h
  | .tup cs, X, sc, pn, blk, g, e, h => by
    unfold chkC at h
    split at h
    · exact ie_tup (okCs cs g _ h).2.1
    · cases h
  | .lst cs, X, sc, pn, blk, g, e, h => by
    unfold chkC at h
    split at h
    · exact ie_lst (okCs cs g _ h).2.1
    · cases h
  | .call f cs, X, sc, pn, blk, g, e, h => by
    unfold chkC at h
    split at h
    · rename_i gf es pos
      simp only [Bool.and_eq_true] at h
      obtain ⟨hg, hc⟩ := h
      obtain ⟨p, rfl, hgl, hd⟩ := gl_name g hg
      obtain ⟨hs, _, hl, hn⟩ := okCs cs g _ hc
      unfold evC
      cases hf : W.fn f with
      | none => exact ie_bad rfl
      | some fe =>
        dsimp only
        split
        · rename_i hlen
          obtain ⟨k, fa, fd, ps, G, room, hmg, hk, hb⟩ := g.fn f fe hf
          cases es with
          | nil =>
            refine ie_mk (PE.weak (pe_callG0 G room g.gd hgl hmg hk hb .nil pass0 hd) fun σ H Q q => ?_)
            have q2 := call_rd (E := E0) (n := fe.np) (fun e ts e' hh => by rw [hn e ts e' hh]; exact hlen) q
            cases cs with
            | nil =>
              obtain ⟨e, J, F, s, t, e', h, q3⟩ := q2
              cases h
              exact q3 [] H J F [] s ⟨.nil, by simpa using s.nd, fun _ z => nomatch z⟩ (by simpa using Tr.refl) fun j i hj => by simp [lens] at hj
            | val c r => simp [chkCs] at hc
            | own c r => simp [chkCs] at hc
            | lend i r => simp [chkCs] at hc
          | cons e1 es =>
            have hs' := hs
            simp only [nstars, Bool.and_eq_true] at hs'
            refine ie_mk (PE.weak (pe_callG G room g.gd hgl hmg hk hb .nil pass0 hl hd (star_of hs'.1 es X.env) (stars_none pos hs'.2)) fun σ H Q q => ?_)
            exact call_rd (E := E0) (n := fe.np) (fun e ts e' hh => by rw [hn e ts e' hh]; exact hlen) q
        · exact ie_bad rfl
    · cases h
  | .bif b cs, X, sc, pn, blk, g, e, h => by
    unfold chkC at h
    split at h
    · rename_i gf e1 es pos
      simp only [Bool.and_eq_true] at h
      obtain ⟨hg, hc⟩ := h
      obtain ⟨p, rfl, hgl, hd⟩ := gl_name g hg
      obtain ⟨hs, hl, _, hn⟩ := okCs cs g _ hc
      simp only [nstars, Bool.and_eq_true] at hs
      exact ie_bif g hgl hd (star_of hs.1 es X.env) (stars_none pos hs.2) hl
    · cases h
  | .isi t a, X, sc, pn, blk, g, e, h => by
    unfold chkC at h
    split at h
    · simp only [Bool.and_eq_true] at h
      obtain ⟨⟨hg, ha⟩, ht⟩ := h
      obtain ⟨p, rfl, hgl, hd⟩ := gl_name g hg
      obtain ⟨p2, rfl, hgl2, hd2⟩ := gl_name g ht
      exact ie_isi hgl (g.blt _ (by simp [bltNames])) (okC a g _ ha) hgl2 (g.blt _ (by cases t <;> simp [bltNames, Ty.nmS]))
    · cases h
  | .comp vs tg it t el, X, sc, pn, blk, g, e, h => by
    unfold chkC at h
    split at h
    · rename_i elt etg iter ifs scope pos
      simp only [Bool.and_eq_true, decide_eq_true_eq] at h
      obtain ⟨⟨⟨⟨⟨⟨h1, h2⟩, h3⟩, h4⟩, h5⟩, h6⟩, h7⟩ := h
      have ok := blkOk_by h2
      have gb : ∀ (s : Shared) (H : Hp) (C : Addr) (cl : List (Str × Addr)) (fp : List Addr), GX (X.blk s H scope (compEnvC scope cl C X.env) fp) W N (relS scope sc) L pn true := fun s H C cl fp => g.block ok.kind
      have hp : ∀ p ∈ pn, p.1 ∉ vs := fun p hp hv => by
        have a1 := List.all_eq_true.mp h3 _ hv
        simp only [Bool.not_eq_true', List.contains_eq_mem, decide_eq_false_iff_not] at a1
        exact a1 (g.pin p hp)
      obtain ⟨ws, hw, hg⟩ : ∃ ws : List Nat, (∀ i ∈ ws, i ∈ vs) ∧ ∀ (s : Shared) (H : Hp) (C : Addr) (cl : List (Str × Addr)) (fp : List Addr), PG (X.blk s H scope (compEnvC scope cl C X.env) fp) etg (rdG X.K pn ws (evTg W tg)) :=
        ⟨tgVs tg, okTgVs tg h5, fun s H C cl fp => okTg tg (gb s H C cl fp) h5⟩
      have hI := okI it g h4
      have okB : BlkOk X.N X.env.scope scope (vs.filterMap fun i => N[i]?.map fun x => (x, i)) := by rw [g.hN, g.hsc]; exact ok
      refine ie_mk (PE.weak (pe_lc (g := rdG X.K pn ws (evTg W tg)) (tt := rdT X.K pn (evCond W t)) (te := rdD X.K pn (fz (evC W el))) g.calm (by rw [g.hN]; exact g.nd) hI.1 okB hg (fun s H C cl fp => okIf t (gb s H C cl fp) h6) (fun s H C cl fp => pe_fz (okC el (gb s H C cl fp) _ h7).pe) hI.2) fun σ H Q q => ?_)
      rw [h1]
      exact tLc_rd hp hw q
    · cases h
  | .push i a, X, sc, pn, blk, g, e, h => by
    unfold chkC at h
    split at h
    · simp only [Bool.and_eq_true, decide_eq_true_eq] at h
      obtain ⟨⟨⟨rfl, ho⟩, ha⟩, hl⟩ := h
      obtain ⟨x, p, rfl, hv⟩ := nm_var g ho
      have hA := okC a g _ ha
      exact ie_push hv hA.ns hA.pe rfl hl
    · cases h
  | .cnt a b, X, sc, pn, blk, g, e, h => by
    unfold chkC at h
    split at h
    · simp only [Bool.and_eq_true, decide_eq_true_eq] at h
      obtain ⟨⟨⟨rfl, ha⟩, hb⟩, hl⟩ := h
      have hA := okC a g _ ha
      have hB := okC b g _ hb
      exact ie_cnt (pe_fz hA.pe) hB.ns (pe_fz hB.pe) rfl hl
    · cases h
  | .lrg a b, X, sc, pn, blk, g, e, h => by
    unfold chkC at h
    split at h
    · simp only [Bool.and_eq_true, decide_eq_true_eq] at h
      obtain ⟨⟨⟨hg, hg2⟩, ha⟩, hb⟩ := h
      obtain ⟨p, rfl, hgl, hd⟩ := gl_name g hg
      obtain ⟨p2, rfl, hgl2, hd2⟩ := gl_name g hg2
      have hA := okC a g _ ha
      have hB := okC b g _ hb
      exact ie_lrg g.calm hgl (g.blt _ (by simp [bltNames])) hgl2 (g.blt _ (by simp [bltNames])) (pe_fz hA.pe) (pe_fz hB.pe) hA.ns hB.ns
    · cases h
  | .inr a b, X, sc, pn, blk, g, e, h => by
    unfold chkC at h
    split at h
    · simp only [Bool.and_eq_true, decide_eq_true_eq, Bool.not_eq_true'] at h
      obtain ⟨⟨⟨hg, ha⟩, hb⟩, hm⟩ := h
      obtain ⟨p, rfl, hgl, hd⟩ := gl_name g hg
      have hA := okC a g _ ha
      have hB := okC b g _ hb
      exact ie_inr hgl (g.blt _ (by simp [bltNames])) (pe_fz hA.pe) (pe_fz hB.pe) hB.ns hm
    · cases h
  | .join s a, X, sc, pn, blk, g, e, h => by
    unfold chkC at h
    split at h
    · simp only [Bool.and_eq_true, decide_eq_true_eq] at h
      obtain ⟨⟨⟨rfl, rfl⟩, ha⟩, hl⟩ := h
      have hA := okC a g _ ha
      exact ie_join (pe_const' pe_str fun _ _ => .str _) (fun _ _ _ z => by cases z; exact ⟨_, rfl⟩) (pe_fz hA.pe) hA.ns rfl hl
    · cases h
theorem okO : ∀ (c : Co) {X : Cx} {sc : Scope} {pn : List (Nat × V)} {blk : Bool}, GX X W N sc L pn blk → ∀ (e : Option Expr), chkO N L sc c e = true → PO X e (rdO X.K pn (evO W c))
  | .no, X, sc, pn, blk, g, e, h => by
    unfold chkO at h
    split at h
    · exact po_none'
    · cases h
  | .so c, X, sc, pn, blk, g, e, h => by
    unfold chkO at h
    split at h
    · exact po_some' (pe_fz (okC c g _ h).pe)
    · cases h
theorem okIf : ∀ (c : Co) {X : Cx} {sc : Scope} {pn : List (Nat × V)} {blk : Bool}, GX X W N sc L pn blk → ∀ {e : List Expr}, chkIf N L sc c e = true → PTs X e (rdT X.K pn (evCond W c))
  | .no, X, sc, pn, blk, g, e, h => by
    unfold chkIf at h
    split at h
    · exact ⟨fun pins s σ H Q I hw => pts_nil.run pins s σ H Q I (by
        obtain ⟨e, J, F, s, t, e', h, q⟩ := hw
        cases h
        exact q H J F s .refl)⟩
    · cases h
  | .so c, X, sc, pn, blk, g, e, h => by
    unfold chkIf at h
    split at h
    · simp only [Bool.and_eq_true] at h
      exact pts_one ((okC c g _ h.1).pt h.2)
    · cases h
theorem okCs : ∀ (c : Cs) {X : Cx} {sc : Scope} {pn : List (Nat × V)} {blk : Bool}, GX X W N sc L pn blk → ∀ (es : List Expr), chkCs N L sc c es = true → nstars es = true ∧ PA X es (rdEs X.K pn (evCs W c)) ∧ PA X es (rdAs X.K pn (lens c) (evCs W c)) ∧ ∀ e ts e', evCs W c e = .ok ts e' → ts.length = (lens c).length
  | .nil, X, sc, pn, blk, g, es, h => by
    unfold chkCs at h
    split at h
    · exact ⟨rfl, pa_nil', al_nil, fun e ts e' h => by cases h; rfl⟩
    · cases h
  | .val c r, X, sc, pn, blk, g, es, h => by
    unfold chkCs at h
    split at h
    · simp only [Bool.and_eq_true] at h
      obtain ⟨s1, p1, a1, n1⟩ := okCs r g _ h.2
      have hc := okC c g _ h.1
      refine ⟨by simp only [nstars, hc.ns, s1, Bool.and_self], pa_cons' (pe_lf (pe_fz hc.pe)) hc.ns p1, al_val (pe_lf (pe_fz hc.pe)) hc.ns a1, fun e ts e' hh => ?_⟩
      obtain ⟨t, e1, k1, k2⟩ := bnd_ok hh
      obtain ⟨ts', e2, k3, k4⟩ := bnd_ok k2
      cases k4
      simp [lens, n1 _ _ _ k3]
    · cases h
  | .own c r, X, sc, pn, blk, g, es, h => by
    unfold chkCs at h
    split at h
    · simp only [Bool.and_eq_true] at h
      obtain ⟨s1, p1, a1, n1⟩ := okCs r g _ h.2
      have hc := okC c g _ h.1
      refine ⟨by simp only [nstars, hc.ns, s1, Bool.and_self], pa_cons' hc.pe hc.ns p1, al_val hc.pe hc.ns a1, fun e ts e' hh => ?_⟩
      obtain ⟨t, e1, k1, k2⟩ := bnd_ok hh
      obtain ⟨ts', e2, k3, k4⟩ := bnd_ok k2
      cases k4
      simp [lens, n1 _ _ _ k3]
    · cases h
  | .lend i r, X, sc, pn, blk, g, es, h => by
    unfold chkCs at h
    split at h
    · simp only [Bool.and_eq_true] at h
      obtain ⟨s1, p1, a1, n1⟩ := okCs r g _ h.2
      obtain ⟨x, p, rfl, hv⟩ := nm_var g h.1
      refine ⟨by simp only [nstars, s1]; rfl, ?_, al_lend hv rfl a1, fun e ts e' hh => ?_⟩
      · exact pa_lend hv rfl p1
      · obtain ⟨t, e1, k1, k2⟩ := bnd_ok hh
        obtain ⟨ts', e2, k3, k4⟩ := bnd_ok k2
        cases k4
        simp [lens, n1 _ _ _ k3]
    · cases h
theorem okTg : ∀ (t : Tg) {X : Cx} {sc : Scope} {pn : List (Nat × V)} {blk : Bool} {vs : List Nat}, GX X W N sc L pn blk → ∀ {e : Expr}, chkTg N L sc blk vs t e = true → PG X e (rdG X.K pn (tgVs t) (evTg W t))
  | .nm i, X, sc, pn, blk, vs, g, e, h => by
    unfold chkTg at h
    split at h
    · rename_i x p
      simp only [Bool.and_eq_true, Bool.or_eq_true, decide_eq_true_eq, Bool.not_eq_true', List.contains_eq_mem, decide_eq_false_iff_not] at h
      obtain ⟨⟨⟨h1, h2⟩, h3⟩, h4⟩ := h
      have hL : Loc X.env.scope x := by
        rw [g.hsc]
        rcases h2 with h2 | h2
        · exact .inl h2
        · exact .inr h2.2
      have hf : X.fn x = true ∨ X.env.scope.names.lookup x = some .local := by
        rw [g.hsc]
        rcases h2 with h2 | h2
        · exact .inr h2
        · exact .inl (g.fnl h2.1 x)
      exact ig_name (pg_name (by rw [g.hN]; exact g.nd) (by rw [g.hN]; exact h1) hL hf) fun p hp z => h3 (z ▸ g.pin p hp)
    · cases h
  | .tp ts, X, sc, pn, blk, vs, g, e, h => by
    unfold chkTg at h
    split at h
    · obtain ⟨h1, h2, h3, _⟩ := okTgs ts g h
      exact ig_tup g.calm h1 h2 h3
    · cases h
  | .sub i k, X, sc, pn, blk, vs, g, e, h => by
    unfold chkTg at h
    split at h
    · simp only [Bool.and_eq_true] at h
      obtain ⟨⟨h1, h2⟩, h3⟩ := h
      obtain ⟨x, p, rfl, hv⟩ := nm_var g h1
      refine ig_sub hv (pe_fz (okC k g _ h2).pe) (ha := fun v => ?_)
      rename_i eb ps
      clear h2
      cases eb <;> first | rfl | cases h3
    · cases h
theorem okTgs : ∀ (t : Tgs) {X : Cx} {sc : Scope} {pn : List (Nat × V)} {blk : Bool} {vs : List Nat}, GX X W N sc L pn blk → ∀ {es : List Expr}, chkTgs N L sc blk vs t es = true → PGs X es (rdGs X.K pn (tgsVs t) (evTgs W t)) ∧ (assignEach es X.env).length = tgN t ∧ (assignEach es X.env).findIdx? (·.1) = none ∧ True
  | .nil, X, sc, pn, blk, vs, g, es, h => by
    unfold chkTgs at h
    split at h
    · exact ⟨igs_nil, rfl, rfl, trivial⟩
    · cases h
  | .cons t r, X, sc, pn, blk, vs, g, es, h => by
    unfold chkTgs at h
    split at h
    · rename_i e es
      simp only [Bool.and_eq_true] at h
      have h1 := okTg t g h.1
      obtain ⟨h2, h3, h4, _⟩ := okTgs r g h.2
      obtain ⟨k1, k2⟩ : (assignEach (e :: es) X.env).map (·.2) = assign e X.env :: (assignEach es X.env).map (·.2) ∧ ((assignEach (e :: es) X.env).length = (assignEach es X.env).length + 1 ∧ ((assignEach es X.env).findIdx? (·.1) = none → (assignEach (e :: es) X.env).findIdx? (·.1) = none)) := by
        have hh := h.1
        unfold chkTg at hh
        cases t <;> (simp only at hh; split at hh <;> first | exact ⟨rfl, rfl, fun z => by simpa [assignEach] using z⟩ | cases hh)
      exact ⟨igs_cons h1 h2 k1, by rw [k2.1, h3]; rfl, k2.2 h4, trivial⟩
    · cases h
theorem okI : ∀ (t : It2) {X : Cx} {sc : Scope} {pn : List (Nat × V)} {blk : Bool}, GX X W N sc L pn blk → ∀ {tg e : Expr}, chkI N L sc t tg e = true → PI X tg e (rdI X.K pn (evI W t)) ∧ ∀ x, foldedSetIterable e X.env x = pure x
  | .seq c, X, sc, pn, blk, g, tg, e, h => by
    unfold chkI at h
    simp only [Bool.and_eq_true] at h
    refine ⟨ii_seq (pe_fz (okC c g _ h.1).pe), fun x => ?_⟩
    have h2 := h.2
    cases e <;> first | rfl | cases h2
  | .rng1 cs, X, sc, pn, blk, g, tg, e, h => by
    unfold chkI at h
    split at h
    · simp only [Bool.and_eq_true] at h
      obtain ⟨⟨h1, h2⟩, h3⟩ := h
      obtain ⟨p, rfl, hgl, hd⟩ := gl_name g h1
      exact ⟨ii_rng1 hgl (g.blt _ (by simp [bltNames])) (pa_fzs (okCs cs g _ h2).2.1) (star_of h3 [] X.env), fun x => rfl⟩
    · cases h
  | .rng2 cs, X, sc, pn, blk, g, tg, e, h => by
    unfold chkI at h
    split at h
    · simp only [Bool.and_eq_true] at h
      obtain ⟨⟨⟨h1, h2⟩, h3⟩, h4⟩ := h
      obtain ⟨p, rfl, hgl, hd⟩ := gl_name g h1
      exact ⟨ii_rng2 hgl (g.blt _ (by simp [bltNames])) (pa_fzs (okCs cs g _ h2).2.1) (by rw [star_of h3, star_of h4]; rfl) (star_of h4 [] X.env), fun x => rfl⟩
    · cases h
  | .zip cs, X, sc, pn, blk, g, tg, e, h => by
    unfold chkI at h
    split at h
    · simp only [Bool.and_eq_true] at h
      obtain ⟨⟨⟨h1, h2⟩, h3⟩, h4⟩ := h
      obtain ⟨p, rfl, hgl, hd⟩ := gl_name g h1
      exact ⟨ii_zip hgl (g.blt _ (by simp [bltNames])) (pa_fzs (okCs cs g _ h2).2.1) (by rw [star_of h3, star_of h4]; rfl) (star_of h4 [] X.env), fun x => rfl⟩
    · cases h
  | .enm cs, X, sc, pn, blk, g, tg, e, h => by
    unfold chkI at h
    split at h
    · simp only [Bool.and_eq_true] at h
      obtain ⟨⟨h1, h2⟩, h3⟩ := h
      obtain ⟨p, rfl, hgl, hd⟩ := gl_name g h1
      exact ⟨ii_enum hgl (g.blt _ (by simp [bltNames])) (pa_fzs (okCs cs g _ h2).2.1) (star_of h3 [] X.env), fun x => rfl⟩
    · cases h
end
end
end IL

namespace IL
open PySem PySem.Spec PyProof.Rows L2
section
variable {X : Cx} {W : Wd} {N : List Str} {sc : Scope} {L : List Nat} {pn : List (Nat × V)}
theorem own_neg (g : GX X W N sc L pn false) {i : Nat} (h : (!L.contains i) = true) : ∀ p ∈ pn, p.1 ≠ i := fun p hp z => by
  simp only [Bool.not_eq_true', List.contains_eq_mem, decide_eq_false_iff_not] at h
  exact h (z ▸ g.pin p hp)
theorem passes (g : GX X W N sc L pn false) : PassesOwn (model X.prog X.w) X.A X.env X.xe := by rw [g.xe]; exact PassesOwn.never
theorem swaps_no {e : Expr} (h : notComp e = true) (t : Option Expr) (l : Nat) (env : PySem.Env) : swapsWith e t l env = pure false := by
  cases e <;> first | rfl | cases h
theorem fold_no {e : Expr} {env : PySem.Env} (h : (match e with | .Set .. => false | _ => true) = true) : ∀ x, foldedSetIterable e env x = pure x := fun x => by
  cases e <;> first | rfl | cases h
theorem swaps_cell {elt : Expr} {gs : List Comprehension} {scope : Scope} {q px : Pos} {x : Str} {l : Nat} (hk : X.env.scope.names.lookup x = some .cell) : swapsWith (.ListComp elt gs scope q) (some (.Name x px)) l X.env = pure false := by
  have ky : X.env.kindOf x = some .cell := hk
  unfold swapsWith
  have z : (NameKind.cell == NameKind.local) = false := rfl
  simp only [ky]
  simp [z]
theorem fair_sole {a b : Expr} {l : Nat} {env : PySem.Env} (h : fairTo a b = true) : swapsWithSole [a] b l env = pure false := by
  show swapsWith b (some a) l env = pure false
  cases a with
  | Tuple ts k p => cases b <;> rfl
  | Subscript u v p => cases b <;> rfl
  | _ => cases b <;> cases h
theorem fair_stores {a b : Expr} {env : PySem.Env} (h : fairTo a b = true) : swappedStores [a] b env = pure none := by
  unfold fairTo at h
  split at h
  · split at h
    · unfold swappedStores
      simp
    · unfold swappedStores
      simp
    · rfl
    · cases h
  · rename_i hb
    split at h
    · cases b <;> first | rfl | exact absurd rfl (hb _ _ _)
    · cases b <;> rfl
    · cases h
theorem fair_one {a b : Expr} {env : PySem.Env} (h : fairTo a b = true) : (assignEach [a] env).map (·.2) = [assign a env] := by
  cases a with
  | Tuple ts k p => rfl
  | Subscript u v p => rfl
  | _ => cases b <;> cases h
theorem st_no (e : Expr) (h : nstar e = true) : (fun e : Expr => match e with | .Starred .. => true | _ => false) e = false := by
  cases e <;> first | rfl | cases h
theorem nost {a b : Expr} (ha : nstar a = true) (hb : nstar b = true) : ([a, b].any fun | .Starred .. => true | _ => false) = false := by
  simp only [List.any_cons, List.any_nil, Bool.or_false, Bool.or_eq_false_iff]
  exact ⟨st_no a ha, st_no b hb⟩
theorem par_stores {x y : Str} {px py pt : Pos} {kt : Nat} {a b : Expr} {k2 : Nat} {p2 : Pos} (hkd : X.env.scope.kind = .function) (hx : X.env.scope.names.lookup x = some .local) (hy : X.env.scope.names.lookup y = some .local) (ha : nstar a = true) (hb : nstar b = true)
    (hl : (px.line == py.line) = true) (h1 : ([a, b].all (foldedForSure 8)) = false) (h2 : ([a, b].all (constantsAlone 8)) = false) (hxy : x ≠ y) :
    swappedStores [.Tuple [.Name x px, .Name y py] kt pt] (.Tuple [a, b] k2 p2) X.env = pure (some [x, y]) := by
  have kx : X.env.kindOf x = some .local := hx
  have ky : X.env.kindOf y = some .local := hy
  have hbk : X.env.blockKind = .function := by unfold Env.blockKind; rw [hkd]; rfl
  have e1 : px.line = py.line := by simpa using hl
  have hst : ([a, b].any fun | .Starred .. => true | _ => false) = false := nost ha hb
  have hee : (NameKind.local == NameKind.local) = true := rfl
  have hsf : (ScopeKind.function != ScopeKind.function) = false := rfl
  have hed : ([x, y].eraseDups).length = 2 := by
    simp [List.eraseDups_cons, Ne.symm hxy]
  unfold swappedStores
  simp only [hbk, hst, h1, h2, hsf]
  simp [kx, ky, hee, Expr.pos, e1, hed]
  rintro (hh | hh)
  · exact absurd (hh.symm.trans (st_no a ha)) (by decide)
  · exact absurd (hh.symm.trans (st_no b hb)) (by decide)
theorem okSetLc (c : C) (g : GX X W N sc L pn false) {i : Nat} {x : Str} {px : Pos} {elt tg iter : Expr} {ifs : List Expr} {scope : Scope} {q p : Pos} (h : chkC N L sc c (.ListComp elt [⟨tg, iter, ifs, 0⟩] scope q) = true) (nd : X.N.Nodup) (hi : X.N[i]? = some x)
    (hy : X.env.scope.names.lookup x = some .local) (hp0 : ∀ p ∈ pn, p.1 ≠ i) (hkd : X.env.scope.kind = .function) (hl : (px.line == q.line) = true) (ha : (scope.names.any fun (n, k) => n == x && (k == .local || k == .cell)) = false) :
    PS X (.Assign [.Name x px] (.ListComp elt [⟨tg, iter, ifs, 0⟩] scope q) p) (rdS X.K pn (gSet i (evC W c))) := by
  cases c with
  | comp vs ctg it t el =>
    unfold chkC at h
    simp only [Bool.and_eq_true, decide_eq_true_eq] at h
    obtain ⟨⟨⟨⟨⟨⟨h1, h2⟩, h3⟩, h4⟩, h5⟩, h6⟩, h7⟩ := h
    have ok := blkOk_by h2
    have gb : ∀ (s : Shared) (H : Hp) (C : Addr) (cl : List (Str × Addr)) (fp : List Addr), GX (X.blk s H scope (compEnvC scope cl C X.env) fp) W N (relS scope sc) L pn true := fun s H C cl fp => g.block ok.kind
    have hp : ∀ p ∈ pn, p.1 ∉ vs := fun p hp hv => by
      have a1 := List.all_eq_true.mp h3 _ hv
      simp only [Bool.not_eq_true', List.contains_eq_mem, decide_eq_false_iff_not] at a1
      exact a1 (g.pin p hp)
    obtain ⟨ws, hw, hg⟩ : ∃ ws : List Nat, (∀ i ∈ ws, i ∈ vs) ∧ ∀ (s : Shared) (H : Hp) (C : Addr) (cl : List (Str × Addr)) (fp : List Addr), PG (X.blk s H scope (compEnvC scope cl C X.env) fp) tg (rdG X.K pn ws (evTg W ctg)) :=
      ⟨tgVs ctg, okTgVs ctg h5, fun s H C cl fp => okTg ctg (gb s H C cl fp) h5⟩
    have hI := okI it g h4
    have okB : BlkOk X.N X.env.scope scope (vs.filterMap fun i => N[i]?.map fun x => (x, i)) := by rw [g.hN, g.hsc]; exact ok
    refine PS.weak (ps_setLc (g := rdG X.K pn ws (evTg W ctg)) (tt := rdT X.K pn (evCond W t)) (te := rdD X.K pn (fz (evC W el))) g.calm nd hi hy (sw_true hkd hy hl ha) hI.1 okB hg (fun s H C cl fp => okIf t (gb s H C cl fp) h6) (fun s H C cl fp => pe_fz (okC el (gb s H C cl fp) _ h7).pe) hI.2) fun D σ H ⟨e, J, F, s, fl, e', h, qq⟩ => ?_
    rw [h1]
    refine tLc_rd hp hw ?_
    obtain ⟨t0, e1, k1, k2⟩ := bnd_ok h
    obtain ⟨_, e2, k3, k4⟩ := bnd_ok k2
    cases k4
    obtain ⟨k5, rfl⟩ := store_ok' k3
    refine ⟨e, J, F, s, t0, e1, k1, fun v H1 J1 F1 fp s1 o1 tr1 => ?_⟩
    obtain ⟨F', s2, hF⟩ := s1.set k5 hp0 o1
    exact qq _ H1 J1 F' s2 (tr1.trans (Tr.sub hF))
  | _ => unfold chkC at h; first | cases h | (simp at h)
mutual
theorem okS : ∀ (s : S) {X : Cx} {sc : Scope} {pn : List (Nat × V)}, GX X W N sc L pn false → ∀ (st : Stmt), chkS N L sc s st = true → PS X st (rdS X.K pn (evS W s))
  | .set i c, X, sc, pn, g, st, h => by
    unfold chkS at h
    split at h
    · rename_i x px e p
      simp only [Bool.and_eq_true, decide_eq_true_eq] at h
      obtain ⟨⟨⟨h1, h2⟩, h3⟩, h4⟩ := h
      have he := okC c g e h3
      have hp := own_neg g h2
      have hi : X.N[i]? = some x := by rw [g.hN]; exact h1
      have nd : X.N.Nodup := by rw [g.hN]; exact g.nd
      have hf : X.fn x = true ∨ X.env.scope.names.lookup x = some .local := .inl (g.fnl rfl x)
      split at h4
      · rename_i hc
        simp only [Bool.or_eq_true, decide_eq_true_eq] at h4
        have hL : Loc X.env.scope x := by
          rw [g.hsc]
          exact h4
        exact is_set nd hi hL hp he (swaps_no hc _ _ _) hf
      · split at h4
        · rename_i elt tg iter ifs scope q _
          simp only [Bool.or_eq_true, Bool.and_eq_true, decide_eq_true_eq, Bool.not_eq_true'] at h4
          rcases h4 with ⟨⟨h5, h6⟩, h7⟩ | h5
          · -- stored within the block's frame
            have hy : X.env.scope.names.lookup x = some .local := by rw [g.hsc]; exact h5
            have hkd : X.env.scope.kind = .function := by rw [g.hsc]; exact g.kd
            exact okSetLc c g h3 nd hi hy hp hkd h6 h7
          · have hL : Loc X.env.scope x := by
              rw [g.hsc]
              exact .inr h5
            exact is_set nd hi hL hp he (swaps_cell (by rw [g.hsc]; exact h5)) hf
        · cases h4
    · cases h
  | .fed i f, X, sc, pn, g, st, h => by
    unfold chkS at h
    split at h
    · rename_i x px gf hh q p
      simp only [Bool.and_eq_true, Bool.or_eq_true, decide_eq_true_eq] at h
      obtain ⟨⟨⟨⟨h1, h2⟩, h3⟩, h4⟩, h5⟩ := h
      unfold evS
      cases hf : W.feed with
      | none => exact ⟨fun pins s σ H D I ⟨e, J, F, s', fl, e', h, q⟩ => by cases h⟩
      | some t =>
        have hL : Loc X.env.scope x := by
          rw [g.hsc]
          exact h5
        exact is_set (by rw [g.hN]; exact g.nd) (by rw [g.hN]; exact h1) hL (own_neg g h2) (ie_mk (g.feed rfl t hf f gf hh q h3 h4)) rfl (.inl (g.fnl rfl x))
    · cases h
  | .asg t c, X, sc, pn, g, st, h => by
    unfold chkS at h
    split at h
    · simp only [Bool.and_eq_true] at h
      obtain ⟨⟨h1, h2⟩, h3⟩ := h
      exact is_asg (pe_fz (okC c g _ h2).pe) (okTg t g h1) (fair_sole h3) (fair_stores h3) (fair_one h3)
    · cases h
  | .par i j cs, X, sc, pn, g, st, h => by
    unfold chkS at h
    split at h
    · simp only [Bool.and_eq_true, decide_eq_true_eq, Bool.not_eq_true'] at h
      obtain ⟨⟨⟨⟨⟨⟨⟨⟨⟨⟨⟨⟨⟨a1, a2⟩, a3⟩, a4⟩, a5⟩, a6⟩, a7⟩, a8⟩, a9⟩, a10⟩, a11⟩, a12⟩, a13⟩, a14⟩ := h
      have hkd : X.env.scope.kind = .function := by rw [g.hsc]; exact g.kd
      have lx := a4
      have ly := a5
      rw [← g.hsc] at lx ly
      exact is_par g.calm (by rw [g.hN]; exact g.nd) (by rw [g.hN]; exact a1) (by rw [g.hN]; exact a2) a3 lx ly (own_neg g (by simpa using a6)) (own_neg g (by simpa using a7)) (okCs cs g _ a8).2.1 (par_stores hkd lx ly a9 a10 a11 a12 a13 a14) rfl
    · cases h
  | .ret c, X, sc, pn, g, st, h => by
    unfold chkS at h
    split at h
    · exact is_ret (okC c g _ h)
    · cases h
  | .retN, X, sc, pn, g, st, h => by
    unfold chkS at h
    split at h
    · exact is_retN
    · cases h
  | .exp c, X, sc, pn, g, st, h => by
    unfold chkS at h
    split at h
    · simp only [Bool.and_eq_true] at h
      exact is_exp (okC c g _ h.1) (swaps_no h.2 _ _ _)
    · cases h
  | .ifs c a b, X, sc, pn, g, st, h => by
    unfold chkS at h
    split at h
    · simp only [Bool.and_eq_true] at h
      obtain ⟨⟨⟨h1, h2⟩, h3⟩, h4⟩ := h
      exact is_if (okC c g _ h1) h2 (okSs a g _ h3) (okSs b g _ h4)
    · cases h
  | .whl n c b, X, sc, pn, g, st, h => by
    unfold chkS at h
    split at h
    · simp only [Bool.and_eq_true] at h
      obtain ⟨⟨h1, h2⟩, h3⟩ := h
      exact is_while (passes g) (okC c g _ h1) h2 (okSs b g _ h3)
    · cases h
  | .fore t it b, X, sc, pn, g, st, h => by
    unfold chkS at h
    split at h
    · simp only [Bool.and_eq_true] at h
      obtain ⟨⟨h1, h2⟩, h3⟩ := h
      have hI := okI it g h2
      exact is_for (passes g) g.calm hI.1 (okTg t g h1) (okSs b g _ h3) hI.2
    · cases h
  | .brk, X, sc, pn, g, st, h => by
    unfold chkS at h
    split at h
    · exact is_break
    · cases h
  | .cnt, X, sc, pn, g, st, h => by
    unfold chkS at h
    split at h
    · exact is_cont
    · cases h
  | .pass, X, sc, pn, g, st, h => by
    unfold chkS at h
    split at h
    · exact is_pass
    · cases h
theorem okSs : ∀ (s : Ss) {X : Cx} {sc : Scope} {pn : List (Nat × V)}, GX X W N sc L pn false → ∀ (st : List Stmt), chkSs N L sc s st = true → PSs X st (rdS X.K pn (evSs W s))
  | .nil, X, sc, pn, g, st, h => by
    unfold chkSs at h
    split at h
    · exact is_nil
    · cases h
  | .cons s r, X, sc, pn, g, st, h => by
    unfold chkSs at h
    split at h
    · simp only [Bool.and_eq_true] at h
      exact is_cons (okS s g _ h.1) (okSs r g _ h.2)
    · cases h
end
end
end IL

namespace IL
open PySem PySem.Spec PyProof.Rows L2

/-- the defs and constants around, proved to a level -/
structure Tab (P : Program) (w : World) (K : PySem.W.Frag) (mg : Str → Option Value) (base : Heap) (k : Nat) (W : Wd) : Prop where
  blt : ∀ x ∈ bltNames, mg x = none
  fn : ∀ x fe, W.fn x = some fe → ∃ f fd ps, FnG P w K mg base CX0 k f fd ps (spG K fe.np fe.lent fe.sem) ∧ mg x = some (.ref f) ∧ PySem.W.keepIn K (.ref f) = true ∧ Binds K fd ps []
  glb : ∀ x d, W.glb x = some d → ∃ v u, mg x = some u ∧ RelV v u ∧ ∀ J H, RD K J H v d
  feed : W.feed = none
def Wd.add (W : Wd) (x : Str) (fe : Fe) : Wd := { W with fn := fun y => if y = x then some fe else W.fn y }
/-- a def as it stands -/
structure Df (K : PySem.W.Frag) (mg : Str → Option Value) (x : Str) (st : Stmt) (N ps : List Str) : Prop where
  fn : ∃ f fd, Fun K x x st f fd ∧ mg x = some (.ref f) ∧ Binds K fd ps []
  sc : FnScope N ps (defScope st)
section
variable {P : Program} {w : World} {K : PySem.W.Frag} {mg : Str → Option Value} {base : Heap}
theorem gx_of {k : Nat} {W : Wd} {X : Cx} {N ps : List Str} {sc : Scope} {L : List Nat} {pn : List (Nat × V)} (t : Tab P w K mg base k W) (S : FnScope N ps sc)
    (h1 : X.prog = P) (h2 : X.w = w) (h3 : X.K = K) (h4 : X.mg = mg) (h5 : X.base = base) (h6 : X.N = N) (h7 : X.env.scope = sc) (h8 : X.calm = true) (h9 : X.xe = fun _ _ => False) (h10 : Room k X.A) (h11 : X.A.guards = some []) (h12 : ∀ y, X.fn y = true) (h13 : ∀ p ∈ pn, p.1 ∈ L) : GX X W N sc L pn false := by
  subst h1 h2 h3 h4 h5
  exact ⟨h8, h9, h6, S.nd, h7, S.kind, by have := h10.un; omega, h11, t.blt, fun x fe hx => by
    obtain ⟨f, fd, ps', G, a, b, c⟩ := t.fn x fe hx
    exact ⟨k, f, fd, ps', G, h10, a, b, c⟩, t.glb, fun _ t' ht => (by rw [t.feed] at ht; cases ht), h13, fun _ => h12⟩
/-- one def more -/
theorem Tab.add {k : Nat} {W : Wd} (t : Tab P w K mg base k W) {x : Str} {st : Stmt} {N ps : List Str} (d : Df K mg x st N ps) {L : List Nat} {c : Ss} (hc : chkSs N L (defScope st) c (defBody st) = true) {np : Nat} (hnp : ps.length = np) {F : FSem}
    (hF : ∀ ts r, ts.length = np → F ts = some r → runM N.length np L (evSs W c) ts = some r) : Tab P w K mg base (k + 1) (W.add x ⟨np, L, F⟩) := by
  subst hnp
  obtain ⟨f, fd, Fu, hmg, hb⟩ := d.fn
  have G : FnG P w K mg base CX0 (k + 1) f fd ps (spG K ps.length L F) := by
    have G0 := fnG_body (P := P) (w := w) (mg := mg) (base := base) (k := k) (L := L) (g := evSs W c) Fu d.sc fun X pn h1 h2 h3 h4 h5 h6 h7 h8 h9 h10 h11 h12 h13 =>
      okSs c (gx_of t d.sc h1 h2 h3 h4 h5 h6 h7 h8 h9 h10 h11 h12 h13) _ hc
    exact (G0.imp runM_sp).imp (spG.imp hF)
  refine ⟨t.blt, fun y fe hy => ?_, t.glb, t.feed⟩
  unfold Wd.add at hy
  simp only at hy
  split at hy
  · rename_i e
    subst e
    cases hy
    exact ⟨f, fd, ps, G, hmg, Fu.kp, hb⟩
  · obtain ⟨f', fd', ps', G', a, b, c'⟩ := t.fn y fe hy
    exact ⟨f', fd', ps', G'.mono (Nat.le_succ k), a, b, c'⟩
/-- a def that calls itself: what it tells in m turns -/
theorem Tab.recur {k : Nat} {W : Wd} (t : Tab P w K mg base k W) {x : Str} {st : Stmt} {N ps : List Str} (d : Df K mg x st N ps) {L : List Nat} {c : Ss} (hc : chkSs N L (defScope st) c (defBody st) = true) {np : Nat} (hnp : ps.length = np) {F : Nat → FSem}
    (h0 : ∀ ts, F 0 ts = none) (hF : ∀ m ts r, ts.length = np → F (m + 1) ts = some r → runM N.length np L (evSs (W.add x ⟨np, L, F m⟩) c) ts = some r) : ∀ m, Tab P w K mg base (k + m) (W.add x ⟨np, L, F m⟩)
  | 0 => by
    subst hnp
    obtain ⟨f, fd, Fu, hmg, hb⟩ := d.fn
    refine ⟨t.blt, fun y fe hy => ?_, t.glb, t.feed⟩
    unfold Wd.add at hy
    simp only at hy
    split at hy
    · rename_i e
      subst e
      cases hy
      exact ⟨f, fd, ps, ⟨fun vs H Q E h => h.1, fun B o s H args us vs Q E hr hg he hb hv h => by
        obtain ⟨_, J, fp, ts, _, t, outs, hF, _⟩ := h
        simp only [h0] at hF
        cases hF⟩, hmg, Fu.kp, hb⟩
    · exact t.fn y fe hy
  | m + 1 => by
    have t' := Tab.recur t d hc hnp h0 hF m
    have t2 := t'.add d hc hnp (hF m)
    have e : ((W.add x ⟨np, L, F m⟩).add x ⟨np, L, F (m + 1)⟩) = W.add x ⟨np, L, F (m + 1)⟩ := by
      unfold Wd.add
      simp only
      congr
      funext y
      split <;> rfl
    rw [e] at t2
    exact t2
end
end IL

namespace IL
open PySem PySem.Spec PyProof.Rows L2

/-! ### what a law is fed -/
def spFeed (K : PySem.W.Frag) : Sp := fun vs H Q _ => ∃ (a : Addr) (ns : List Int), vs = [.ref a] ∧ SqL K H a (ns.map V.int) ∧ ns.length ≤ 63 ∧
  ∀ H' p c, p ≠ c → H' p = some (.lst [.ref c, .int 0, .int 0, .int 0]) → H' c = some (.lst (ns.map V.int)) → Q (.ref p) H'
theorem cut63 (xs : List V) (h : xs.length ≤ 63) : cutV xs none (some 63) = xs := by
  unfold cutV
  rw [HT.sIx_none, show HT.sIx xs.length xs.length (some 63) = min 63 xs.length from HT.sIx_nat _ _ 63]
  rw [Nat.min_eq_right h, List.drop_zero, Nat.sub_zero, List.take_length]
section
variable {P : Program} {w : World} {K : PySem.W.Frag} {mg : Str → Option Value} {base : Heap}
theorem feed_ok {k : Nat} {f : Addr} {x : Str} {st : Stmt} {fd : FuncData} {s : Str} {p1 p2 p3 p4 p5 p6 p7 p8 p9 : Pos} {j1 j2 j3 j4 : Nat} (F : Fun K x x st f fd) (S : FnScope [s] [s] (defScope st)) (hv : Vis (defScope st) s) (hd : nmOk s = true)
    (hb : defBody st = [.Return (some (.List [.Subscript (.Name s p1) (.Slice none (some (.Constant (.int 63) j1 p2)) none p3) p4, .Constant (.int 0) j2 p5, .Constant (.int 0) j3 p6, .Constant (.int 0) j4 p7] p8)) p9]) :
    FnG P w K mg base CX0 (k + 1) f fd [s] (spFeed K) := by
  refine fnG_of F S (fun vs H Q E h => by obtain ⟨a, ns, rfl, _⟩ := h; rfl) fun cdv B around s1 H vs Q E hr hg h => ?_
  obtain ⟨a, ns, rfl, hS, hl, q⟩ := h
  rw [hb]
  obtain ⟨d1, d2⟩ := nmOk_d hd
  have hvar : PE (cxOf CX0 P w K mg base [s] x (defScope st) f cdv B around s1 H E) (.Name s p1) (tVar 0) := pe_var rfl hv d1 d2
  refine ⟨_, pss_one (ps_ret (pe_lst (pa_cons (pe_slice sl_list hvar po_none (po_some pe_int)) (pa_cons pe_int (pa_cons pe_int (pa_cons pe_int pa_nil)))))), ?_⟩
  refine ⟨.ref a, rfl, 63, rfl, a, ns.map V.int, rfl, hS, fun c hc => ?_⟩
  refine ⟨by show 4 ≤ sizeLine; decide, fun p hp => ?_⟩
  have hpc : p ≠ c := fun z => by
    subst z
    rw [upd_same] at hp
    cases hp
  rw [cut63 _ (by rw [List.length_map]; exact hl)] at hp ⊢
  exact q _ p c hpc upd_same (by rw [upd_ne (Ne.symm hpc), upd_same])
def spLawG (K : PySem.W.Frag) : Sp := fun vs H Q _ => ∃ (a : Addr) (ns : List Int), vs = [.ref a] ∧ SqL K H a (ns.map V.int) ∧ ns.length ≤ 63 ∧ ∀ H', Q (.bl true) H'
/-- the feed as a tree -/
def feedT (cells : List Int) : T := .lst [.leaf (.list (cells.map .int)), .leaf (.int 0), .leaf (.int 0), .leaf (.int 0)]
theorem re_none {J : Addr → Prop} {H : Hp} : ∀ σ : L2.St, RE K J H σ (List.replicate σ.length none) []
  | [] => .nil
  | _ :: σ => .out (re_none σ)
theorem rds_ints {J : Addr → Prop} {H : Hp} : ∀ ns : List Int, RDs K J H (ns.map V.int) (ns.map PyData.int)
  | [] => .nil
  | n :: r => .cons (.int n) (rds_ints r)
theorem law_ok {k i : Nat} {W : Wd} {f ff : Addr} {fd ffd : FuncData} {st : Stmt} {N : List Str} {s y fe : Str} {c : Ss} {rest : List Stmt} {p1 p2 p3 p4 p5 : Pos} (t : Tab P w K mg base k W)
    (F : Fun K "law" "law" st f fd) (S : FnScope N [s] (defScope st)) (G : FnG P w K mg base CX0 k ff ffd [s] (spFeed K)) (hmg : mg fe = some (.ref ff)) (hkp : PySem.W.keepIn K (.ref ff) = true) (hbi : Binds K ffd [s] [])
    (hb : defBody st = .Assign [.Name y p1] (.Call (.Name fe p2) [.Name s p3] [] p4) p5 :: rest) (hi : N[i]? = some y) (h0 : N[0]? = some s) (hy : Loc (defScope st) y) (hs : visB (defScope st) s = true) (hd : nmOk s = true) (hfe : gloB (defScope st) fe = true) (hfd : nmOk fe = true)
    (hc : chkSs N [] (defScope st) c rest = true)
    (hrun : ∀ cells : List Int, cells.length ≤ 63 → ∃ e', evSs W c ((List.replicate N.length none).set i (some (feedT cells))) = .ok (.rt (.leaf (.bool true))) e') : FnG P w K mg base CX0 (k + 1) f fd [s] (spLawG K) := by
  refine fnG_of F S (fun vs H Q E h => by obtain ⟨a, ns, rfl, _⟩ := h; rfl) fun cdv B around s1 H vs Q E hr hg h => ?_
  obtain ⟨a, ns, rfl, hS, hl, q⟩ := h
  have g : GX (cxOf CX0 P w K mg base N "law" (defScope st) f cdv B around s1 H E).nox W N (defScope st) [] [] false := gx_of t S rfl rfl rfl rfl rfl rfl rfl rfl rfl hr hg (fun _ => rfl) (fun _ h => (nomatch h))
  have hrest := okSs c g rest hc
  obtain ⟨d1, d2⟩ := nmOk_d hd
  have hgl : Gl (cxOf CX0 P w K mg base N "law" (defScope st) f cdv B around s1 H E).nox fe := by
    unfold gloB at hfe
    split at hfe
    · assumption
    · cases hfe
  have hvar : PE (cxOf CX0 P w K mg base N "law" (defScope st) f cdv B around s1 H E).nox (.Name s p3) (tVar 0) := pe_var h0 (visB_vis hs) d1 d2
  have hcall := pe_callG (X := (cxOf CX0 P w K mg base N "law" (defScope st) f cdv B around s1 H E).nox) (pos := p4) (p := p2) G hr hg hgl hmg hkp hbi .nil pass0 (pa_cons hvar pa_nil) (nmOk_d hfd).1 rfl rfl
  have hset := ps_set (X := (cxOf CX0 P w K mg base N "law" (defScope st) f cdv B around s1 H E).nox) (pos := p5) (pos' := p1) S.nd hi hy hcall rfl (.inl rfl)
  rw [hb]
  refine ⟨_, PSs.nox (pss_cons hset hrest), ?_⟩
  have hps : 1 ≤ N.length := by
    have := (List.getElem?_eq_some_iff.mp h0).1
    omega
  have hst : (L2.start N [V.ref a])[0]? = some (some (.ref a)) := rfl
  refine ⟨.ref a, hst, a, ns, rfl, hS, hl, fun H' p cc hpc hp hcc => ?_⟩
  obtain ⟨e', he⟩ := hrun ns hl
  have hlen : (L2.start N [V.ref a]).length = N.length := by
    unfold L2.start
    simp
    omega
  have s0 : SR K [] (L2.start N [V.ref a]) H' (List.replicate N.length none) (fun b => b = cc) [] := by
    refine ⟨by rw [← hlen]; exact re_none _, .nil, fun _ h => (nomatch h), fun b z => ?_, fun _ h => (nomatch h)⟩
    subst z
    rw [hcc]
    exact fun z => nomatch z
  have ow : Own K (fun b => b = cc) H' [] (.ref p) (feedT ns) [p] := by
    refine ⟨.lst hp (.cons (f := []) (.leaf (.lst rfl hcc (rds_ints ns))) (.cons (f := []) (.leaf (.int 0)) (.cons (f := []) (.leaf (.int 0)) (.cons (f := []) (.leaf (.int 0)) .nil)))), by simp, fun b hb => ?_⟩
    simp at hb
    subst hb
    exact hpc
  have hilt : i < N.length := (List.getElem?_eq_some_iff.mp hi).1
  obtain ⟨F1, s2, _⟩ := s0.set (i := i) (by simpa using hilt) (fun _ h => (nomatch h)) ow
  exact ⟨_, _, F1, s2, _, e', he, fun v σ' H2 J' F' fp s' o' tr => by
    obtain ⟨rfl, _⟩ := own_bool o'
    exact q H2⟩
end

/-! ### the law's call, from the heap behind the top -/
theorem lawG_call {P : Program} {w : World} {K : PySem.W.Frag} {mg nb : Str → Option Value} {k : Nat} {fa a : Addr} {fd : FuncData} {x : Str} {sp : Sp} {s : Shared} {us : List Value} {ns : List Int}
    (inK : K.In s.heap) (glob : s.heap.Ns mainGlobals mg) (blts : s.heap.Ns builtinsNs nb) (bltsAre : ∀ x : Str, x ≠ "__name__" → nb x = bootBuiltins x) (nolim : s.heap.NoLimit) (nogen : s.gens = #[])
    (here : s.heap.get? a = some { cls := .type "list", data := .seq us.toArray }) (are : IntsAre us ns) (few : ns.length ≤ sizeLine) (room : Room k callerA)
    (G : ∀ base : Heap, K.In base → base.Ns mainGlobals mg → FnG P w K mg base CX0 k fa fd [x] sp) (bd : ∀ (s : Shared) (u : Value), BindsTo s fd ⟨[u], []⟩ [(x, u)])
    (want : ∀ H : Hp, SqL K H a (ns.map V.int) → sp [.ref a] H (fun v _ => v = .bl true) fun _ _ _ => False) :
    codeAny (model P w) callerA (.call (.ref fa) ⟨[.ref a], []⟩) (fun r s' => r = .ok (.ret (.bool true)) ∧ OldK s.heap s'.heap ∧ s'.os = s.os ∧ AllBare s'.gens) s := by
  have vals := vals_ints are
  have usLen := are.length
  have go : ∀ H : Hp, (∀ b, H b = none ∨ ∃ o xs, H b = some (.frz o (.lst xs))) → SqL K H a (ns.map V.int) → HOk P w H s.heap → (∀ b, H b ≠ none → b = a) → (H a ≠ none → K.lookup a = none) →
      codeAny (model P w) callerA (.call (.ref fa) ⟨[.ref a], []⟩) (fun r s' => r = .ok (.ret (.bool true)) ∧ OldK s.heap s'.heap ∧ s'.os = s.os ∧ AllBare s'.gens) s := by
    intro H lone hS good just notK
    have shown : ∀ {b : Addr} {o : Obj}, s.heap.get? b = some o → H b = none → (hidT s.heap H).get? b = some o := fun e n => hidT_get e n
    have apart : ∀ {b : Addr} {o : Obj}, s.heap.get? b = some o → (∀ us n, o.data ≠ .seq us n) → H b = none := fun {b o} e d => by
      cases q : H b with
      | none => rfl
      | some u =>
        have z : b = a := just b (by rw [q]; exact fun z => (nomatch z))
        rw [z, here] at e
        cases e
        exact absurd rfl (d _ _)
    have nsOf : ∀ {b : Addr} {m : Str → Option Value}, s.heap.Ns b m → (hidT s.heap H).Ns b m := by
      rintro b m ⟨o, es, ep, e, d, r⟩
      exact ⟨o, es, ep, shown e (apart e fun us n z => by rw [d] at z; cases z), d, r⟩
    have inB : K.In (hidT s.heap H) := fun b o e => shown (inK b o e) (by
      cases q : H b with
      | none => rfl
      | some u =>
        have nz : H b ≠ none := by rw [q]; exact fun z => nomatch z
        have z : b = a := just b nz
        subst z
        rw [notK nz] at e
        cases e)
    obtain ⟨ml, l1, l2⟩ := nolim
    have md : Mod K mg (hidT s.heap H) := ⟨inB, nsOf glob, ⟨nb, nsOf blts, bltsAre⟩, ml, nsOf l1, l2⟩
    have env : Env0 P w K mg (hidT s.heap H) callerA [] s H := ⟨rfl, md, fun b o e => of_hidT e, Nat.le_of_eq (hidT_size _ _), trivial, fun b hb => (nomatch hb), good, .of_eq nogen⟩
    refine codeAny_mono ((G _ inB (nsOf glob)).run callerA [] s H ⟨[.ref a], []⟩ [.ref a] [.ref a] _ _ room rfl env (bd s (.ref a)) (.cons rfl .nil) (want H hS)) ?_
    rintro r s' hq
    match r, hq with
    | .error e, hq => exact hq.elim
    | .ok .next, hq => exact hq.elim
    | .ok .brk, hq => exact hq.elim
    | .ok .cont, hq => exact hq.elim
    | .ok (.ret u), ⟨v, H', os, bare, un, good', ru, q⟩ =>
      have q2 : v = .bl true := q
      subst q2
      have ru2 : u = Value.bool true := ru
      subst ru2
      refine ⟨rfl, OldK.of_keep fun b o e => ?_, os, bare⟩
      rcases lone b with n | ⟨ob, xs, z⟩
      · exact un.keep b o e n (fun z => (nomatch z)) (fun z => (nomatch z))
      · obtain ⟨e1, _⟩ := good b _ z
        obtain ⟨e2, _⟩ := good' b _ (un.frzs b ob _ z)
        rw [e] at e1
        cases e1
        exact e2
  cases hk : K.lookup a with
  | some o =>
    have e := inK a o hk
    rw [here] at e
    cases e
    exact go (fun _ => none) (fun _ => .inl rfl) (.inr ⟨_, us.toArray, _, hk, rfl, rfl, rfl, by rw [List.size_toArray, usLen]; exact few, by simpa using vals⟩) (fun b u z => by cases z) (fun b z => absurd rfl z) fun z => absurd rfl z
  | none =>
    have fz : ∀ b, (fun b => if b = a then some (HO.frz { cls := .type "list", data := .seq us.toArray } (.lst (ns.map V.int))) else none) b = if b = a then some (HO.frz { cls := .type "list", data := .seq us.toArray } (.lst (ns.map V.int))) else none := fun _ => rfl
    refine go (fun b => if b = a then some (.frz { cls := .type "list", data := .seq us.toArray } (.lst (ns.map V.int))) else none) (fun b => ?_) (.inl (.inr ⟨{ cls := .type "list", data := .seq us.toArray }, if_pos rfl⟩)) (fun b u z => ?_) (fun b z => ?_) fun _ => hk
    · by_cases hb : b = a
      · exact .inr ⟨_, _, if_pos hb⟩
      · exact .inl (if_neg hb)
    · by_cases hb : b = a
      · have z2 := (if_pos hb).symm.trans z
        cases z2
        subst hb
        exact ⟨here, by rw [List.length_map]; exact few, us, _, vals, here⟩
      · have z2 := (if_neg hb).symm.trans z
        cases z2
    · by_cases hb : b = a
      · exact hb
      · exact absurd (if_neg hb) z
theorem walkG {l : PySem.W.OpenLaw} {n k : Nat} {q : Program} {loose : List Str} {XP : (Str → Option Value) → Heap → Prop} {YP : World → Heap → Prop} {d : DefRec} {K : Params → PySem.W.Frag} {sp : World → Sp} {x : Str}
    (most : l.most = some n) (few : n ≤ sizeLine) (nodef : d.params.defaults = []) (room : Room k callerA)
    (inK : ∀ (w : World) (h : Heap), YP w h → (K w.params).In h)
    (F : ∀ (w : World) (mg : Str → Option Value) (fa : Addr) (h : Heap), (K w.params).In h → h.Ns mainGlobals mg → mg d.name = some (.ref fa) →
      ∃ fd : FuncData, (∀ (s : Shared) (u : Value), BindsTo s fd ⟨[u], []⟩ [(x, u)]) ∧
        ∀ base : Heap, (K w.params).In base → base.Ns mainGlobals mg → FnG l.prog w (K w.params) mg base CX0 k fa fd [x] (sp w))
    (want : ∀ (w : World) (H : Hp) (a : Addr) (ns : List Int), ns.length ≤ n → SqL (K w.params) H a (ns.map V.int) → sp w [.ref a] H (fun v _ => v = .bl true) fun _ _ _ => False) :
    PySem.W.WalkO q loose XP YP l.row.toRowW d [] (fun f vs => PySem.call f vs) := by
  refine Att.attach_call most nodef ?_
  intro w s₀ s mg nb fa o pm cd doc a us ns Gd Y ho hd hcd hmg hobj hints hlen hgen
  have KX := inK w _ Y
  obtain ⟨fd, bd, hF⟩ := F w mg fa _ KX Gd.T.g hmg
  exact lawG_call KX Gd.T.g Gd.T.b Gd.T.builtins Gd.T.nolimit hgen hobj hints (Nat.le_trans hlen few) room hF bd fun H hS => want w H a ns hlen hS
theorem rv_int (i : Int) (t : Tok) : RelV (.int i) (.int i t) := ⟨_, rfl⟩
theorem rv_str (i : Str) (t : Tok) : RelV (.str i) (.str i t) := ⟨_, rfl⟩
theorem rv_bl (b : Bool) : RelV (.bl b) (.bool b) := rfl
theorem rv_ref (a : Addr) : RelV (.ref a) (.ref a) := rfl
end IL

namespace IL
open PySem PySem.Spec PyProof.Rows L2
/-! ### how a run is reckoned -/
/-- a def that turns nothing of what it is handed -/
def pureF (np : Nat) (g : List D → Option D) : FSem := fun ts => match leaves ts with
  | some ds => (match g ds with
    | some d => some (.leaf d, List.replicate np none)
    | none => none)
  | none => none
theorem leaves_eq : ∀ {ts : List T} {ds : List D}, leaves ts = some ds → ts = ds.map T.leaf
  | [], _, h => by cases h; rfl
  | t :: ts, ds, h => by
    cases t with
    | leaf d =>
      unfold leaves at h
      split at h
      · rename_i ds' h'
        cases h
        rw [leaves_eq h']
        rfl
      · cases h
    | lst _ => cases h
    | tup _ => cases h
    | dct _ => cases h
theorem maskN_nil : ∀ (e : List (Option T)) (k : Nat), maskN [] k e = List.replicate e.length none
  | [], _ => rfl
  | o :: r, k => by simp [maskN, maskN_nil r, List.replicate_succ]
def tell (m : M Fl) (e : En) : Option T := match m e with
  | .ok (.rt t) _ => some t
  | .ok .nx _ => some (.leaf .none)
  | _ => none
theorem pure_ok {nN np : Nat} {g : List D → Option D} {m : M Fl}
    (h : ∀ ds d, ds.length = np → g ds = some d → tell m (ds.map (fun d => some (T.leaf d)) ++ List.replicate (nN - np) none) = some (.leaf d)) :
    ∀ ts r, ts.length = np → pureF np g ts = some r → runM nN np [] m ts = some r := by
  intro ts r hl hp
  unfold pureF at hp
  split at hp
  · rename_i ds hds
    have e := leaves_eq hds
    subst e
    split at hp
    · rename_i d hd
      cases hp
      have he := h ds d (by simpa using hl) hd
      have e2 : (ds.map T.leaf).map some = ds.map (fun d => some (T.leaf d)) := by simp
      unfold runM runF
      rw [e2]
      unfold tell at he
      split at he
      · rename_i t e' h'
        cases he
        try rw [h']
        simp [maskN_nil]
      · rename_i e' h'
        cases he
        try rw [h']
        simp [maskN_nil]
      · cases he
    · cases hp
  · cases hp
/-- the same where an own list comes back, given up -/
theorem call_ret {F : FSem} {L : List Nat} {ls : List (Option Nat)} {fa : M (List T)} {e e1 : En} {ts : List T} {t : T} {outs : List (Option T)} (h1 : fa e = .ok ts e1) (h2 : F ts = some (t, outs)) : gCallF F L ls fa e = .ok t (putBack ls (maskN L 0 outs) e1) := by
  unfold gCallF bnd
  rw [h1]
  simp only [h2]
@[simp] theorem putBack_none (n m : Nat) : ∀ (e : En), putBack (List.replicate n none) (List.replicate m none) e = e := by
  induction n generalizing m with
  | zero => intro e; cases m <;> rfl
  | succ n ih =>
    intro e
    cases m with
    | zero => rfl
    | succ m => exact ih m e
def fr (a b : Int) : D := .tuple [.int a, .int b]
def fq (r : Rat) : D := fr r.num r.den
def lim (k : Nat) (i : Int) : Prop := i.natAbs < 2 ^ k
instance (k : Nat) (i : Int) : Decidable (lim k i) := inferInstanceAs (Decidable (_ < _))
theorem mulOk_lim {k l : Nat} {a b : Int} (ha : lim k a) (hb : lim l b) (h : k + l < 900000) : mulOk a b = true := by
  refine decide_eq_true (wide_mul (a := k + 1) (b := l + 1) ?_ ?_ (by omega) (by omega) (by omega))
  · exact Nat.lt_of_lt_of_le ha (Nat.pow_le_pow_right (by decide) (by omega))
  · exact Nat.lt_of_lt_of_le hb (Nat.pow_le_pow_right (by decide) (by omega))
theorem divOk_lim {k : Nat} {a b : Int} (h0 : b ≠ 0) (hb : lim k b) (h : k < 8000) : divOk a b = true := by
  refine decide_eq_true ⟨h0, ?_⟩
  by_cases hb0 : b.natAbs = 0
  · rw [hb0]; decide
  · exact (Nat.log2_lt hb0).mpr (Nat.lt_of_lt_of_le hb (Nat.pow_le_pow_right (by decide) (by omega)))
theorem lim_mul {k l : Nat} {a b : Int} (ha : lim k a) (hb : lim l b) : lim (k + l) (a * b) := by
  unfold lim at *
  rw [Int.natAbs_mul, Nat.pow_add]
  by_cases h0 : b.natAbs = 0
  · rw [h0, Nat.mul_zero]
    exact Nat.mul_pos (Nat.pow_pos (by decide)) (Nat.pow_pos (by decide))
  · exact Nat.mul_lt_mul'' ha hb
theorem lim_add {k : Nat} {a b : Int} (ha : lim k a) (hb : lim k b) : lim (k + 1) (a + b) := by
  unfold lim at *
  rw [Nat.pow_succ]
  have := Int.natAbs_add_le a b
  omega
theorem lim_sub {k : Nat} {a b : Int} (ha : lim k a) (hb : lim k b) : lim (k + 1) (a - b) := by
  unfold lim at *
  rw [Nat.pow_succ]
  have := Int.natAbs_sub_le a b
  omega
theorem lim_mono {k l : Nat} {a : Int} (ha : lim k a) (h : k ≤ l) : lim l a := Nat.lt_of_lt_of_le ha (Nat.pow_le_pow_right (by decide) h)

/-! ### the greatest common divisor, by rests -/
def swapBody : M Fl := gSeq (gPar 0 1 (consM (lf (gVar 1)) (consM (gBin modD (fz (lf (gVar 0))) (fz (lf (gVar 1)))) (ret [])))) (ret .nx)
theorem fmod_nat (x y : Nat) : (x : Int).fmod (y : Int) = ((x % y : Nat) : Int) := by
  rw [Int.fmod_eq_emod_of_nonneg _ (by omega)]
  rfl
theorem swap_step (x y : Nat) (hy : y ≠ 0) (rest : En) : swapBody (some (.leaf (.int x)) :: some (.leaf (.int y)) :: rest) = .ok .nx (some (.leaf (.int y)) :: some (.leaf (.int ((x % y : Nat) : Int))) :: rest) := by
  have h : decide ((y : Int) ≠ 0) = true := decide_eq_true (by omega)
  simp only [swapBody, gSeq, gPar, consM, lf, fz, gVar, gBin, modD, int2, bnd, ret, opt, List.getElem?_cons_zero, List.getElem?_cons_succ, List.set_cons_zero, List.set_cons_succ, frz, store, List.length_cons, h, if_true, fmod_nat]
  simp [ret]
theorem gcd_loop (cnd : M Bool) (hc : ∀ (x y : Nat) (rest : En), cnd (some (.leaf (.int x)) :: some (.leaf (.int y)) :: rest) = .ok (decide (y ≠ 0)) (some (.leaf (.int x)) :: some (.leaf (.int y)) :: rest)) :
    ∀ (k : Nat) (x y n : Nat) (rest : En), y < 2 ^ k → 2 * k + 1 ≤ n → gWhile n cnd swapBody (some (.leaf (.int x)) :: some (.leaf (.int y)) :: rest) = .ok .nx (some (.leaf (.int (Nat.gcd x y : Nat))) :: some (.leaf (.int 0)) :: rest) := by
  have stop : ∀ (x n : Nat) (rest : En), 1 ≤ n → gWhile n cnd swapBody (some (.leaf (.int x)) :: some (.leaf (.int ((0 : Nat) : Int))) :: rest) = .ok .nx (some (.leaf (.int (Nat.gcd x 0 : Nat))) :: some (.leaf (.int 0)) :: rest) := by
    intro x n rest hn
    obtain ⟨m, rfl⟩ : ∃ m, n = m + 1 := ⟨n - 1, by omega⟩
    unfold gWhile bnd
    rw [hc]
    simp [ret]
  have go : ∀ (x y n : Nat) (rest : En), y ≠ 0 → gWhile (n + 1) cnd swapBody (some (.leaf (.int x)) :: some (.leaf (.int y)) :: rest) = gWhile n cnd swapBody (some (.leaf (.int y)) :: some (.leaf (.int ((x % y : Nat) : Int))) :: rest) := by
    intro x y n rest hy
    conv => lhs; unfold gWhile bnd
    rw [hc]
    have : decide (y ≠ 0) = true := decide_eq_true hy
    simp only [this, if_true, bnd]
    rw [swap_step x y hy]
  intro k
  induction k with
  | zero =>
    intro x y n rest hy hn
    have : y = 0 := by simpa using hy
    subst this
    exact stop x n rest (by omega)
  | succ k ih =>
    intro x y n rest hy hn
    by_cases h0 : y = 0
    · subst h0
      exact stop x n rest (by omega)
    · obtain ⟨m, rfl⟩ : ∃ m, n = m + 1 + 1 := ⟨n - 2, by omega⟩
      rw [go x y (m + 1) rest h0]
      have hlt : x % y < y := Nat.mod_lt _ (by omega)
      by_cases h1 : x % y = 0
      · rw [h1, stop y (m + 1) rest (by omega)]
        rw [Nat.gcd_comm x y, Nat.gcd_rec y x, h1, Nat.gcd_comm 0 y]
      · rw [go y (x % y) m rest h1]
        have hlt2 : y % (x % y) < x % y := Nat.mod_lt _ (by omega)
        have hd : y % (x % y) + (x % y) ≤ y := by
          have := Nat.div_add_mod y (x % y)
          have h2 : 1 ≤ y / (x % y) := (Nat.one_le_div_iff (by omega)).mpr (by omega)
          have h3 : x % y * 1 ≤ x % y * (y / (x % y)) := Nat.mul_le_mul_left _ h2
          omega
        have hp : y % (x % y) < 2 ^ k := by rw [Nat.pow_succ] at hy; omega
        rw [ih (x % y) (y % (x % y)) m rest hp (by omega)]
        rw [Nat.gcd_comm x y, Nat.gcd_rec y x, Nat.gcd_comm (x % y) y, Nat.gcd_comm y (x % y), Nat.gcd_rec (x % y) y]
        rw [Nat.gcd_comm]

/-! ### the reckoning's rows -/
section
variable {α β : Type} {e e1 : En} {W : Wd}
@[simp] theorem ap_ret (a : α) : (IL.ret a : M α) e = .ok a e := rfl
@[simp] theorem ap_bad : (IL.bad : M α) e = .bad := rfl
@[simp] theorem ap_bnd (f : M α) (g : α → M β) : bnd f g e = match f e with
  | .ok a e' => g a e'
  | .bad => .bad
  | .exc x e' => .exc x e' := rfl
@[simp] theorem ap_optS (a : α) : opt (some a) e = .ok a e := rfl
@[simp] theorem ap_optN : opt (none : Option α) e = .bad := rfl
@[simp] theorem ap_lf (f : M D) : lf f = bnd f fun d => IL.ret (.leaf d) := rfl
@[simp] theorem ap_fz (f : M T) : fz f = bnd f fun t => IL.ret (frz t) := rfl
@[simp] theorem ap_fzs (f : M (List T)) : fzs f = bnd f fun t => IL.ret (frzs t) := rfl
@[simp] theorem frz_leaf (d : D) : frz (.leaf d) = d := by simp [frz]
@[simp] theorem frz_lst (ts : List T) : frz (.lst ts) = .list (ts.map frz) := by simp [frz, frzs_map]
@[simp] theorem frz_tup (ts : List T) : frz (.tup ts) = .tuple (ts.map frz) := by simp [frz, frzs_map]
@[simp] theorem frzs_eq (ts : List T) : frzs ts = ts.map frz := frzs_map ts
@[simp] theorem ap_var (i : Nat) : gVar i e = match e[i]? with
  | some (some t) => .ok (frz t) (e.set i (some (.leaf (frz t))))
  | _ => .bad := rfl
@[simp] theorem ap_held (i : Nat) : held i e = match e[i]? with
  | some (some _) => .ok () e
  | _ => .bad := rfl
@[simp] theorem ap_peek (i : Nat) (g : T → Option α) : peek i g e = match e[i]? with
  | some (some t) => opt (g t) e
  | _ => .bad := rfl
@[simp] theorem ap_store (i : Nat) (t : T) : store i t e = if i < e.length then .ok () (e.set i (some t)) else .bad := rfl
@[simp] theorem ap_take (i : Nat) : gTake i e = match e[i]? with
  | some (some t) => .ok t (e.set i none)
  | _ => .bad := rfl
@[simp] theorem ap_consM (f : M T) (g : M (List T)) : consM f g = bnd f fun t => bnd g fun ts => IL.ret (t :: ts) := rfl
@[simp] theorem ap_bin (g : D → D → Option T) (f h : M D) : gBin g f h = bnd f fun x => bnd h fun y => opt (g x y) := rfl
@[simp] theorem ap_chain (g g' : D → D → Option T) (fa fb fc : M D) : gChain g g' fa fb fc = bnd fa fun x => bnd fb fun y => bnd (opt (g x y)) fun t => bnd (opt (asB t)) fun b => if b then bnd fc fun z => opt (g' y z) else IL.ret (.leaf (.bool false)) := rfl
@[simp] theorem ap_vcmp (g : D → D → Option T) (i : Nat) (fb : M D) : gVcmp g i fb = bnd (held i) fun _ => bnd fb fun y => peek i fun t => onlyB (g (frz t) y) := rfl
@[simp] theorem ap_and (f g : M T) : gAnd f g = bnd f fun t => bnd (opt (asB t)) fun b => if b then g else IL.ret (.leaf (.bool false)) := rfl
@[simp] theorem ap_or (f g : M T) : gOr f g = bnd f fun t => bnd (opt (asB t)) fun b => if b then IL.ret (.leaf (.bool true)) else g := rfl
@[simp] theorem ap_not (f : M T) : gNot f = bnd f fun t => bnd (opt (asB t)) fun b => IL.ret (.leaf (.bool (!b))) := rfl
@[simp] theorem asB_bool (b : Bool) : asB (.leaf (.bool b)) = some b := rfl
@[simp] theorem ap_tst (f : M T) : tst f = bnd f fun t => opt (asB t) := rfl
@[simp] theorem ap_cond (f : M Bool) (g k : M α) : cond f g k = bnd f fun b => if b then g else k := rfl
@[simp] theorem ap_ix (f g : M D) : gIx f g = bnd f fun x => bnd g fun y => opt (ixD x y) := rfl
@[simp] theorem ap_vix (i : Nat) (g : M D) : gVix i g = bnd (held i) fun _ => bnd g fun y => peek i fun t => tIx t y := rfl
@[simp] theorem ap_seq (f g : M Fl) : gSeq f g = bnd f fun fl => match fl with
  | .nx => g
  | .bk => IL.ret .bk
  | .ct => IL.ret .ct
  | .rt t => IL.ret (.rt t) := rfl
@[simp] theorem ap_set (i : Nat) (f : M T) : gSet i f = bnd f fun t => bnd (store i t) fun _ => IL.ret .nx := rfl
@[simp] theorem ap_retS (f : M T) : gRet f = bnd f fun t => IL.ret (.rt t) := rfl
@[simp] theorem ap_exp (f : M T) : gExp f = bnd f fun _ => IL.ret .nx := rfl
@[simp] theorem ap_ifS (c : M Bool) (f g : M Fl) : gIfS c f g = cond c f g := rfl
@[simp] theorem ap_asg (f : M D) (bd : D → M Unit) : gAsg f bd = bnd f fun d => bnd (bd d) fun _ => IL.ret .nx := rfl
@[simp] theorem ap_call (g : List D → Option T) (f : M (List D)) : gCall g f = bnd f fun xs => opt (g xs) := rfl
@[simp] theorem ap_isi (t : Ty) (f : M D) : isiG t f = bnd f fun d => IL.ret (.leaf (.bool (isiB t d))) := rfl
@[simp] theorem ap_tup (f : M (List T)) : gTup f = bnd f fun ts => if ts.length ≤ most then IL.ret (mkTup ts) else IL.bad := rfl
@[simp] theorem ap_lst (f : M (List T)) : gLst f = bnd f fun ts => if ts.length ≤ most then IL.ret (.lst ts) else IL.bad := rfl
@[simp] theorem leaves_nil : leaves [] = some [] := rfl
@[simp] theorem leaves_cons (d : D) (r : List T) : leaves (.leaf d :: r) = match leaves r with
  | some ds => some (d :: ds)
  | none => none := rfl
@[simp] theorem ap_callF (F : FSem) (L : List Nat) (ls : List (Option Nat)) (fa : M (List T)) : gCallF F L ls fa = bnd fa fun ts => fun e => match F ts with
  | some (t, outs) => .ok t (putBack ls (maskN L 0 outs) e)
  | none => .bad := rfl
@[simp] theorem mask_nil (k : Nat) (e : List (Option T)) : maskN [] k e = List.replicate e.length none := maskN_nil e k
@[simp] theorem put_nil (ls : List (Option Nat)) (e : En) : putBack ls [] e = e := by cases ls <;> first | rfl | (rename_i l r; cases l <;> rfl)
@[simp] theorem put_none (ls : List (Option Nat)) (o : Option T) (r : List (Option T)) (e : En) : putBack (none :: ls) (o :: r) e = putBack ls r e := rfl
@[simp] theorem put_some (ls : List (Option Nat)) (i : Nat) (t : T) (r : List (Option T)) (e : En) : putBack (some i :: ls) (some t :: r) e = putBack ls r (match e[i]? with
  | some none => e.set i (some t)
  | _ => e) := rfl
@[simp] theorem most_ok {n : Nat} (h : n ≤ 100000) : n ≤ most := h
theorem ev_int (n : Int) : evC W (.int n) = lf (IL.ret (.int n)) := by simp [evC]
end
end IL

namespace IL
open PySem L2
theorem gcd_pos {a b : Int} (hb : b ≠ 0) : 0 < Int.gcd a b := Int.gcd_pos_of_ne_zero_right a hb
theorem rat_pos {a b : Int} (hb : 0 < b) : fr (a.fdiv (Int.gcd a b : Nat)) (b.fdiv (Int.gcd a b : Nat)) = fq (Rat.divInt a b) := by
  have hg := gcd_pos (a := a) (b := b) (by omega)
  unfold fq
  rw [Rat.num_divInt, Rat.den_divInt, if_neg (by omega), Int.sign_eq_one_of_pos hb, Int.one_mul, Int.gcd_comm b a]
  rw [Int.fdiv_eq_ediv_of_nonneg _ (by omega), Int.fdiv_eq_ediv_of_nonneg _ (by omega)]
  congr 1
  rw [Int.natCast_ediv]
  congr 1
  omega
theorem fdiv_neg_dvd {a d : Int} (hd : d ≠ 0) (h : d ∣ a) : a.fdiv (0 - d) = (-a) / d := by
  obtain ⟨q, rfl⟩ := h
  have e1 : d * q = (0 - d) * (-q) := by rw [Int.zero_sub, Int.neg_mul_neg]
  rw [e1, Int.mul_fdiv_cancel_left _ (by omega)]
  have e2 : -((0 - d) * -q) = d * -q := by rw [Int.zero_sub, Int.neg_mul_neg, Int.mul_neg]
  rw [e2, Int.mul_ediv_cancel_left _ hd]
theorem rat_neg {a b : Int} (hb : b < 0) : fr (a.fdiv (0 - (Int.gcd a b : Nat))) (b.fdiv (0 - (Int.gcd a b : Nat))) = fq (Rat.divInt a b) := by
  have hg := gcd_pos (a := a) (b := b) (by omega)
  unfold fq
  rw [Rat.num_divInt, Rat.den_divInt, if_neg (by omega), Int.sign_eq_neg_one_of_neg hb, Int.gcd_comm b a]
  rw [fdiv_neg_dvd (by omega) (Int.gcd_dvd_left ..), fdiv_neg_dvd (by omega) (Int.gcd_dvd_right ..)]
  rw [Int.neg_one_mul]
  congr 1
  rw [Int.natCast_ediv]
  congr 1
  omega
theorem gcd_abs (a b : Int) : (Nat.gcd (if a < 0 then -a else a).toNat (if b < 0 then -b else b).toNat) = Int.gcd a b := by
  unfold Int.gcd
  congr 1
  · split <;> omega
  · split <;> omega
theorem gcd_lim {k : Nat} {a b : Int} (hb : b ≠ 0) (h : lim k b) : lim k (Int.gcd a b : Nat) := by
  unfold lim at *
  have : Int.gcd a b ≤ b.natAbs := by
    have h1 := Int.gcd_dvd_natAbs_right a b
    exact Nat.le_of_dvd (by omega) h1
  simp
  omega
theorem lim_neg {k : Nat} {a : Int} : lim k (0 - a) ↔ lim k a := by unfold lim; rw [Int.zero_sub, Int.natAbs_neg]
/-! ### the operators' rows -/
@[simp] theorem abs_int (i : Int) : absD [.int i] = some (.leaf (.int (i.natAbs : Int))) := by
  show some (T.leaf (PyData.int (if i < 0 then -i else i))) = _
  congr 3
  split <;> omega
@[simp] theorem add_int (i j : Int) : addD (.int i) (.int j) = some (.leaf (.int (i + j))) := rfl
@[simp] theorem sub_int (i j : Int) : subD (.int i) (.int j) = some (.leaf (.int (i - j))) := rfl
@[simp] theorem mul_int (i j : Int) : mulD (.int i) (.int j) = if mulOk i j = true then some (.leaf (.int (i * j))) else none := by
  unfold mulD orr int2 tupRep
  split <;> simp_all
@[simp] theorem fdv_int (i j : Int) : fdvD (.int i) (.int j) = if divOk i j = true then some (.leaf (.int (i.fdiv j))) else none := rfl
@[simp] theorem mod_int (i j : Int) : modD (.int i) (.int j) = if j ≠ 0 then some (.leaf (.int (i.fmod j))) else none := by
  unfold modD int2
  simp
@[simp] theorem lt_int (i j : Int) : ltD (.int i) (.int j) = some (.leaf (.bool (decide (i < j)))) := rfl
@[simp] theorem le_int (i j : Int) : leD (.int i) (.int j) = some (.leaf (.bool (decide (i ≤ j)))) := rfl
@[simp] theorem gt_int (i j : Int) : gtD (.int i) (.int j) = some (.leaf (.bool (decide (j < i)))) := rfl
@[simp] theorem ge_int (i j : Int) : geD (.int i) (.int j) = some (.leaf (.bool (decide (j ≤ i)))) := rfl
@[simp] theorem eq_int (i j : Int) : eqD (.int i) (.int j) = some (.leaf (.bool (decide (i = j)))) := by
  show some (T.leaf (PyData.bool (i == j))) = _
  congr 3
@[simp] theorem ne_int (i j : Int) : neD (.int i) (.int j) = some (.leaf (.bool (decide (i ≠ j)))) := by
  show some (T.leaf (PyData.bool (!(i == j)))) = _
  by_cases h : i = j <;> simp [h]
@[simp] theorem pow_int (i j : Int) : powD (.int i) (.int j) = if powOk i j = true then some (.leaf (.int (i ^ j.toNat))) else none := rfl
@[simp] theorem mkTup2 (a b : D) : mkTup [.leaf a, .leaf b] = .leaf (.tuple [a, b]) := rfl
@[simp] theorem mkTup3 (a b c : D) : mkTup [.leaf a, .leaf b, .leaf c] = .leaf (.tuple [a, b, c]) := rfl
@[simp] theorem ix_tup0 (a : D) (r : List D) : ixD (.tuple (a :: r)) (.int 0) = some a := by simp [ixD, L2.atI, ixN]
@[simp] theorem ix_tup1 (a b : D) (r : List D) : ixD (.tuple (a :: b :: r)) (.int 1) = some b := by
  have : (1 : Int) < (r.length : Int) + 1 + 1 := by omega
  simp [ixD, L2.atI, ixN, this]
@[simp] theorem tix_leaf (d y : D) : tIx (.leaf d) y = ixD d y := rfl
theorem leaves_map : ∀ ds : List D, leaves (ds.map T.leaf) = some ds
  | [] => rfl
  | d :: r => by rw [List.map_cons, leaves_cons, leaves_map r]
end IL

namespace IL
open PySem PySem.Spec PyProof.Rows L2
/-! ### what repr may be asked of -/
structure Fine (n b : Nat) (d : D) : Prop where
  lay : d.canLay0 = true
  sho : d.showable = true
  sm : d.leavesShort 1000 = true
  dep : d.depth ≤ n
  blk : d.bulk ≤ b
theorem fine_int {i : Int} (h : lim 900 i) : Fine 0 0 (.int i) := by
  have hl : i.natAbs.log2 < 900 := by
    by_cases h0 : i.natAbs = 0
    · rw [h0]; decide
    · exact (Nat.log2_lt h0).mpr h
  refine ⟨by simp [PyData.canLay0], ?_, ?_, by simp [PyData.depth], by simp [PyData.bulk]⟩
  · simp only [PyData.showable, decide_eq_true_eq]; omega
  · simp only [PyData.leavesShort, decide_eq_true_eq, PyData.shown_int]
    have := int_text_length_le (a := i) (k := 900) (by decide) hl
    have e := PySem.ofString_length (toString i)
    omega
theorem fine_alls {n b : Nat} : ∀ {ds : List D}, (∀ d ∈ ds, Fine n b d) → PyData.canLayAll0 ds = true ∧ PyData.showableAll ds = true ∧ PyData.leavesShortAll 1000 ds = true ∧ PyData.depthAll ds ≤ n ∧ PyData.bulkAll ds ≤ ds.length * (b + 1)
  | [], _ => ⟨by simp [PyData.canLayAll0], by simp [PyData.showableAll], by simp [PyData.leavesShortAll], by simp [PyData.depthAll], by simp [PyData.bulkAll]⟩
  | d :: r, h => by
    obtain ⟨h1, h2, h3, h4, h5⟩ := fine_alls (ds := r) fun x hx => h x (.tail _ hx)
    have z := h d (.head _)
    refine ⟨by simp [PyData.canLayAll0, h1, z.lay], by simp [PyData.showableAll, h2, z.sho], by simp [PyData.leavesShortAll, h3, z.sm], ?_, ?_⟩
    · have := z.dep
      simp only [PyData.depthAll]
      omega
    · have := z.blk
      simp only [PyData.bulkAll, List.length_cons, Nat.add_mul]
      omega
theorem fine_tup {n b m : Nat} {ds : List D} (h : ∀ d ∈ ds, Fine n b d) (hm : ds.length ≤ m) : Fine (n + 1) (m * (b + 1)) (.tuple ds) := by
  obtain ⟨h1, h2, h3, h4, h5⟩ := fine_alls h
  have := Nat.mul_le_mul_right (b + 1) hm
  exact ⟨by simpa [PyData.canLay0] using h1, by simpa [PyData.showable] using h2, by simpa [PyData.leavesShort] using h3, by simp only [PyData.depth]; omega, by simp only [PyData.bulk]; omega⟩
theorem fine_lst {n b m : Nat} {ds : List D} (h : ∀ d ∈ ds, Fine n b d) (hm : ds.length ≤ m) : Fine (n + 1) (m * (b + 1)) (.list ds) := by
  obtain ⟨h1, h2, h3, h4, h5⟩ := fine_alls h
  have := Nat.mul_le_mul_right (b + 1) hm
  exact ⟨by simpa [PyData.canLay0] using h1, by simpa [PyData.showable] using h2, by simpa [PyData.leavesShort] using h3, by simp only [PyData.depth]; omega, by simp only [PyData.bulk]; omega⟩
theorem Fine.mono {n b n' b' : Nat} {d : D} (h : Fine n b d) (h1 : n ≤ n') (h2 : b ≤ b') : Fine n' b' d := ⟨h.lay, h.sho, h.sm, Nat.le_trans h.dep h1, Nat.le_trans h.blk h2⟩
theorem Fine.ok {d : D} (h : Fine 60 16000 d) : reprOk d = true := by
  have h1 := PyData.shown_le_bulk 1000 (by decide) d h.sm
  have h2 := h.blk
  have h3 := h.dep
  have h4 : (1000 + 2) * d.bulk ≤ 1002 * 16000 := Nat.mul_le_mul (by decide) h2
  simp only [reprOk, h.lay, h.sho, Bool.and_true, Bool.true_and, Bool.and_eq_true, decide_eq_true_eq, sizeLine_eq]
  omega
theorem repr_fine {d : D} (h : Fine 60 16000 d) : reprD [d] = some (.leaf (.str d.shown)) := by
  exact if_pos h.ok
@[simp] theorem ne_str_self (a : Str) : neD (.str a) (.str a) = some (.leaf (.bool false)) := by
  simp [neD, eqB, scalEq, bT]
/-! ### fractions within limits -/
def limQ (k : Nat) (r : Rat) : Prop := lim k r.num ∧ lim k (r.den : Int)
instance (k : Nat) (r : Rat) : Decidable (limQ k r) := inferInstanceAs (Decidable (_ ∧ _))
def px (p c : Rat) : D := .tuple [fq p, fq c]
theorem fine_fq {r : Rat} (h : limQ 900 r) : Fine 1 2 (fq r) := fine_tup (n := 0) (b := 0) (m := 2) (by
  intro d hd
  simp only [List.mem_cons, List.not_mem_nil, or_false] at hd
  rcases hd with rfl | rfl
  · exact fine_int h.1
  · exact fine_int h.2) (by simp)
theorem fine_px {p c : Rat} (h : limQ 900 p) (h' : limQ 900 c) : Fine 2 6 (px p c) := fine_tup (n := 1) (b := 2) (m := 2) (by
  intro d hd
  simp only [List.mem_cons, List.not_mem_nil, or_false] at hd
  rcases hd with rfl | rfl
  · exact fine_fq h
  · exact fine_fq h') (by simp)
theorem limQ.mono {k l : Nat} {r : Rat} (h : limQ k r) (hk : k ≤ l) : limQ l r := ⟨lim_mono h.1 hk, lim_mono h.2 hk⟩
theorem limQ_divInt {k : Nat} {a b : Int} (h0 : b ≠ 0) (ha : lim k a) (hb : lim k b) : limQ k (Rat.divInt a b) := by
  unfold limQ
  rw [Rat.num_divInt, Rat.den_divInt, if_neg h0]
  unfold lim at *
  constructor
  · have h1 : (b.sign * a / ((b.gcd a : Nat) : Int)).natAbs ≤ a.natAbs := by
      have e1 := Int.natAbs_ediv_le_natAbs (b.sign * a) ((b.gcd a : Nat) : Int)
      have e2 : (b.sign * a).natAbs = a.natAbs := by
        rw [Int.natAbs_mul, Int.natAbs_sign_of_ne_zero h0, Nat.one_mul]
      omega
    omega
  · have h1 := Nat.div_le_self b.natAbs (b.gcd a)
    rw [Int.natAbs_natCast]
    omega
theorem limQ.add {k l : Nat} {r s : Rat} (h : limQ k r) (h' : limQ l s) : limQ (k + l + 1) (r + s) := by
  have e : r + s = Rat.divInt (r.num * s.den + s.num * r.den) (r.den * s.den) := by
    conv => lhs; rw [← Rat.num_divInt_den r, ← Rat.num_divInt_den s]
    exact Rat.divInt_add_divInt _ _ (by have := r.den_pos; omega) (by have := s.den_pos; omega)
  rw [e]
  have d1 := r.den_pos
  have d2 := s.den_pos
  refine limQ_divInt (Int.mul_ne_zero (by omega) (by omega)) (lim_add (lim_mul h.1 h'.2) ?_) (lim_mono (lim_mul h.2 h'.2) (by omega))
  rw [Nat.add_comm k l]
  exact lim_mul h'.1 h.2
theorem limQ.sub {k l : Nat} {r s : Rat} (h : limQ k r) (h' : limQ l s) : limQ (k + l + 1) (r - s) := by
  rw [Rat.sub_eq_add_neg]
  refine h.add ⟨?_, ?_⟩
  · unfold lim; rw [Rat.neg_num, Int.natAbs_neg]; exact h'.1
  · rw [Rat.neg_den]; exact h'.2
theorem limQ.mul {k l : Nat} {r s : Rat} (h : limQ k r) (h' : limQ l s) : limQ (k + l) (r * s) := by
  have e : r * s = Rat.divInt (r.num * s.num) (r.den * s.den) := by
    conv => lhs; rw [← Rat.num_divInt_den r, ← Rat.num_divInt_den s]
    exact Rat.divInt_mul_divInt _ _
  rw [e]
  have d1 := r.den_pos
  have d2 := s.den_pos
  exact limQ_divInt (Int.mul_ne_zero (by omega) (by omega)) (lim_mul h.1 h'.1) (lim_mul h.2 h'.2)
theorem limQ_one : limQ 1 1 := by decide
theorem limQ_zero : limQ 1 0 := by decide
/-! ### runs -/
theorem run_pure {nN np : Nat} {m : M Fl} {ts : List T} {t : T} (h : tell m (ts.map some ++ List.replicate (nN - np) none) = some t) : runM nN np [] m ts = some (t, List.replicate np none) := by
  unfold tell at h
  unfold runM runF
  split at h
  · rename_i t' e' h'
    cases h
    try rw [h']
    simp [maskN_nil]
  · rename_i e' h'
    cases h
    try rw [h']
    simp [maskN_nil]
  · cases h
theorem gFor_inv {bd : D → M Unit} {b : M Fl} (Inv : Nat → En → Prop) : ∀ (ds : List D) (k : Nat) (e : En), Inv k e → (∀ i d e, ds[i]? = some d → Inv (k + i) e → ∃ e', (bnd (bd d) fun _ => b) e = .ok .nx e' ∧ Inv (k + i + 1) e') → ∃ e', gFor bd b ds e = .ok .nx e' ∧ Inv (k + ds.length) e'
  | [], k, e, h, _ => ⟨e, rfl, h⟩
  | d :: ds, k, e, h, st => by
    obtain ⟨e1, h1, i1⟩ := st 0 d e rfl h
    obtain ⟨e2, h2, i2⟩ := gFor_inv Inv ds (k + 1) e1 i1 fun i d' e' hi hI => by
      have := st (i + 1) d' e' hi (by rw [show k + (i + 1) = k + 1 + i by omega]; exact hI)
      rw [show k + (i + 1) + 1 = k + 1 + i + 1 by omega] at this
      exact this
    refine ⟨e2, ?_, by rw [List.length_cons, show k + (ds.length + 1) = k + 1 + ds.length by omega]; exact i2⟩
    unfold gFor
    unfold bnd at h1 ⊢
    split at h1
    · rename_i a e' h'
      have h3 : b e' = .ok .nx e1 := h1
      simp only [h3, h2]
    · cases h1
    · cases h1
theorem gLc_inv {vs : List Nat} {bd : D → M Unit} {tt : M Bool} {el : M D} (Inv : Nat → List D → En → Prop) : ∀ (ds : List D) (k : Nat) (acc : List D) (e : En), acc.length + ds.length ≤ most → Inv k acc e →
    (∀ i d acc e, ds[i]? = some d → Inv (k + i) acc e → ∃ e' x, (bnd (wipeM vs) fun _ => bnd (bd d) fun _ => bnd tt fun b => if b then el else bad) e = .ok x e' ∧ Inv (k + i + 1) (acc ++ [x]) e') →
    ∃ e' acc', gLc vs bd tt el ds acc e = (bnd (wipeM vs) fun _ => IL.ret (.lst (acc'.map .leaf))) e' ∧ acc'.length = acc.length + ds.length ∧ Inv (k + ds.length) acc' e'
  | [], k, acc, e, hm, h, _ => ⟨e, acc, rfl, rfl, h⟩
  | d :: ds, k, acc, e, hm, h, st => by
    obtain ⟨e1, x, h1, i1⟩ := st 0 d acc e rfl h
    simp only [List.length_cons] at hm
    obtain ⟨e2, acc2, h2, l2, i2⟩ := gLc_inv Inv ds (k + 1) (acc ++ [x]) e1 (by simp; omega) i1 fun i d' a' e' hi hI => by
      have := st (i + 1) d' a' e' hi (by rw [show k + (i + 1) = k + 1 + i by omega]; exact hI)
      rw [show k + (i + 1) + 1 = k + 1 + i + 1 by omega] at this
      exact this
    refine ⟨e2, acc2, ?_, by simp at l2 ⊢; omega, by rw [List.length_cons, show k + (ds.length + 1) = k + 1 + ds.length by omega]; exact i2⟩
    rw [← h2]
    have hw : wipeM vs e = .ok () (wipeE e vs) := rfl
    conv => lhs; unfold gLc
    simp only [bnd, hw] at h1 ⊢
    cases k1 : bd d (wipeE e vs) with
    | ok a e3 =>
      simp only [k1] at h1 ⊢
      cases k2 : tt e3 with
      | ok t e4 =>
        simp only [k2] at h1 ⊢
        cases t with
        | true =>
          simp only [if_true] at h1 ⊢
          simp only [if_pos (show acc.length < most by omega)]
          simp only [bnd, h1]
        | false => cases h1
      | bad => simp only [k2] at h1; cases h1
      | exc x e4 => simp only [k2] at h1; cases h1
    | bad => simp only [k1] at h1; cases h1
    | exc x e3 => simp only [k1] at h1; cases h1
end IL

namespace IL
open PySem PySem.Spec PyProof.Rows L2
/-! ### plain data of bounded depth and bulk -/
def leafOk : D → Bool
  | .none => true
  | .bool _ => true
  | .int i => decide (lim 400 i)
  | .str s => (PyData.str s).canLay0 && (PyData.str s).showable && (PyData.str s).leavesShort 1000
  | _ => false
/-- plain data: leaves, and tuples and lists, n deep -/
def Lv : Nat → D → Prop
  | 0, d => leafOk d = true
  | n + 1, d => leafOk d = true ∨ ∃ ds, (d = .tuple ds ∨ d = .list ds) ∧ ∀ x ∈ ds, Lv n x
theorem Lv.leaf : ∀ {n : Nat} {d : D}, leafOk d = true → Lv n d
  | 0, _, h => h
  | _ + 1, _, h => .inl h
theorem Lv.mono : ∀ {n n' : Nat} {d : D}, Lv n d → n ≤ n' → Lv n' d
  | 0, _, _, h, _ => .leaf h
  | n + 1, 0, _, _, hn => absurd hn (by omega)
  | n + 1, n' + 1, d, h, hn => by
    rcases h with h | ⟨ds, h1, h3⟩
    · exact .inl h
    · exact .inr ⟨ds, h1, fun x hx => (h3 x hx).mono (by omega)⟩
theorem fine_leaf {d : D} (h : leafOk d = true) : Fine 0 d.bulk d := by
  cases d with
  | none => exact ⟨by simp [PyData.canLay0], by simp [PyData.showable], by simp [PyData.leavesShort], by simp [PyData.depth], by simp [PyData.bulk]⟩
  | bool b => exact ⟨by simp [PyData.canLay0], by simp [PyData.showable], by simp [PyData.leavesShort], by simp [PyData.depth], by simp [PyData.bulk]⟩
  | int i => exact (fine_int (lim_mono (of_decide_eq_true h) (by decide))).mono (by omega) (by omega)
  | str s =>
    simp only [leafOk, Bool.and_eq_true] at h
    exact ⟨h.1.1, h.1.2, h.2, by simp [PyData.depth], Nat.le_refl _⟩
  | list _ => cases h
  | tuple _ => cases h
  | dict _ => cases h
theorem bulk_tup (ds : List D) : (PyData.tuple ds).bulk = PyData.bulkAll ds := by simp only [PyData.bulk]
theorem bulk_lst (ds : List D) : (PyData.list ds).bulk = PyData.bulkAll ds := by simp only [PyData.bulk]
theorem fine_all {n : Nat} : ∀ {ds : List D}, (∀ d ∈ ds, Fine n d.bulk d) → PyData.canLayAll0 ds = true ∧ PyData.showableAll ds = true ∧ PyData.leavesShortAll 1000 ds = true ∧ PyData.depthAll ds ≤ n
  | [], _ => ⟨by simp [PyData.canLayAll0], by simp [PyData.showableAll], by simp [PyData.leavesShortAll], by simp [PyData.depthAll]⟩
  | d :: r, h => by
    obtain ⟨h1, h2, h3, h4⟩ := fine_all (ds := r) fun x hx => h x (.tail _ hx)
    have z := h d (.head _)
    refine ⟨by simp [PyData.canLayAll0, h1, z.lay], by simp [PyData.showableAll, h2, z.sho], by simp [PyData.leavesShortAll, h3, z.sm], ?_⟩
    have := z.dep
    simp only [PyData.depthAll]
    omega
theorem Lv.fine : ∀ {n : Nat} {d : D}, Lv n d → Fine n d.bulk d
  | 0, _, h => (fine_leaf h).mono (by omega) (by omega)
  | n + 1, d, h => by
    rcases h with h | ⟨ds, h1 | h1, h3⟩
    · exact (fine_leaf h).mono (by omega) (by omega)
    · subst h1
      obtain ⟨q1, q2, q3, q4⟩ := fine_all fun x hx => (h3 x hx).fine
      exact ⟨by simpa [PyData.canLay0] using q1, by simpa [PyData.showable] using q2, by simpa [PyData.leavesShort] using q3, by simp only [PyData.depth]; omega, Nat.le_refl _⟩
    · subst h1
      obtain ⟨q1, q2, q3, q4⟩ := fine_all fun x hx => (h3 x hx).fine
      exact ⟨by simpa [PyData.canLay0] using q1, by simpa [PyData.showable] using q2, by simpa [PyData.leavesShort] using q3, by simp only [PyData.depth]; omega, Nat.le_refl _⟩
/-- plain, n deep, of bulk b -/
structure Dt (n b : Nat) (d : D) : Prop where
  lv : Lv n d
  blk : d.bulk ≤ b
theorem Dt.mono {n n' b b' : Nat} {d : D} (h : Dt n b d) (h1 : n ≤ n') (h2 : b ≤ b') : Dt n' b' d := ⟨h.lv.mono h1, Nat.le_trans h.blk h2⟩
theorem Dt.fine {n b : Nat} {d : D} (h : Dt n b d) : Fine n b d := h.lv.fine.mono (Nat.le_refl _) h.blk
theorem bulkAll_append (a b : List D) : PyData.bulkAll (a ++ b) = PyData.bulkAll a + PyData.bulkAll b := by
  induction a with
  | nil => simp [PyData.bulkAll]
  | cons x a ih => simp only [List.cons_append, PyData.bulkAll, ih]; omega
theorem bulkAll_mem {x : D} : ∀ {ds : List D}, x ∈ ds → x.bulk + 1 ≤ PyData.bulkAll ds
  | d :: ds, h => by
    rcases List.mem_cons.mp h with rfl | h
    · simp only [PyData.bulkAll]; omega
    · have := bulkAll_mem h
      simp only [PyData.bulkAll]; omega
theorem bulkAll_len : ∀ ds : List D, ds.length ≤ PyData.bulkAll ds
  | [] => by simp [PyData.bulkAll]
  | d :: ds => by
    have := bulkAll_len ds
    simp only [PyData.bulkAll, List.length_cons]; omega
theorem bulkAll_split (ds : List D) (j : Nat) : PyData.bulkAll (ds.take j) + PyData.bulkAll (ds.drop j) = PyData.bulkAll ds := by
  rw [← bulkAll_append, List.take_append_drop]
theorem bulkAll_at {ds : List D} {j : Nat} {x : D} (h : ds[j]? = some x) : PyData.bulkAll (ds.take j) + (x.bulk + 1) + PyData.bulkAll (ds.drop (j + 1)) = PyData.bulkAll ds := by
  obtain ⟨hj, e⟩ := List.getElem?_eq_some_iff.mp h
  have h1 := bulkAll_split ds j
  rw [List.drop_eq_getElem_cons hj, e] at h1
  simp only [PyData.bulkAll] at h1
  omega
theorem bulkAll_set {x : D} : ∀ (ds : List D) (j : Nat), PyData.bulkAll (ds.set j x) ≤ PyData.bulkAll ds + (x.bulk + 1)
  | [], _ => by simp [PyData.bulkAll]
  | d :: ds, 0 => by simp only [List.set_cons_zero, PyData.bulkAll]; omega
  | d :: ds, j + 1 => by
    have := bulkAll_set (x := x) ds j
    simp only [List.set_cons_succ, PyData.bulkAll]; omega
theorem bulkAll_sub {a b : List D} (h : a.Sublist b) : PyData.bulkAll a ≤ PyData.bulkAll b := by
  induction h with
  | slnil => exact Nat.le_refl _
  | cons a h ih => simp only [PyData.bulkAll]; omega
  | cons_cons a h ih => simp only [PyData.bulkAll]; omega
theorem dt_tup {n b : Nat} {ds : List D} (h : ∀ x ∈ ds, Lv n x) (hb : PyData.bulkAll ds ≤ b) : Dt (n + 1) b (.tuple ds) := ⟨.inr ⟨ds, .inl rfl, h⟩, by rw [bulk_tup]; exact hb⟩
theorem dt_lst {n b : Nat} {ds : List D} (h : ∀ x ∈ ds, Lv n x) (hb : PyData.bulkAll ds ≤ b) : Dt (n + 1) b (.list ds) := ⟨.inr ⟨ds, .inr rfl, h⟩, by rw [bulk_lst]; exact hb⟩
theorem lv_tup {n : Nat} {ds : List D} (h : Lv n (.tuple ds)) : ∃ n', n = n' + 1 ∧ ∀ x ∈ ds, Lv n' x := by
  cases n with
  | zero => cases h
  | succ n =>
    rcases h with h | ⟨es, h1 | h1, h3⟩
    · cases h
    · cases h1; exact ⟨n, rfl, h3⟩
    · cases h1
theorem lv_lst {n : Nat} {ds : List D} (h : Lv n (.list ds)) : ∃ n', n = n' + 1 ∧ ∀ x ∈ ds, Lv n' x := by
  cases n with
  | zero => cases h
  | succ n =>
    rcases h with h | ⟨es, h1 | h1, h3⟩
    · cases h
    · cases h1
    · cases h1; exact ⟨n, rfl, h3⟩
theorem Dt.tup {n b : Nat} {ds : List D} (h : Dt n b (.tuple ds)) : ∃ n', n = n' + 1 ∧ (∀ x ∈ ds, Lv n' x) ∧ PyData.bulkAll ds ≤ b := by
  obtain ⟨n', e, h1⟩ := lv_tup h.lv
  have := h.blk
  rw [bulk_tup] at this
  exact ⟨n', e, h1, this⟩
theorem Dt.item {n b : Nat} {ds : List D} (h : Dt n b (.tuple ds)) {x : D} (hx : x ∈ ds) : Dt n b x := by
  obtain ⟨n', e, h1, h2⟩ := h.tup
  have := bulkAll_mem hx
  exact ⟨(h1 x hx).mono (by omega), by omega⟩
theorem lv_int {n : Nat} {i : Int} (h : Lv n (.int i)) : lim 400 i := by
  cases n with
  | zero => exact of_decide_eq_true h
  | succ n =>
    rcases h with h | ⟨_, h | h, _⟩
    · exact of_decide_eq_true h
    · cases h
    · cases h
theorem Dt.pair {n b : Nat} {x y : Int} (h : Dt n b (.tuple [.int x, .int y])) : lim 400 x ∧ lim 400 y :=
  ⟨lv_int (h.item (x := .int x) (by simp)).lv, lv_int (h.item (x := .int y) (by simp)).lv⟩
abbrev Pd (d : D) : Prop := Dt 40 16000 d
theorem Dt.big {d : D} (h : Pd d) : Fine 60 16000 d := h.fine.mono (by decide) (by decide)
theorem Fine.shaped {d : D} (h : Fine 60 16000 d) : SeqAt.shaped d = true := by
  have := h.dep
  simp only [SeqAt.shaped, h.lay, Bool.true_and, decide_eq_true_eq]
  omega
theorem dt_int {n b : Nat} {i : Int} (h : lim 400 i) : Dt n b (.int i) := ⟨.leaf (decide_eq_true h), by simp [PyData.bulk]⟩
theorem dt_bool {n b : Nat} {k : Bool} : Dt n b (.bool k) := ⟨.leaf rfl, by simp [PyData.bulk]⟩
theorem dt_none {n b : Nat} : Dt n b .none := ⟨.leaf rfl, by simp [PyData.bulk]⟩
theorem dt_str {n b : Nat} {s : Str} (h : leafOk (.str s) = true) (hb : s.cps.size ≤ b) : Dt n b (.str s) := ⟨.leaf h, by simpa [PyData.bulk] using hb⟩
/-- filtered items of a plain tuple are a plain list -/
theorem dt_filter {n b : Nat} {ds : List D} (h : Dt n b (.tuple ds)) (p : D → Bool) : Dt n b (.list (ds.filter p)) := by
  obtain ⟨n', e, h1, h2⟩ := h.tup
  subst e
  exact dt_lst (fun x hx => h1 x (List.mem_filter.mp hx).1) (Nat.le_trans (bulkAll_sub List.filter_sublist) h2)
/-! ### comprehensions with a test, and of a map -/
theorem gLc_filter {vs : List Nat} {bd : D → M Unit} {tt : M Bool} {el : M D} (p : D → Bool) (g : D → D) (Inv : En → Prop) : ∀ (ds : List D) (acc : List D) (e : En), acc.length + ds.length ≤ most → Inv e →
    (∀ d e, d ∈ ds → Inv e → ∃ e1, bd d (wipeE e vs) = .ok () e1 ∧ ∃ e2, tt e1 = .ok (p d) e2 ∧ (p d = true → ∃ e3, el e2 = .ok (g d) e3 ∧ Inv e3) ∧ (p d = false → Inv e2)) →
    ∃ e', gLc vs bd tt el ds acc e = (bnd (wipeM vs) fun _ => IL.ret (.lst ((acc ++ (ds.filter p).map g).map .leaf))) e' ∧ Inv e'
  | [], acc, e, hm, h, _ => ⟨e, by simp [gLc], h⟩
  | d :: ds, acc, e, hm, h, st => by
    obtain ⟨e1, k1, e2, k2, k3, k4⟩ := st d e List.mem_cons_self h
    simp only [List.length_cons] at hm
    have hw : wipeM vs e = .ok () (wipeE e vs) := rfl
    cases hp : p d with
    | true =>
      obtain ⟨e3, k5, k6⟩ := k3 hp
      obtain ⟨e', q1, q2⟩ := gLc_filter p g Inv ds (acc ++ [g d]) e3 (by simp; omega) k6 fun x e hx hi => st x e (List.mem_cons_of_mem _ hx) hi
      refine ⟨e', ?_, q2⟩
      rw [List.filter_cons_of_pos hp, List.map_cons]
      simp only [List.append_assoc, List.singleton_append] at q1
      rw [← q1]
      conv => lhs; unfold gLc
      rw [hp] at k2
      simp only [bnd, hw, k1, k2, if_true, k5]
      rw [if_pos (by omega)]
    | false =>
      obtain ⟨e', q1, q2⟩ := gLc_filter p g Inv ds acc e2 (by omega) (k4 hp) fun x e hx hi => st x e (List.mem_cons_of_mem _ hx) hi
      refine ⟨e', ?_, q2⟩
      rw [List.filter_cons_of_neg (by rw [hp]; exact Bool.false_ne_true), ← q1]
      conv => lhs; unfold gLc
      rw [hp] at k2
      simp only [bnd, hw, k1, k2]
      rfl
end IL

namespace Fc
open PySem PySem.Spec PyProof.Rows L2 IL
def n_is_number : List Str := ["thing"]
def c_is_number : Ss := (.cons (.ret (.and (.isi .int (.var 0)) (.not (.isi .bool (.var 0))))) .nil)
def n_are_numbers : List Str := ["thing", "many", "one"]
def c_are_numbers : Ss := (.cons (.ret (.and (.isi .tuple (.var 0)) (.and (.cmp .eq (.bif .len (.val (.var 0) .nil)) (.var 1)) (.bif .all (.val (.comp [2] (.nm 2) (.seq (.var 0)) .no (.call "is_number" (.val (.var 2) .nil))) .nil))))) .nil)
def n_is_word : List Str := ["thing", "sign"]
def c_is_word : Ss := (.cons (.ifs (.or (.not (.isi .str (.var 0))) (.not (.chain .le .le (.int 1) (.bif .len (.val (.var 0) .nil)) (.glb "MOST_LETTERS"))))
    (.cons (.ret (.bl false)) .nil)
    .nil) (.cons (.ret (.bif .all (.val (.comp [1] (.nm 1) (.seq (.var 0)) .no (.cmp .«in» (.var 1) (.glb "LETTERS"))) .nil))) .nil))
def n_common_divisor : List Str := ["one", "other"]
def c_common_divisor : Ss := (.cons (.whl 4096 (.cmp .ne (.var 1) (.int 0)) (.cons (.par 0 1 (.own (.var 1) (.own (.bin .mod (.var 0) (.var 1)) .nil))) .nil)) (.cons (.ret (.var 0)) .nil))
def n_is_fraction : List Str := ["thing"]
def c_is_fraction : Ss := (.cons (.ifs (.or (.not (.call "are_numbers" (.val (.var 0) (.val (.int 2) .nil)))) (.cmp .le (.vix 0 (.int 1)) (.int 0)))
    (.cons (.ret (.bl false)) .nil)
    .nil) (.cons (.ret (.cmp .eq (.call "common_divisor" (.val (.bif .abs (.val (.vix 0 (.int 0)) .nil)) (.val (.vix 0 (.int 1)) .nil))) (.int 1))) .nil))
def n__law_draw : List Str := ["feed", "many", "found", "cell", "mixed"]
def c__law_draw : Ss := (.cons (.asg (.sub 0 (.int 3)) (.bin .add (.vix 0 (.int 3)) (.int 1))) (.cons (.ifs (.cmp .gt (.vix 0 (.int 2)) (.int 0))
    (.cons (.set 2 (.bin .mod (.vix 0 (.int 2)) (.var 1))) (.cons (.asg (.sub 0 (.int 2)) (.bin .fdv (.vix 0 (.int 2)) (.var 1))) (.cons (.ret (.var 2)) .nil)))
    .nil) (.cons (.set 3 (.int 5)) (.cons (.ifs (.cmp .ne (.vix 0 (.int 0)) (.lst .nil))
    (.cons (.set 3 (.ix (.vix 0 (.int 0)) (.bin .mod (.vix 0 (.int 1)) (.bif .len (.val (.vix 0 (.int 0)) .nil))))) .nil)
    .nil) (.cons (.asg (.sub 0 (.int 1)) (.bin .add (.vix 0 (.int 1)) (.int 1))) (.cons (.ifs (.and (.cmp .ge (.var 3) (.bin .pow (.int 10) (.int 18))) (.cmp .le (.vix 0 (.int 1)) (.bif .len (.val (.vix 0 (.int 0)) .nil))))
    (.cons (.asg (.sub 0 (.int 2)) (.bin .fdv (.var 3) (.var 1))) (.cons (.ret (.bin .mod (.var 3) (.var 1))) .nil))
    .nil) (.cons (.set 4 (.bin .mod (.bin .pow (.bin .add (.bin .add (.bin .mod (.var 3) (.int 2147483629)) (.bin .mul (.int 7919) (.vix 0 (.int 3)))) (.int 1)) (.int 5)) (.int 2147483647))) (.cons (.ret (.bin .mod (.bin .fdv (.bin .mod (.bin .pow (.bin .add (.var 4) (.bin .mul (.int 104729) (.vix 0 (.int 3)))) (.int 5)) (.int 2147483587)) (.int 64)) (.var 1))) .nil))))))))
def n__law_spoilt : List Str := ["feed", "thing", "menu", "way", "at", "other", "some"]
def c__law_spoilt : Ss := (.cons (.set 3 (.call "_law_draw" (.lend 0 (.val (.int 9) .nil)))) (.cons (.ifs (.or (.not (.isi .tuple (.var 1))) (.or (.cmp .eq (.var 1) (.tup .nil)) (.cmp .eq (.var 3) (.int 0))))
    (.cons (.ret (.vix 2 (.call "_law_draw" (.lend 0 (.val (.bif .len (.val (.var 2) .nil)) .nil))))) .nil)
    .nil) (.cons (.set 4 (.call "_law_draw" (.lend 0 (.val (.bif .len (.val (.var 1) .nil)) .nil)))) (.cons (.ifs (.cmp .eq (.var 3) (.int 1))
    (.cons (.ret (.bin .add (.sl (.var 1) .no (.so (.var 4))) (.sl (.var 1) (.so (.bin .add (.var 4) (.int 1))) .no))) .nil)
    .nil) (.cons (.ifs (.cmp .eq (.var 3) (.int 2))
    (.cons (.ret (.bin .add (.bin .add (.sl (.var 1) .no (.so (.var 4))) (.sl (.var 1) (.so (.var 4)) (.so (.bin .add (.var 4) (.int 1))))) (.sl (.var 1) (.so (.var 4)) .no))) .nil)
    .nil) (.cons (.ifs (.cmp .eq (.var 3) (.int 3))
    (.cons (.ret (.bin .add (.bin .add (.sl (.var 1) .no (.so (.var 4))) (.tup (.own (.vix 2 (.call "_law_draw" (.lend 0 (.val (.bif .len (.val (.var 2) .nil)) .nil)))) .nil))) (.sl (.var 1) (.so (.var 4)) .no))) .nil)
    .nil) (.cons (.ifs (.cmp .eq (.var 3) (.int 4))
    (.cons (.par 5 6 (.own (.call "_law_draw" (.lend 0 (.val (.bif .len (.val (.var 1) .nil)) .nil))) (.own (.bif .list (.val (.var 1) .nil)) .nil))) (.cons (.asg (.tp (.cons (.sub 6 (.var 4)) (.cons (.sub 6 (.var 5)) .nil))) (.tup (.own (.vix 1 (.var 5)) (.own (.vix 1 (.var 4)) .nil)))) (.cons (.ret (.bif .tuple (.val (.var 6) .nil))) .nil)))
    .nil) (.cons (.ifs (.cmp .eq (.var 3) (.int 5))
    (.cons (.ret (.bif .list (.val (.var 1) .nil))) .nil)
    .nil) (.cons (.ret (.bin .add (.bin .add (.sl (.var 1) .no (.so (.var 4))) (.tup (.own (.call "_law_spoilt" (.lend 0 (.val (.vix 1 (.var 4)) (.val (.var 2) .nil)))) .nil))) (.sl (.var 1) (.so (.bin .add (.var 4) (.int 1))) .no))) .nil)))))))))
def n__law_divisor : List Str := ["one", "other"]
def c__law_divisor : Ss := (.cons (.whl 4096 (.cmp .gt (.var 1) (.int 0)) (.cons (.par 0 1 (.own (.var 1) (.own (.bin .mod (.var 0) (.var 1)) .nil))) .nil)) (.cons (.ret (.var 0)) .nil))
def n__law_made : List Str := ["a", "b", "divisor"]
def c__law_made : Ss := (.cons (.ifs (.cmp .lt (.var 1) (.int 0))
    (.cons (.par 0 1 (.own (.bin .sub (.int 0) (.var 0)) (.own (.bin .sub (.int 0) (.var 1)) .nil))) .nil)
    .nil) (.cons (.set 2 (.call "_law_divisor" (.val (.bif .abs (.val (.var 0) .nil)) (.val (.var 1) .nil)))) (.cons (.ret (.tup (.own (.bin .fdv (.var 0) (.var 2)) (.own (.bin .fdv (.var 1) (.var 2)) .nil)))) .nil)))
def n__law_fraction : List Str := ["feed", "above", "below"]
def c__law_fraction : Ss := (.cons (.set 1 (.ix (.lst (.own (.bin .sub (.call "_law_draw" (.lend 0 (.val (.int 13) .nil))) (.int 6)) (.own (.bin .sub (.call "_law_draw" (.lend 0 (.val (.int 1999999) .nil))) (.int 999999)) (.own (.int 0) (.own (.int 1) (.own (.neg (.int 1)) .nil)))))) (.call "_law_draw" (.lend 0 (.val (.int 5) .nil))))) (.cons (.set 2 (.ix (.lst (.own (.int 1) (.own (.bin .add (.int 1) (.call "_law_draw" (.lend 0 (.val (.int 12) .nil)))) (.own (.bin .add (.int 1) (.call "_law_draw" (.lend 0 (.val (.int 999999) .nil)))) .nil)))) (.call "_law_draw" (.lend 0 (.val (.int 3) .nil))))) (.cons (.ret (.call "_law_made" (.val (.var 1) (.val (.var 2) .nil)))) .nil)))
def n__law_is_number : List Str := ["thing"]
def c__law_is_number : Ss := (.cons (.ret (.and (.isi .int (.var 0)) (.not (.isi .bool (.var 0))))) .nil)
def n__law_is_fraction : List Str := ["thing", "one"]
def c__law_is_fraction : Ss := (.cons (.ifs (.or (.not (.isi .tuple (.var 0))) (.or (.cmp .ne (.bif .len (.val (.var 0) .nil)) (.int 2)) (.cmp .ne (.comp [1] (.nm 1) (.seq (.var 0)) (.so (.not (.call "_law_is_number" (.val (.var 1) .nil)))) (.var 1)) (.lst .nil))))
    (.cons (.ret (.bl false)) .nil)
    .nil) (.cons (.ret (.and (.cmp .gt (.vix 0 (.int 1)) (.int 0)) (.cmp .eq (.call "_law_divisor" (.val (.bif .abs (.val (.vix 0 (.int 0)) .nil)) (.val (.vix 0 (.int 1)) .nil))) (.int 1)))) .nil))
def n__law_is_word : List Str := ["thing", "sign"]
def c__law_is_word : Ss := (.cons (.ret (.and (.isi .str (.var 0)) (.and (.chain .lt .lt (.int 0) (.bif .len (.val (.var 0) .nil)) (.int 9)) (.cmp .eq (.comp [1] (.nm 1) (.seq (.var 0)) (.so (.not (.chain .le .le (.str "a") (.var 1) (.str "z")))) (.var 1)) (.lst .nil))))) .nil)
def n__law_text : List Str := ["feed", "signs", "size", "k"]
def c__law_text : Ss := (.cons (.set 1 (.bin .add (.str "abcmyzaz") (.ix (.lst (.own (.str "a") (.own (.str "A") (.own (.str " ") (.own (.str "0") (.own (.str "`") (.own (.str "{") (.own (.str "z") (.own (.str "-") .nil))))))))) (.call "_law_draw" (.lend 0 (.val (.int 8) .nil)))))) (.cons (.set 2 (.call "_law_draw" (.lend 0 (.val (.int 10) .nil)))) (.cons (.ret (.join "" (.comp [3] (.nm 3) (.rng1 (.val (.var 2) .nil)) .no (.vix 1 (.call "_law_draw" (.lend 0 (.val (.int 9) .nil))))))) .nil)))
def n__law_near : List Str := ["one", "a", "b", "found"]
def c__law_near : Ss := (.cons (.asg (.tp (.cons (.nm 1) (.cons (.nm 2) .nil))) (.var 0)) (.cons (.set 3 (.lst (.own (.var 0) (.own (.tup (.own (.bin .mul (.var 1) (.int 2)) (.own (.bin .mul (.var 2) (.int 2)) .nil))) (.own (.tup (.own (.bin .sub (.int 0) (.var 1)) (.own (.bin .sub (.int 0) (.var 2)) .nil))) (.own (.tup (.own (.var 1) (.own (.int 0) .nil))) (.own (.tup (.own (.int 0) (.own (.var 2) .nil))) (.own (.tup (.own (.var 1) (.own (.bl true) .nil))) (.own (.tup (.own (.bl false) (.own (.var 2) .nil))) (.own (.tup (.own (.var 1) (.own (.var 2) (.own (.int 1) .nil)))) (.own (.tup (.own (.var 1) .nil)) (.own (.lst (.own (.var 1) (.own (.var 2) .nil))) (.own (.var 1) .nil))))))))))))) (.cons (.set 3 (.bin .add (.var 3) (.lst (.own (.tup (.own (.bin .mul (.var 1) (.int 7)) (.own (.bin .mul (.var 2) (.int 7)) .nil))) (.own (.tup (.own (.bin .add (.var 1) (.var 2)) (.own (.var 2) .nil))) (.own (.tup (.own (.bif .str (.val (.var 1) .nil)) (.own (.var 2) .nil))) (.own (.tup (.own (.var 1) (.own .non .nil))) (.own (.tup (.own (.tup (.own (.var 1) (.own (.int 1) .nil))) (.own (.var 2) .nil))) (.own (.tup (.own (.var 2) (.own (.var 2) .nil))) (.own (.tup (.own (.int 0) (.own (.int 1) .nil))) (.own (.tup (.own (.int 0) (.own (.int 0) .nil))) (.own (.tup (.own (.int 0) (.own (.int 2) .nil))) .nil)))))))))))) (.cons (.ret (.bin .add (.var 3) (.lst (.own (.tup (.own (.int 1) (.own (.bin .pow (.int 10) (.int 30)) .nil))) (.own (.tup (.own (.bin .add (.bin .pow (.int 10) (.int 30)) (.int 1)) (.own (.bin .pow (.int 10) (.int 30)) .nil))) (.own (.tup (.own (.bin .pow (.int 10) (.int 30)) (.own (.bin .pow (.int 10) (.int 15)) .nil))) (.own (.tup (.own (.bin .pow (.int 10) (.int 59)) (.own (.int 1) .nil))) (.own (.tup (.own (.neg (.int 1)) (.own (.bin .pow (.int 10) (.int 59)) .nil))) .nil)))))))) .nil))))
def n_law : List Str := ["script", "feed", "turn", "one", "menu", "some", "k", "thing", "bent", "kept", "told", "due"]
def c_law : Ss := (.cons (.fore (.nm 2) (.rng1 (.val (.int 4) .nil))
    (.cons (.set 3 (.call "_law_fraction" (.lend 1 .nil))) (.cons (.set 4 (.lst (.own .non (.own (.bl true) (.own (.int 0) (.own (.int 1) (.own (.neg (.int 1)) (.own (.int 2) (.own (.str "") (.own (.str "1/2") (.own (.tup .nil) (.own (.lst .nil) (.own (.var 3) (.own (.bin .pow (.int 10) (.int 59)) (.own (.str "A") (.own (.str "abcdefghi") (.own (.tup (.own (.str "a") .nil)) .nil))))))))))))))))) (.cons (.set 5 (.bin .add (.bin .add (.bin .add (.call "_law_near" (.val (.var 3) .nil)) (.var 4)) (.comp [6] (.nm 6) (.rng1 (.val (.int 9) .nil)) .no (.call "_law_text" (.lend 1 .nil)))) (.lst (.own (.bin .rep (.str "a") (.int 8)) (.own (.bin .rep (.str "a") (.int 9)) .nil))))) (.cons (.fore (.nm 6) (.rng1 (.val (.int 4) .nil))
    (.cons (.set 8 (.call "_law_spoilt" (.lend 1 (.val (.var 3) (.val (.var 4) .nil))))) (.cons (.set 5 (.bin .add (.var 5) (.lst (.own (.var 8) (.own (.call "_law_spoilt" (.lend 1 (.val (.var 8) (.val (.var 4) .nil)))) .nil))))) .nil))) (.cons (.fore (.nm 7) (.seq (.var 5))
    (.cons (.set 9 (.bif .repr (.val (.var 7) .nil))) (.cons (.set 10 (.lst (.own (.call "is_number" (.val (.var 7) .nil)) (.own (.call "is_word" (.val (.var 7) .nil)) (.own (.call "is_fraction" (.val (.var 7) .nil)) .nil))))) (.cons (.set 11 (.lst (.own (.call "_law_is_number" (.val (.var 7) .nil)) (.own (.call "_law_is_word" (.val (.var 7) .nil)) (.own (.call "_law_is_fraction" (.val (.var 7) .nil)) .nil))))) (.cons (.ifs (.or (.cmp .ne (.bif .repr (.val (.var 10) .nil)) (.bif .repr (.val (.var 11) .nil))) (.cmp .ne (.bif .repr (.val (.var 7) .nil)) (.var 9)))
    (.cons (.ret (.bl false)) .nil)
    .nil) .nil))))) .nil)))))) (.cons (.ret (.bl true)) .nil))
def dr_s0 : S := (.asg (.sub 0 (.int 3)) (.bin .add (.vix 0 (.int 3)) (.int 1)))
def dr_s1 : S := (.ifs (.cmp .gt (.vix 0 (.int 2)) (.int 0))
    (.cons (.set 2 (.bin .mod (.vix 0 (.int 2)) (.var 1))) (.cons (.asg (.sub 0 (.int 2)) (.bin .fdv (.vix 0 (.int 2)) (.var 1))) (.cons (.ret (.var 2)) .nil)))
    .nil)
def dr_s2 : S := (.set 3 (.int 5))
def dr_s3 : S := (.ifs (.cmp .ne (.vix 0 (.int 0)) (.lst .nil))
    (.cons (.set 3 (.ix (.vix 0 (.int 0)) (.bin .mod (.vix 0 (.int 1)) (.bif .len (.val (.vix 0 (.int 0)) .nil))))) .nil)
    .nil)
def dr_s4 : S := (.asg (.sub 0 (.int 1)) (.bin .add (.vix 0 (.int 1)) (.int 1)))
def dr_s5 : S := (.ifs (.and (.cmp .ge (.var 3) (.bin .pow (.int 10) (.int 18))) (.cmp .le (.vix 0 (.int 1)) (.bif .len (.val (.vix 0 (.int 0)) .nil))))
    (.cons (.asg (.sub 0 (.int 2)) (.bin .fdv (.var 3) (.var 1))) (.cons (.ret (.bin .mod (.var 3) (.var 1))) .nil))
    .nil)
def dr_s6 : S := (.set 4 (.bin .mod (.bin .pow (.bin .add (.bin .add (.bin .mod (.var 3) (.int 2147483629)) (.bin .mul (.int 7919) (.vix 0 (.int 3)))) (.int 1)) (.int 5)) (.int 2147483647)))
def dr_s7 : S := (.ret (.bin .mod (.bin .fdv (.bin .mod (.bin .pow (.bin .add (.var 4) (.bin .mul (.int 104729) (.vix 0 (.int 3)))) (.int 5)) (.int 2147483587)) (.int 64)) (.var 1)))
def dr_r8 : Ss := .nil
def dr_r7 : Ss := .cons dr_s7 dr_r8
def dr_r6 : Ss := .cons dr_s6 dr_r7
def dr_r5 : Ss := .cons dr_s5 dr_r6
def dr_r4 : Ss := .cons dr_s4 dr_r5
def dr_r3 : Ss := .cons dr_s3 dr_r4
def dr_r2 : Ss := .cons dr_s2 dr_r3
def dr_r1 : Ss := .cons dr_s1 dr_r2
def dr_r0 : Ss := .cons dr_s0 dr_r1
theorem dr_eq : c__law_draw = dr_r0 := rfl
def sp_s0 : S := (.set 3 (.call "_law_draw" (.lend 0 (.val (.int 9) .nil))))
def sp_s1 : S := (.ifs (.or (.not (.isi .tuple (.var 1))) (.or (.cmp .eq (.var 1) (.tup .nil)) (.cmp .eq (.var 3) (.int 0))))
    (.cons (.ret (.vix 2 (.call "_law_draw" (.lend 0 (.val (.bif .len (.val (.var 2) .nil)) .nil))))) .nil)
    .nil)
def sp_s2 : S := (.set 4 (.call "_law_draw" (.lend 0 (.val (.bif .len (.val (.var 1) .nil)) .nil))))
def sp_s3 : S := (.ifs (.cmp .eq (.var 3) (.int 1))
    (.cons (.ret (.bin .add (.sl (.var 1) .no (.so (.var 4))) (.sl (.var 1) (.so (.bin .add (.var 4) (.int 1))) .no))) .nil)
    .nil)
def sp_s4 : S := (.ifs (.cmp .eq (.var 3) (.int 2))
    (.cons (.ret (.bin .add (.bin .add (.sl (.var 1) .no (.so (.var 4))) (.sl (.var 1) (.so (.var 4)) (.so (.bin .add (.var 4) (.int 1))))) (.sl (.var 1) (.so (.var 4)) .no))) .nil)
    .nil)
def sp_s5 : S := (.ifs (.cmp .eq (.var 3) (.int 3))
    (.cons (.ret (.bin .add (.bin .add (.sl (.var 1) .no (.so (.var 4))) (.tup (.own (.vix 2 (.call "_law_draw" (.lend 0 (.val (.bif .len (.val (.var 2) .nil)) .nil)))) .nil))) (.sl (.var 1) (.so (.var 4)) .no))) .nil)
    .nil)
def sp_s6 : S := (.ifs (.cmp .eq (.var 3) (.int 4))
    (.cons (.par 5 6 (.own (.call "_law_draw" (.lend 0 (.val (.bif .len (.val (.var 1) .nil)) .nil))) (.own (.bif .list (.val (.var 1) .nil)) .nil))) (.cons (.asg (.tp (.cons (.sub 6 (.var 4)) (.cons (.sub 6 (.var 5)) .nil))) (.tup (.own (.vix 1 (.var 5)) (.own (.vix 1 (.var 4)) .nil)))) (.cons (.ret (.bif .tuple (.val (.var 6) .nil))) .nil)))
    .nil)
def sp_s7 : S := (.ifs (.cmp .eq (.var 3) (.int 5))
    (.cons (.ret (.bif .list (.val (.var 1) .nil))) .nil)
    .nil)
def sp_s8 : S := (.ret (.bin .add (.bin .add (.sl (.var 1) .no (.so (.var 4))) (.tup (.own (.call "_law_spoilt" (.lend 0 (.val (.vix 1 (.var 4)) (.val (.var 2) .nil)))) .nil))) (.sl (.var 1) (.so (.bin .add (.var 4) (.int 1))) .no)))
def sp_r9 : Ss := .nil
def sp_r8 : Ss := .cons sp_s8 sp_r9
def sp_r7 : Ss := .cons sp_s7 sp_r8
def sp_r6 : Ss := .cons sp_s6 sp_r7
def sp_r5 : Ss := .cons sp_s5 sp_r6
def sp_r4 : Ss := .cons sp_s4 sp_r5
def sp_r3 : Ss := .cons sp_s3 sp_r4
def sp_r2 : Ss := .cons sp_s2 sp_r3
def sp_r1 : Ss := .cons sp_s1 sp_r2
def sp_r0 : Ss := .cons sp_s0 sp_r1
theorem sp_eq : c__law_spoilt = sp_r0 := rfl
def tx_s0 : S := (.set 1 (.bin .add (.str "abcmyzaz") (.ix (.lst (.own (.str "a") (.own (.str "A") (.own (.str " ") (.own (.str "0") (.own (.str "`") (.own (.str "{") (.own (.str "z") (.own (.str "-") .nil))))))))) (.call "_law_draw" (.lend 0 (.val (.int 8) .nil))))))
def tx_s1 : S := (.set 2 (.call "_law_draw" (.lend 0 (.val (.int 10) .nil))))
def tx_s2 : S := (.ret (.join "" (.comp [3] (.nm 3) (.rng1 (.val (.var 2) .nil)) .no (.vix 1 (.call "_law_draw" (.lend 0 (.val (.int 9) .nil)))))))
def tx_r3 : Ss := .nil
def tx_r2 : Ss := .cons tx_s2 tx_r3
def tx_r1 : Ss := .cons tx_s1 tx_r2
def tx_r0 : Ss := .cons tx_s0 tx_r1
theorem tx_eq : c__law_text = tx_r0 := rfl
def nr_s0 : S := (.asg (.tp (.cons (.nm 1) (.cons (.nm 2) .nil))) (.var 0))
def nr_s1 : S := (.set 3 (.lst (.own (.var 0) (.own (.tup (.own (.bin .mul (.var 1) (.int 2)) (.own (.bin .mul (.var 2) (.int 2)) .nil))) (.own (.tup (.own (.bin .sub (.int 0) (.var 1)) (.own (.bin .sub (.int 0) (.var 2)) .nil))) (.own (.tup (.own (.var 1) (.own (.int 0) .nil))) (.own (.tup (.own (.int 0) (.own (.var 2) .nil))) (.own (.tup (.own (.var 1) (.own (.bl true) .nil))) (.own (.tup (.own (.bl false) (.own (.var 2) .nil))) (.own (.tup (.own (.var 1) (.own (.var 2) (.own (.int 1) .nil)))) (.own (.tup (.own (.var 1) .nil)) (.own (.lst (.own (.var 1) (.own (.var 2) .nil))) (.own (.var 1) .nil)))))))))))))
def nr_s2 : S := (.set 3 (.bin .add (.var 3) (.lst (.own (.tup (.own (.bin .mul (.var 1) (.int 7)) (.own (.bin .mul (.var 2) (.int 7)) .nil))) (.own (.tup (.own (.bin .add (.var 1) (.var 2)) (.own (.var 2) .nil))) (.own (.tup (.own (.bif .str (.val (.var 1) .nil)) (.own (.var 2) .nil))) (.own (.tup (.own (.var 1) (.own .non .nil))) (.own (.tup (.own (.tup (.own (.var 1) (.own (.int 1) .nil))) (.own (.var 2) .nil))) (.own (.tup (.own (.var 2) (.own (.var 2) .nil))) (.own (.tup (.own (.int 0) (.own (.int 1) .nil))) (.own (.tup (.own (.int 0) (.own (.int 0) .nil))) (.own (.tup (.own (.int 0) (.own (.int 2) .nil))) .nil))))))))))))
def nr_s3 : S := (.ret (.bin .add (.var 3) (.lst (.own (.tup (.own (.int 1) (.own (.bin .pow (.int 10) (.int 30)) .nil))) (.own (.tup (.own (.bin .add (.bin .pow (.int 10) (.int 30)) (.int 1)) (.own (.bin .pow (.int 10) (.int 30)) .nil))) (.own (.tup (.own (.bin .pow (.int 10) (.int 30)) (.own (.bin .pow (.int 10) (.int 15)) .nil))) (.own (.tup (.own (.bin .pow (.int 10) (.int 59)) (.own (.int 1) .nil))) (.own (.tup (.own (.neg (.int 1)) (.own (.bin .pow (.int 10) (.int 59)) .nil))) .nil))))))))
def nr_r4 : Ss := .nil
def nr_r3 : Ss := .cons nr_s3 nr_r4
def nr_r2 : Ss := .cons nr_s2 nr_r3
def nr_r1 : Ss := .cons nr_s1 nr_r2
def nr_r0 : Ss := .cons nr_s0 nr_r1
theorem nr_eq : c__law_near = nr_r0 := rfl
def lw_s0 : S := (.fore (.nm 2) (.rng1 (.val (.int 4) .nil))
    (.cons (.set 3 (.call "_law_fraction" (.lend 1 .nil))) (.cons (.set 4 (.lst (.own .non (.own (.bl true) (.own (.int 0) (.own (.int 1) (.own (.neg (.int 1)) (.own (.int 2) (.own (.str "") (.own (.str "1/2") (.own (.tup .nil) (.own (.lst .nil) (.own (.var 3) (.own (.bin .pow (.int 10) (.int 59)) (.own (.str "A") (.own (.str "abcdefghi") (.own (.tup (.own (.str "a") .nil)) .nil))))))))))))))))) (.cons (.set 5 (.bin .add (.bin .add (.bin .add (.call "_law_near" (.val (.var 3) .nil)) (.var 4)) (.comp [6] (.nm 6) (.rng1 (.val (.int 9) .nil)) .no (.call "_law_text" (.lend 1 .nil)))) (.lst (.own (.bin .rep (.str "a") (.int 8)) (.own (.bin .rep (.str "a") (.int 9)) .nil))))) (.cons (.fore (.nm 6) (.rng1 (.val (.int 4) .nil))
    (.cons (.set 8 (.call "_law_spoilt" (.lend 1 (.val (.var 3) (.val (.var 4) .nil))))) (.cons (.set 5 (.bin .add (.var 5) (.lst (.own (.var 8) (.own (.call "_law_spoilt" (.lend 1 (.val (.var 8) (.val (.var 4) .nil)))) .nil))))) .nil))) (.cons (.fore (.nm 7) (.seq (.var 5))
    (.cons (.set 9 (.bif .repr (.val (.var 7) .nil))) (.cons (.set 10 (.lst (.own (.call "is_number" (.val (.var 7) .nil)) (.own (.call "is_word" (.val (.var 7) .nil)) (.own (.call "is_fraction" (.val (.var 7) .nil)) .nil))))) (.cons (.set 11 (.lst (.own (.call "_law_is_number" (.val (.var 7) .nil)) (.own (.call "_law_is_word" (.val (.var 7) .nil)) (.own (.call "_law_is_fraction" (.val (.var 7) .nil)) .nil))))) (.cons (.ifs (.or (.cmp .ne (.bif .repr (.val (.var 10) .nil)) (.bif .repr (.val (.var 11) .nil))) (.cmp .ne (.bif .repr (.val (.var 7) .nil)) (.var 9)))
    (.cons (.ret (.bl false)) .nil)
    .nil) .nil))))) .nil))))))
def lw_s1 : S := (.ret (.bl true))
def lw_r2 : Ss := .nil
def lw_r1 : Ss := .cons lw_s1 lw_r2
def lw_r0 : Ss := .cons lw_s0 lw_r1
def lw_b0_s0 : S := (.set 3 (.call "_law_fraction" (.lend 1 .nil)))
def lw_b0_s1 : S := (.set 4 (.lst (.own .non (.own (.bl true) (.own (.int 0) (.own (.int 1) (.own (.neg (.int 1)) (.own (.int 2) (.own (.str "") (.own (.str "1/2") (.own (.tup .nil) (.own (.lst .nil) (.own (.var 3) (.own (.bin .pow (.int 10) (.int 59)) (.own (.str "A") (.own (.str "abcdefghi") (.own (.tup (.own (.str "a") .nil)) .nil)))))))))))))))))
def lw_b0_s2 : S := (.set 5 (.bin .add (.bin .add (.bin .add (.call "_law_near" (.val (.var 3) .nil)) (.var 4)) (.comp [6] (.nm 6) (.rng1 (.val (.int 9) .nil)) .no (.call "_law_text" (.lend 1 .nil)))) (.lst (.own (.bin .rep (.str "a") (.int 8)) (.own (.bin .rep (.str "a") (.int 9)) .nil)))))
def lw_b0_s3 : S := (.fore (.nm 6) (.rng1 (.val (.int 4) .nil))
    (.cons (.set 8 (.call "_law_spoilt" (.lend 1 (.val (.var 3) (.val (.var 4) .nil))))) (.cons (.set 5 (.bin .add (.var 5) (.lst (.own (.var 8) (.own (.call "_law_spoilt" (.lend 1 (.val (.var 8) (.val (.var 4) .nil)))) .nil))))) .nil)))
def lw_b0_s4 : S := (.fore (.nm 7) (.seq (.var 5))
    (.cons (.set 9 (.bif .repr (.val (.var 7) .nil))) (.cons (.set 10 (.lst (.own (.call "is_number" (.val (.var 7) .nil)) (.own (.call "is_word" (.val (.var 7) .nil)) (.own (.call "is_fraction" (.val (.var 7) .nil)) .nil))))) (.cons (.set 11 (.lst (.own (.call "_law_is_number" (.val (.var 7) .nil)) (.own (.call "_law_is_word" (.val (.var 7) .nil)) (.own (.call "_law_is_fraction" (.val (.var 7) .nil)) .nil))))) (.cons (.ifs (.or (.cmp .ne (.bif .repr (.val (.var 10) .nil)) (.bif .repr (.val (.var 11) .nil))) (.cmp .ne (.bif .repr (.val (.var 7) .nil)) (.var 9)))
    (.cons (.ret (.bl false)) .nil)
    .nil) .nil)))))
def lw_b0_r5 : Ss := .nil
def lw_b0_r4 : Ss := .cons lw_b0_s4 lw_b0_r5
def lw_b0_r3 : Ss := .cons lw_b0_s3 lw_b0_r4
def lw_b0_r2 : Ss := .cons lw_b0_s2 lw_b0_r3
def lw_b0_r1 : Ss := .cons lw_b0_s1 lw_b0_r2
def lw_b0_r0 : Ss := .cons lw_b0_s0 lw_b0_r1
def lw_b0_b3_s0 : S := (.set 8 (.call "_law_spoilt" (.lend 1 (.val (.var 3) (.val (.var 4) .nil)))))
def lw_b0_b3_s1 : S := (.set 5 (.bin .add (.var 5) (.lst (.own (.var 8) (.own (.call "_law_spoilt" (.lend 1 (.val (.var 8) (.val (.var 4) .nil)))) .nil)))))
def lw_b0_b3_r2 : Ss := .nil
def lw_b0_b3_r1 : Ss := .cons lw_b0_b3_s1 lw_b0_b3_r2
def lw_b0_b3_r0 : Ss := .cons lw_b0_b3_s0 lw_b0_b3_r1
def lw_b0_i3 : It2 := (.rng1 (.val (.int 4) .nil))
theorem lw_b0_s3_eq : lw_b0_s3 = .fore (.nm 6) lw_b0_i3 lw_b0_b3_r0 := rfl
def lw_b0_b4_s0 : S := (.set 9 (.bif .repr (.val (.var 7) .nil)))
def lw_b0_b4_s1 : S := (.set 10 (.lst (.own (.call "is_number" (.val (.var 7) .nil)) (.own (.call "is_word" (.val (.var 7) .nil)) (.own (.call "is_fraction" (.val (.var 7) .nil)) .nil)))))
def lw_b0_b4_s2 : S := (.set 11 (.lst (.own (.call "_law_is_number" (.val (.var 7) .nil)) (.own (.call "_law_is_word" (.val (.var 7) .nil)) (.own (.call "_law_is_fraction" (.val (.var 7) .nil)) .nil)))))
def lw_b0_b4_s3 : S := (.ifs (.or (.cmp .ne (.bif .repr (.val (.var 10) .nil)) (.bif .repr (.val (.var 11) .nil))) (.cmp .ne (.bif .repr (.val (.var 7) .nil)) (.var 9)))
    (.cons (.ret (.bl false)) .nil)
    .nil)
def lw_b0_b4_r4 : Ss := .nil
def lw_b0_b4_r3 : Ss := .cons lw_b0_b4_s3 lw_b0_b4_r4
def lw_b0_b4_r2 : Ss := .cons lw_b0_b4_s2 lw_b0_b4_r3
def lw_b0_b4_r1 : Ss := .cons lw_b0_b4_s1 lw_b0_b4_r2
def lw_b0_b4_r0 : Ss := .cons lw_b0_b4_s0 lw_b0_b4_r1
def lw_b0_i4 : It2 := (.seq (.var 5))
theorem lw_b0_s4_eq : lw_b0_s4 = .fore (.nm 7) lw_b0_i4 lw_b0_b4_r0 := rfl
def lw_i0 : It2 := (.rng1 (.val (.int 4) .nil))
theorem lw_s0_eq : lw_s0 = .fore (.nm 2) lw_i0 lw_b0_r0 := rfl
theorem lw_eq : c_law = lw_r0 := rfl
end Fc

namespace Fc
open PySem PySem.Spec PyProof.Rows L2 IL
def gGcd : List D → Option D
  | [.int a, .int b] => if 0 ≤ a ∧ 0 ≤ b ∧ lim 1000 b then some (.int (Nat.gcd a.toNat b.toNat : Nat)) else none
  | _ => none
theorem ok_common_divisor (W : Wd) : ∀ ts r, ts.length = 2 → pureF 2 gGcd ts = some r → runM n_common_divisor.length 2 [] (evSs W c_common_divisor) ts = some r := by
  refine pure_ok fun ds d hl hg => ?_
  unfold gGcd at hg
  split at hg
  · split at hg
    · rename_i a b hz
      cases hg
      obtain ⟨h1, h2, h3⟩ := hz
      obtain ⟨x, rfl⟩ := Int.eq_ofNat_of_zero_le h1
      obtain ⟨y, rfl⟩ := Int.eq_ofNat_of_zero_le h2
      have hy : y < 2 ^ 1000 := by simpa [lim] using h3
      have hw := gcd_loop (tst (evC W (.cmp .ne (.var 1) (.int 0)))) (fun x y rest => by
        simp [evC, Cop.d, neD, eqB, bT, scalEq]
        by_cases h : y = 0 <;> simp [h]) 1000 x y 4096 [] hy (by decide)
      show tell (gSeq (gWhile 4096 _ swapBody) (gSeq (gRet (lf (gVar 0))) (IL.ret .nx))) [some (.leaf (.int x)), some (.leaf (.int y))] = _
      unfold tell gSeq bnd
      rw [hw]
      rfl
    · cases hg
  · cases hg
end Fc

namespace Fc
open PySem PySem.Spec PyProof.Rows L2 IL
abbrev lf2 (a b : D) : List T := [.leaf a, .leaf b]
abbrev nn : List (Option T) := [none, none]
theorem den_pos' (r : Rat) : (0 : Int) < r.den := by have := r.den_pos; omega
def Has (W : Wd) (x : Str) (np : Nat) (L : List Nat) (S : FSem → Prop) : Prop := ∃ F, W.fn x = some ⟨np, L, F⟩ ∧ S F
end Fc

namespace IL
open PySem PySem.Spec PyProof.Rows L2
@[simp] theorem tix4_0 (a : D) (b c d : T) : tIx (.lst [.leaf a, b, c, d]) (.int 0) = some a := rfl
@[simp] theorem tix4_1 (a : D) (b c d : T) : tIx (.lst [b, .leaf a, c, d]) (.int 1) = some a := rfl
@[simp] theorem tix4_2 (a : D) (b c d : T) : tIx (.lst [b, c, .leaf a, d]) (.int 2) = some a := rfl
@[simp] theorem tix4_3 (a : D) (b c d : T) : tIx (.lst [b, c, d, .leaf a]) (.int 3) = some a := rfl
@[simp] theorem ap_put (i : Nat) (f : M D) (d : D) : gPut i f d = bnd (held i) fun _ => bnd f fun k => setT i k (.leaf d) := rfl
@[simp] theorem ap_setT {e : En} (i : Nat) (k : D) (t : T) : setT i k t e = match e[i]?, k with
  | some (some (.lst ts)), .int z => (match ixN ts.length z with
    | some j => .ok () (e.set i (some (.lst (ts.set j t))))
    | none => .bad)
  | _, _ => .bad := rfl
@[simp] theorem ixN4_1 : ixN 4 1 = some 1 := rfl
@[simp] theorem ixN4_2 : ixN 4 2 = some 2 := rfl
@[simp] theorem ixN4_3 : ixN 4 3 = some 3 := rfl
@[simp] theorem len_list (xs : List D) : lenD [.list xs] = some (.leaf (.int xs.length)) := rfl
theorem step {W : Wd} {c r : Ss} {s : S} {e e1 : En} (hc : c = .cons s r) (h : evS W s e = .ok .nx e1) : evSs W c e = evSs W r e1 := by
  subst hc
  simp only [evSs, gSeq, bnd, h]
theorem shaped_ints (cells : List Int) : SeqAt.shaped (.list (cells.map .int)) = true := by
  have h : ∀ cells : List Int, PyData.canLayAll0 (cells.map .int) = true ∧ PyData.depthAll (cells.map .int) = 0 := by
    intro cells
    induction cells with
    | nil => exact ⟨by simp [PyData.canLayAll0], by simp [PyData.depthAll]⟩
    | cons c r ih => exact ⟨by simp [PyData.canLayAll0, PyData.canLay0, ih.1], by simp [PyData.depthAll, PyData.depth, ih.2]⟩
  simp [SeqAt.shaped, PyData.canLay0, PyData.depth, (h cells).1, (h cells).2]
theorem ne_nil (cells : List Int) : neD (.list (cells.map .int)) (.list []) = some (.leaf (.bool (!cells.isEmpty))) := by
  have h1 := shaped_ints cells
  have h2 := shaped_ints []
  cases cells with
  | nil => simp [neD, eqB, scalEq, bT, h2, PyData.eqv, PyData.eqvAll]; simpa using h2
  | cons c r =>
    simp only [List.map_nil] at h2
    simp only [neD, eqB, scalEq, h1, h2, bT]
    simp [PyData.eqv, PyData.eqvAll]
theorem ix_cell {cells : List Int} (h : cells ≠ []) {p : Int} : ∃ v, ixD (.list (cells.map .int)) (.int (p.fmod cells.length)) = some (.int v) := by
  have hl : 0 < cells.length := List.length_pos_iff.mpr h
  have h1 : 0 ≤ p.fmod cells.length := Int.fmod_nonneg_of_pos p (by omega)
  have h2 : p.fmod cells.length < cells.length := Int.fmod_lt_of_pos p (by omega)
  have h3 : (p.fmod cells.length).toNat < cells.length := by omega
  refine ⟨cells[(p.fmod cells.length).toNat], ?_⟩
  simp [ixD, L2.atI, ixN, h1, h2, h3]
end IL
namespace Fc
open PySem PySem.Spec PyProof.Rows L2 IL
theorem run_divisor {W : Wd} : ∀ x y : Nat, y < 2 ^ 1000 → runM n__law_divisor.length 2 [] (evSs W c__law_divisor) (lf2 (.int x) (.int y)) = some (.leaf (.int (Nat.gcd x y : Nat)), nn) := by
  intro x y hy
  refine run_pure ?_
  have hw := gcd_loop (tst (evC W (.cmp .gt (.var 1) (.int 0)))) (fun x y rest => by
    simp [evC, Cop.d]
    by_cases h : y = 0
    · simp [h]
    · have : (0 : Int) < y := by omega
      simp [h, this]
      omega) 1000 x y 4096 [] hy (by decide)
  show tell (gSeq (gWhile 4096 _ swapBody) (gSeq (gRet (lf (gVar 0))) (IL.ret .nx))) [some (.leaf (.int x)), some (.leaf (.int y))] = _
  unfold tell gSeq bnd
  rw [hw]
  rfl
def SpDiv (F : FSem) : Prop := ∀ x y : Nat, y < 2 ^ 1000 → F (lf2 (.int x) (.int y)) = some (.leaf (.int (Nat.gcd x y : Nat)), nn)
/-- this law's own fraction: of any two numbers, the second not 0 -/
def SpMade (F : FSem) : Prop := ∀ a b : Int, b ≠ 0 → lim 900 a → lim 900 b → F (lf2 (.int a) (.int b)) = some (.leaf (fq (Rat.divInt a b)), nn)
theorem run_made {W : Wd} {F : FSem} (hF : W.fn "_law_divisor" = some ⟨2, [], F⟩) (sF : SpDiv F) : SpMade (runM n__law_made.length 2 [] (evSs W c__law_made)) := by
  intro a b hb ha hb'
  refine run_pure ?_
  by_cases hn : b < 0
  · obtain ⟨y, hy0⟩ := Int.eq_ofNat_of_zero_le (show 0 ≤ -b by omega)
    obtain rfl : b = -(y : Int) := by omega
    have hl : lim 900 (y : Int) := by unfold lim at *; rw [Int.natAbs_neg] at hb'; exact hb'
    have hy : y < 2 ^ 1000 := by
      have : y < 2 ^ 900 := by simpa [lim] using hl
      exact Nat.lt_of_lt_of_le this (Nat.pow_le_pow_right (by decide) (by decide))
    have k1 := sF a.natAbs y hy
    have eg : Nat.gcd a.natAbs y = Int.gcd (-a) y := by simp [Int.gcd]
    rw [eg] at k1
    have hgl := gcd_lim (a := -a) (by omega) hl
    have hg := gcd_pos (a := -a) (b := (y : Int)) (by omega)
    have d1 : divOk (-a) (Int.gcd (-a) y : Nat) = true := divOk_lim (by omega) hgl (by decide)
    have d2 : divOk y (Int.gcd (-a) y : Nat) = true := divOk_lim (by omega) hgl (by decide)
    have hr := rat_pos (a := -a) (b := (y : Int)) (by omega)
    have e : Rat.divInt a (-(y : Int)) = Rat.divInt (-a) y := by
      have := Rat.neg_divInt_neg (-a) (y : Int)
      rw [Int.neg_neg] at this
      exact this
    rw [e, ← hr]
    generalize Int.gcd (-a) y = g at *
    have hy0' : 0 < y := by omega
    simp only [lf2, nn] at k1
    simp [tell, c__law_made, evSs, evS, evC, evCs, Bop.d, Cop.d, Bif.d, hF, lens, n__law_made, k1, d1, d2, hy0', gPar, fr]
  · obtain ⟨y, rfl⟩ := Int.eq_ofNat_of_zero_le (show 0 ≤ b by omega)
    have hy : y < 2 ^ 1000 := by
      have : y < 2 ^ 900 := by simpa [lim] using hb'
      exact Nat.lt_of_lt_of_le this (Nat.pow_le_pow_right (by decide) (by decide))
    have k1 := sF a.natAbs y hy
    have eg : Nat.gcd a.natAbs y = Int.gcd a y := by simp [Int.gcd]
    rw [eg] at k1
    have hgl := gcd_lim (a := a) (by omega) hb'
    have hg := gcd_pos (a := a) (b := (y : Int)) (by omega)
    have d1 : divOk a (Int.gcd a y : Nat) = true := divOk_lim (by omega) hgl (by decide)
    have d2 : divOk y (Int.gcd a y : Nat) = true := divOk_lim (by omega) hgl (by decide)
    have hr := rat_pos (a := a) (b := (y : Int)) (by omega)
    simp only [lf2, nn] at k1
    simp [tell, c__law_made, evSs, evS, evC, evCs, Bop.d, Cop.d, Bif.d, hF, lens, n__law_made, k1, d1, d2, hn, gPar]
    exact hr
/-! the feed -/
def fT (cells : List Int) (p q n : Int) : T := .lst [.leaf (.list (cells.map .int)), .leaf (.int p), .leaf (.int q), .leaf (.int n)]
def FeedOk (cells : List Int) (k : Nat) (t : T) : Prop := ∃ p q n : Int, t = fT cells p q n ∧ 0 ≤ p ∧ 0 ≤ q ∧ 0 ≤ n ∧ n ≤ k
def SpDraw (F : FSem) : Prop := ∀ (cells : List Int) (k : Nat) (t : T) (m : Int), k < 2 ^ 30 → FeedOk cells k t → 0 < m → m < 2 ^ 30 → ∃ r t', 0 ≤ r ∧ r < m ∧ FeedOk cells (k + 1) t' ∧ F [t, .leaf (.int m)] = some (.leaf (.int r), [some t', none])
theorem div_small {a m : Int} (h : 0 < m) (h2 : m < 2 ^ 30) : divOk a m = true := divOk_lim (k := 30) (by omega) (show m.natAbs < 2 ^ 30 by omega) (by decide)
theorem run_draw {W : Wd} : SpDraw (runM n__law_draw.length 2 [0] (evSs W c__law_draw)) := by
  intro cells k t m hk ⟨p, q, n, e, hp, hq, hn, hnk⟩ h0 hm
  subst e
  have hm0 : m ≠ 0 := by omega
  by_cases hq0 : 0 < q
  · refine ⟨q.fmod m, fT cells p (q.fdiv m) (n + 1), Int.fmod_nonneg_of_pos q h0, Int.fmod_lt_of_pos q h0, ⟨p, q.fdiv m, n + 1, rfl, hp, Int.fdiv_nonneg hq (by omega), by omega, by omega⟩, ?_⟩
    have d1 := div_small (a := q) h0 hm
    simp [runM, runF, fT, c__law_draw, evSs, evS, evC, evCs, evTg, Bop.d, Cop.d, Bif.d, n__law_draw, hq0, hm0, d1, maskN]
  · have ep : powOk 10 18 = true := by decide
    obtain ⟨v, hv⟩ : ∃ v : Int, evS W dr_s3 [some (fT cells p q (n + 1)), some (.leaf (.int m)), none, some (.leaf (.int 5)), none] = .ok .nx [some (fT cells p q (n + 1)), some (.leaf (.int m)), none, some (.leaf (.int v)), none] := by
      by_cases hc : cells = []
      · subst hc
        refine ⟨5, ?_⟩
        have := ne_nil []
        simp only [List.map_nil] at this
        simp [dr_s3, evSs, evS, evC, evCs, Cop.d, fT, this]
      · obtain ⟨v, hv⟩ := ix_cell hc (p := p)
        have h2 := ne_nil cells
        have h3 : cells.isEmpty = false := by simpa using hc
        refine ⟨v, ?_⟩
        simp [dr_s3, evSs, evS, evC, evCs, Cop.d, Bop.d, Bif.d, fT, h2, h3, hv, hc]
    have hq1 : q = 0 := by omega
    subst hq1
    have g0 : evS W dr_s0 [some (fT cells p 0 n), some (.leaf (.int m)), none, none, none] = .ok .nx [some (fT cells p 0 (n + 1)), some (.leaf (.int m)), none, none, none] := by
      simp [dr_s0, evSs, evS, evC, evCs, evTg, Bop.d, fT]
    have g1 : evS W dr_s1 [some (fT cells p 0 (n + 1)), some (.leaf (.int m)), none, none, none] = .ok .nx [some (fT cells p 0 (n + 1)), some (.leaf (.int m)), none, none, none] := by
      simp [dr_s1, evSs, evS, evC, evCs, evTg, Bop.d, Cop.d, fT]
    have g2 : evS W dr_s2 [some (fT cells p 0 (n + 1)), some (.leaf (.int m)), none, none, none] = .ok .nx [some (fT cells p 0 (n + 1)), some (.leaf (.int m)), none, some (.leaf (.int 5)), none] := by
      simp [dr_s2, evSs, evS, evC, evCs, evTg, Bop.d, Cop.d, fT]
    have g4 : evS W dr_s4 [some (fT cells p 0 (n + 1)), some (.leaf (.int m)), none, some (.leaf (.int v)), none] = .ok .nx [some (fT cells (p + 1) 0 (n + 1)), some (.leaf (.int m)), none, some (.leaf (.int v)), none] := by
      simp [dr_s4, evSs, evS, evC, evCs, evTg, Bop.d, Cop.d, fT]
    have start : ∀ r e', evSs W dr_r5 [some (fT cells (p + 1) 0 (n + 1)), some (.leaf (.int m)), none, some (.leaf (.int v)), none] = .ok (.rt (.leaf (.int r))) e' → evSs W c__law_draw [some (fT cells p 0 n), some (.leaf (.int m)), none, none, none] = .ok (.rt (.leaf (.int r))) e' := by
      intro r e' h
      rw [dr_eq, step (c := dr_r0) rfl g0, step (c := dr_r1) rfl g1, step (c := dr_r2) rfl g2, step (c := dr_r3) rfl hv, step (c := dr_r4) rfl g4, h]
    have fin : ∀ r p' q' n' e', evSs W c__law_draw [some (fT cells p 0 n), some (.leaf (.int m)), none, none, none] = .ok (.rt (.leaf (.int r))) (some (fT cells p' q' n') :: e') → runM n__law_draw.length 2 [0] (evSs W c__law_draw) [fT cells p 0 n, .leaf (.int m)] = some (.leaf (.int r), [some (fT cells p' q' n'), none]) := by
      intro r p' q' n' e' h
      unfold runM runF
      show (match (match evSs W c__law_draw [some (fT cells p 0 n), some (.leaf (.int m)), none, none, none] with
        | .ok (.rt t) e => some (t, (e ++ List.replicate 2 none).take 2)
        | .ok .nx e => some (.leaf .none, (e ++ List.replicate 2 none).take 2)
        | _ => none) with
        | some (t, o) => some (t, maskN [0] 0 o)
        | none => none) = _
      rw [h]
      cases e' <;> simp [maskN]
    by_cases hb : 10 ^ 18 ≤ v ∧ p + 1 ≤ cells.length
    · refine ⟨v.fmod m, fT cells (p + 1) (v.fdiv m) (n + 1), Int.fmod_nonneg_of_pos v h0, Int.fmod_lt_of_pos v h0, ⟨p + 1, v.fdiv m, n + 1, rfl, by omega, Int.fdiv_nonneg (by omega) (by omega), by omega, by omega⟩, fin _ _ _ _ [some (.leaf (.int m)), none, some (.leaf (.int v)), none] (start _ _ ?_)⟩
      have d1 := div_small (a := v) h0 hm
      have b1 : (1000000000000000000 : Int) ≤ v := by have := hb.1; simpa using this
      simp [dr_r5, dr_s5, dr_r6, evSs, evS, evC, evCs, evTg, Cop.d, Bop.d, Bif.d, fT, ep, b1, hb.2, d1, hm0]
    · have g5 : evS W dr_s5 [some (fT cells (p + 1) 0 (n + 1)), some (.leaf (.int m)), none, some (.leaf (.int v)), none] = .ok .nx [some (fT cells (p + 1) 0 (n + 1)), some (.leaf (.int m)), none, some (.leaf (.int v)), none] := by
        by_cases b1 : (1000000000000000000 : Int) ≤ v
        · have b2 : ¬ p + 1 ≤ cells.length := fun z => hb ⟨by simpa using b1, z⟩
          simp [dr_s5, evSs, evS, evC, evCs, evTg, Cop.d, Bop.d, Bif.d, fT, ep, b1, b2]
        · simp [dr_s5, evSs, evS, evC, evCs, evTg, Cop.d, Bop.d, Bif.d, fT, ep, b1]
      have f1 := Int.fmod_nonneg_of_pos v (b := 2147483629) (by decide)
      have f2 := Int.fmod_lt_of_pos v (b := 2147483629) (by decide)
      obtain ⟨x1, hx1⟩ : ∃ x1, x1 = v.fmod 2147483629 + 7919 * (n + 1) + 1 := ⟨_, rfl⟩
      have p1 : powOk x1 5 = true := by
        refine decide_eq_true ⟨by decide, by decide, ?_⟩
        omega
      have m1 : mulOk 7919 (n + 1) = true := mulOk_lim (k := 13) (l := 33) (by decide) (show (n + 1).natAbs < 2 ^ 33 by omega) (by decide)
      have m2 : mulOk 104729 (n + 1) = true := mulOk_lim (k := 17) (l := 33) (by decide) (show (n + 1).natAbs < 2 ^ 33 by omega) (by decide)
      have f3 := Int.fmod_nonneg_of_pos (x1 ^ 5) (b := 2147483647) (by decide)
      have f4 := Int.fmod_lt_of_pos (x1 ^ 5) (b := 2147483647) (by decide)
      obtain ⟨x2, hx2⟩ : ∃ x2, x2 = (x1 ^ 5).fmod 2147483647 := ⟨_, rfl⟩
      obtain ⟨x3, hx3⟩ : ∃ x3, x3 = x2 + 104729 * (n + 1) := ⟨_, rfl⟩
      have p2 : powOk x3 5 = true := by
        refine decide_eq_true ⟨by decide, by decide, ?_⟩
        omega
      have g6 : evS W dr_s6 [some (fT cells (p + 1) 0 (n + 1)), some (.leaf (.int m)), none, some (.leaf (.int v)), none] = .ok .nx [some (fT cells (p + 1) 0 (n + 1)), some (.leaf (.int m)), none, some (.leaf (.int v)), some (.leaf (.int x2))] := by
        simp [dr_s6, evSs, evS, evC, evCs, evTg, Cop.d, Bop.d, Bif.d, fT, m1, ← hx1, p1, ← hx2]
      have d1 : divOk ((x3 ^ 5).fmod 2147483587) 64 = true := div_small (by decide) (by decide)
      refine ⟨(((x3 ^ 5).fmod 2147483587).fdiv 64).fmod m, fT cells (p + 1) 0 (n + 1), Int.fmod_nonneg_of_pos _ h0, Int.fmod_lt_of_pos _ h0, ⟨p + 1, 0, n + 1, rfl, by omega, by omega, by omega, by omega⟩, fin _ _ _ _ [some (.leaf (.int m)), none, some (.leaf (.int v)), some (.leaf (.int x2))] (start _ _ ?_)⟩
      rw [step (c := dr_r5) rfl g5, step (c := dr_r6) rfl g6]
      simp [dr_r7, dr_s7, dr_r8, evSs, evS, evC, evCs, evTg, Cop.d, Bop.d, Bif.d, fT, m2, ← hx3, p2, d1, hm0]
end Fc

namespace IL
open PySem PySem.Spec PyProof.Rows L2
@[simp] theorem unT_tup (n : Nat) (g : List D → M Unit) (ds : List D) : unT n g (.tuple ds) = if ds.length = n then g ds else bad := rfl
@[simp] theorem unT_lst (n : Nat) (g : List D → M Unit) (ds : List D) : unT n g (.list ds) = if ds.length = n then g ds else bad := rfl
@[simp] theorem consG_cons (f : D → M Unit) (g : List D → M Unit) (d : D) (ds : List D) : consG f g (d :: ds) = bnd (f d) fun _ => g ds := rfl
@[simp] theorem ap_push (i : Nat) (f : M T) : gPush i f = bnd (held i) fun _ => bnd (peek i fun t => match t with | .lst _ => some () | _ => none) fun _ => bnd f fun t => bnd (pushT i t) fun _ => IL.ret (.leaf .none) := rfl
@[simp] theorem ap_pushT (i : Nat) (t : T) (e : En) : pushT i t e = match e[i]? with
  | some (some (.lst ts)) => if ts.length < most then .ok () (e.set i (some (.lst (ts ++ [t])))) else .bad
  | _ => .bad := rfl
@[simp] theorem lt_most {n : Nat} (h : n < 100000) : n < most := h
@[simp] theorem ap_par (i j : Nat) (f : M (List T)) : gPar i j f = bnd f fun ts => match ts with
  | [t, u] => bnd (store i t) fun _ => bnd (store j u) fun _ => IL.ret .nx
  | _ => bad := rfl
@[simp] theorem tuple_list (xs : List D) : tupleD [.list xs] = some (.leaf (.tuple xs)) := rfl
@[simp] theorem tuple_tuple (xs : List D) : tupleD [.tuple xs] = some (.leaf (.tuple xs)) := rfl
@[simp] theorem seq_tup (xs : List D) : seqD (.tuple xs) = some xs := rfl
@[simp] theorem seq_lst (xs : List D) : seqD (.list xs) = some xs := rfl
@[simp] theorem ap_itr (f : M D) : gItr f = bnd f fun d => opt (seqD d) := rfl
@[simp] theorem ap_wipe (vs : List Nat) (e : En) : wipeM vs e = .ok () (wipeE e vs) := rfl
theorem run_lent1 {m : M Fl} {nN : Nat} {t t' r : T} {e' : En} (h : m (some t :: List.replicate (nN - 1) none) = .ok (.rt r) (some t' :: e')) : runM nN 1 [0] m [t] = some (r, [some t']) := by
  unfold runM runF
  show (match (match m (some t :: List.replicate (nN - 1) none) with
    | .ok (.rt t) e => some (t, (e ++ List.replicate 1 none).take 1)
    | .ok .nx e => some (.leaf .none, (e ++ List.replicate 1 none).take 1)
    | _ => none) with
    | some (t, o) => some (t, maskN [0] 0 o)
    | none => none) = _
  rw [h]
  simp [maskN]
end IL
namespace Fc
open PySem PySem.Spec PyProof.Rows L2 IL
theorem FeedOk.mono {cells : List Int} {k l : Nat} {t : T} (h : FeedOk cells k t) (hk : k ≤ l) : FeedOk cells l t := by
  obtain ⟨p, q, n, e, h1, h2, h3, h4⟩ := h
  exact ⟨p, q, n, e, h1, h2, h3, by omega⟩
end Fc

namespace Fc
open PySem PySem.Spec PyProof.Rows L2 IL
def numB : D → Bool
  | .int _ => true
  | _ => false
def nums2 : D → Bool
  | .tuple [x, y] => numB x && numB y
  | _ => false
def fracB : D → Bool
  | .tuple [.int a, .int b] => decide (0 < b) && decide (Int.gcd a b = 1)
  | _ => false
theorem nums2_true {d : D} (h : nums2 d = true) : ∃ a b, d = .tuple [.int a, .int b] := by
  unfold nums2 at h
  split at h
  · rename_i x y
    rw [Bool.and_eq_true] at h
    cases x <;> cases y <;> simp_all [numB]
  · cases h
theorem fracB_nums {d : D} (h : nums2 d = false) : fracB d = false := by
  unfold fracB
  split
  · simp [nums2, numB] at h
  · rfl
def SpNum (F : FSem) : Prop := ∀ d : D, F [.leaf d] = some (.leaf (.bool (numB d)), [none])
theorem run_is_number {W : Wd} : SpNum (runM n_is_number.length 1 [] (evSs W c_is_number)) := by
  intro d
  refine run_pure ?_
  cases d <;> simp [tell, c_is_number, evSs, evS, evC, evCs, n_is_number, isiB, numB]
theorem run_law_is_number {W : Wd} : SpNum (runM n__law_is_number.length 1 [] (evSs W c__law_is_number)) := by
  intro d
  refine run_pure ?_
  cases d <;> simp [tell, c__law_is_number, evSs, evS, evC, evCs, n__law_is_number, isiB, numB]
def SpNums (F : FSem) : Prop := ∀ d : D, F [.leaf d, .leaf (.int 2)] = some (.leaf (.bool (nums2 d)), [none, none])
@[simp] theorem len_tuple (xs : List D) : lenD [.tuple xs] = some (.leaf (.int xs.length)) := rfl
theorem run_are_numbers {W : Wd} {F : FSem} (h : W.fn "is_number" = some ⟨1, [], F⟩) (s : SpNum F) : SpNums (runM n_are_numbers.length 2 [] (evSs W c_are_numbers)) := by
  intro d
  refine run_pure ?_
  have k := s
  unfold SpNum at k
  cases d with
  | tuple ds =>
    match ds with
    | [] => simp [tell, c_are_numbers, evSs, evS, evC, evCs, Cop.d, Bif.d, n_are_numbers, isiB, nums2]
    | [x] => simp [tell, c_are_numbers, evSs, evS, evC, evCs, Cop.d, Bif.d, n_are_numbers, isiB, nums2]
    | [x, y] =>
      simp [tell, c_are_numbers, evSs, evS, evC, evCs, evI, evTg, evCond, gLc, wipeE, Cop.d, Bif.d, n_are_numbers, h, lens, k, allD, boolsD, isiB, nums2]
    | x :: y :: z :: r =>
      have : ¬ ((r.length : Int) + 1 + 1 + 1 = 2) := by omega
      simp [tell, c_are_numbers, evSs, evS, evC, evCs, Cop.d, Bif.d, n_are_numbers, isiB, nums2, this]
  | _ => simp [tell, c_are_numbers, evSs, evS, evC, evCs, Cop.d, Bif.d, n_are_numbers, isiB, nums2]
def SpB (f : D → Bool) (F : FSem) : Prop := ∀ d : D, Pd d → F [.leaf d] = some (.leaf (.bool (f d)), [none])
theorem gGcd_abs {a b : Int} (hb : 0 < b) (hl : lim 400 b) : gGcd [.int (a.natAbs : Int), .int b] = some (.int (Int.gcd a b : Nat)) := by
  have e : Nat.gcd (a.natAbs : Int).toNat b.toNat = Int.gcd a b := by
    unfold Int.gcd
    congr 1
    omega
  rw [← e]
  exact if_pos ⟨by omega, by omega, lim_mono hl (by decide)⟩
theorem run_is_fraction {W : Wd} {F : FSem} (h : W.fn "are_numbers" = some ⟨2, [], F⟩) (s : SpNums F) (hg : W.fn "common_divisor" = some ⟨2, [], pureF 2 gGcd⟩) : SpB fracB (runM n_is_fraction.length 1 [] (evSs W c_is_fraction)) := by
  intro d hd
  refine run_pure ?_
  have k1 := s d
  cases hn : nums2 d with
  | false =>
    rw [hn] at k1
    rw [fracB_nums hn]
    simp [tell, c_is_fraction, evSs, evS, evC, evCs, Cop.d, Bif.d, n_is_fraction, h, lens, k1]
  | true =>
    obtain ⟨a, b, rfl⟩ := nums2_true hn
    rw [hn] at k1
    have hl := hd.pair
    by_cases hb : 0 < b
    · have k2 := gGcd_abs (a := a) hb hl.2
      have k4 : ¬ (b ≤ 0) := by omega
      simp [tell, c_is_fraction, evSs, evS, evC, evCs, Cop.d, Bif.d, n_is_fraction, h, hg, lens, k1, pureF, k2, k4, fracB, hb]
      omega
    · have k4 : b ≤ 0 := by omega
      simp [tell, c_is_fraction, evSs, evS, evC, evCs, Cop.d, Bif.d, n_is_fraction, h, hg, lens, k1, k4, fracB, hb]
theorem fracB_true {d : D} (h : fracB d = true) : ∃ a b, d = .tuple [.int a, .int b] ∧ 0 < b ∧ Int.gcd a b = 1 := by
  unfold fracB at h
  split at h
  · rename_i a b
    simp only [Bool.and_eq_true, decide_eq_true_eq] at h
    exact ⟨a, b, rfl, h.1, h.2⟩
  · cases h
/-! the law's own looks -/
theorem ne_lst {xs : List D} (h : SeqAt.shaped (.list xs) = true) : neD (.list xs) (.list []) = some (.leaf (.bool (!xs.isEmpty))) := by
  have h2 : SeqAt.shaped (.list []) = true := by simpa using shaped_ints []
  cases xs with
  | nil => simp [neD, eqB, scalEq, bT, h2, PyData.eqv, PyData.eqvAll]
  | cons c r =>
    simp only [neD, eqB, scalEq, h, h2, bT]
    simp [PyData.eqv, PyData.eqvAll]
theorem shaped_sub {xs ds : List D} (h : Pd (.tuple ds)) (hx : xs.Sublist ds) : SeqAt.shaped (.list xs) = true := by
  obtain ⟨n', e, h1, h2⟩ := h.tup
  cases e
  exact Fine.shaped (Dt.big (dt_lst (n := 39) (fun x hx' => h1 x (hx.subset hx')) (Nat.le_trans (bulkAll_sub hx) h2)))
theorem run_law_is_fraction {W : Wd} {F G : FSem} (h : W.fn "_law_is_number" = some ⟨1, [], F⟩) (s : SpNum F) (hg : W.fn "_law_divisor" = some ⟨2, [], G⟩) (sg : SpDiv G) : SpB fracB (runM n__law_is_fraction.length 1 [] (evSs W c__law_is_fraction)) := by
  intro d hd
  refine run_pure ?_
  have k := s
  unfold SpNum at k
  cases d with
  | tuple ds =>
    match ds, hd with
    | [], hd => simp [tell, c__law_is_fraction, evSs, evS, evC, evCs, Cop.d, Bif.d, n__law_is_fraction, isiB, fracB]
    | [x], hd => simp [tell, c__law_is_fraction, evSs, evS, evC, evCs, Cop.d, Bif.d, n__law_is_fraction, isiB, fracB]
    | [x, y], hd =>
      have s1 := ne_lst (shaped_sub (xs := [x]) hd (.cons_cons _ (.cons _ .slnil)))
      have s2 := ne_lst (shaped_sub (xs := [y]) hd (.cons _ (.cons_cons _ .slnil)))
      have s3 := ne_lst (shaped_sub (xs := [x, y]) hd (List.Sublist.refl _))
      have s4 := ne_lst (shaped_sub (xs := []) hd (List.nil_sublist _))
      simp only [List.isEmpty_cons, List.isEmpty_nil, Bool.not_false, Bool.not_true] at s1 s2 s3 s4
      cases h1 : numB x with
      | false =>
        have e : fracB (.tuple [x, y]) = false := fracB_nums (by simp [nums2, h1])
        rw [e]
        cases h2 : numB y <;> simp [tell, c__law_is_fraction, evSs, evS, evC, evCs, evI, evTg, evCond, gLc, wipeE, Cop.d, Bif.d, n__law_is_fraction, isiB, h, lens, k, h1, h2, s1, s2, s3, s4]
      | true =>
        cases h2 : numB y with
        | false =>
          have e : fracB (.tuple [x, y]) = false := fracB_nums (by simp [nums2, h1, h2])
          rw [e]
          simp [tell, c__law_is_fraction, evSs, evS, evC, evCs, evI, evTg, evCond, gLc, wipeE, Cop.d, Bif.d, n__law_is_fraction, isiB, h, lens, k, h1, h2, s1, s2, s3, s4]
        | true =>
          obtain ⟨a, b, e⟩ := nums2_true (d := .tuple [x, y]) (by simp [nums2, h1, h2])
          cases e
          have hl := hd.pair
          by_cases hb : 0 < b
          · obtain ⟨m, rfl⟩ := Int.eq_ofNat_of_zero_le (show 0 ≤ b by omega)
            have hm : m < 2 ^ 1000 := by
              have : m < 2 ^ 400 := by simpa [lim] using hl.2
              exact Nat.lt_of_lt_of_le this (Nat.pow_le_pow_right (by decide) (by decide))
            have k2 := sg a.natAbs m hm
            have e : Nat.gcd a.natAbs m = Int.gcd a m := by simp [Int.gcd]
            rw [e] at k2
            have e2 : fracB (.tuple [.int a, .int (m : Int)]) = decide (((Int.gcd a m : Nat) : Int) = 1) := by
              show (decide (0 < (m : Int)) && decide (Int.gcd a m = 1)) = _
              rw [decide_eq_true hb, Bool.true_and, decide_eq_decide]
              omega
            have hb' : 0 < m := by omega
            rw [e2]
            simp only [lf2, nn] at k2
            simp [tell, c__law_is_fraction, evSs, evS, evC, evCs, evI, evTg, evCond, gLc, wipeE, Cop.d, Bif.d, n__law_is_fraction, isiB, h, hg, lens, k, numB, s4, hb, hb', k2]
          · simp [tell, c__law_is_fraction, evSs, evS, evC, evCs, evI, evTg, evCond, gLc, wipeE, Cop.d, Bif.d, n__law_is_fraction, isiB, h, hg, lens, k, numB, s4, hb, fracB]
    | x :: y :: z :: r, hd =>
      have : ¬ ((r.length : Int) + 1 + 1 + 1 = 2) := by omega
      simp [tell, c__law_is_fraction, evSs, evS, evC, evCs, Cop.d, Bif.d, n__law_is_fraction, isiB, this, fracB]
  | _ => simp [tell, c__law_is_fraction, evSs, evS, evC, evCs, Cop.d, Bif.d, n__law_is_fraction, isiB, fracB]
end Fc

namespace Fc
open PySem PySem.Spec PyProof.Rows L2 IL
theorem pick {is : List Int} {r : Int} (h0 : 0 ≤ r) (h1 : r < is.length) : ∃ v ∈ is, ixD (.list (is.map .int)) (.int r) = some (.int v) := by
  obtain ⟨j, rfl⟩ := Int.eq_ofNat_of_zero_le h0
  have h2 : j < is.length := by omega
  exact ⟨is[j], List.getElem_mem h2, by simp [ixD, L2.atI, ixN, h2]⟩
@[simp] theorem ap_neg (f : M D) : gNeg f = bnd f fun d => match d with
  | .int i => IL.ret (.leaf (.int (-i)))
  | _ => bad := rfl
def SpFrac (F : FSem) : Prop := ∀ (cells : List Int) (k : Nat) (t : T), k < 2 ^ 29 → FeedOk cells k t → ∃ r t', limQ 21 r ∧ FeedOk cells (k + 6) t' ∧ F [t] = some (.leaf (fq r), [some t'])
theorem run_fraction {W : Wd} {Fd Fm : FSem} (hd : W.fn "_law_draw" = some ⟨2, [0], Fd⟩) (hm : W.fn "_law_made" = some ⟨2, [], Fm⟩) (sd : SpDraw Fd) (sm : SpMade Fm) : SpFrac (runM n__law_fraction.length 1 [0] (evSs W c__law_fraction)) := by
  intro cells k t hk ht
  obtain ⟨r1, t1, a1, b1, f1, k1⟩ := sd cells k t 13 (by omega) ht (by decide) (by decide)
  obtain ⟨r2, t2, a2, b2, f2, k2⟩ := sd cells (k + 1) t1 1999999 (by omega) f1 (by decide) (by decide)
  obtain ⟨r3, t3, a3, b3, f3, k3⟩ := sd cells (k + 2) t2 5 (by omega) f2 (by decide) (by decide)
  obtain ⟨r4, t4, a4, b4, f4, k4⟩ := sd cells (k + 3) t3 12 (by omega) f3 (by decide) (by decide)
  obtain ⟨r5, t5, a5, b5, f5, k5⟩ := sd cells (k + 4) t4 999999 (by omega) f4 (by decide) (by decide)
  obtain ⟨r6, t6, a6, b6, f6, k6⟩ := sd cells (k + 5) t5 3 (by omega) f5 (by decide) (by decide)
  obtain ⟨v, hv, iv⟩ := pick (is := [r1 - 6, r2 - 999999, 0, 1, -1]) a3 (by simpa using b3)
  obtain ⟨w, hw, iw⟩ := pick (is := [1, 1 + r4, 1 + r5]) a6 (by simpa using b6)
  have lv : lim 21 v := by
    simp only [List.mem_cons, List.not_mem_nil, or_false] at hv
    show v.natAbs < 2 ^ 21
    rcases hv with rfl | rfl | rfl | rfl | rfl <;> omega
  have lw : lim 21 w ∧ w ≠ 0 := by
    simp only [List.mem_cons, List.not_mem_nil, or_false] at hw
    refine ⟨?_, ?_⟩
    · show w.natAbs < 2 ^ 21
      rcases hw with rfl | rfl | rfl <;> omega
    · rcases hw with rfl | rfl | rfl <;> omega
  have m1 := sm v w lw.2 (lim_mono lv (by decide)) (lim_mono lw.1 (by decide))
  refine ⟨Rat.divInt v w, t6, limQ_divInt lw.2 lv lw.1, f6, run_lent1 (e' := [some (.leaf (.int v)), some (.leaf (.int w))]) ?_⟩
  generalize Rat.divInt v w = x at *
  simp only [lf2, nn] at m1
  simp only [List.map_cons, List.map_nil] at iv iw
  simp [c__law_fraction, evSs, evS, evC, evCs, Bop.d, n__law_fraction, hd, hm, lens, k1, k2, k3, k4, k5, k6, maskN, iv, iw, m1]
end Fc

namespace IL
open PySem PySem.Spec PyProof.Rows L2
@[simp] theorem ap_neg (f : M D) : gNeg f = bnd f fun d => match d with
  | .int i => IL.ret (.leaf (.int (-i)))
  | _ => bad := rfl
@[simp] theorem ap_part (f : M D) : gPart f = bnd f fun d => bnd (opt (asI d)) fun i => IL.ret (some i) := rfl
@[simp] theorem asI_int (i : Int) : asI (.int i) = some i := rfl
@[simp] theorem ap_sl (fa : M D) (lo hi : M (Option Int)) : gSl fa lo hi = bnd fa fun x => bnd lo fun l => bnd hi fun h => opt (slD x l h) := rfl
@[simp] theorem sl_tup (ds : List D) (l h : Option Int) : slD (.tuple ds) l h = some (.leaf (.tuple (cutD ds l h))) := rfl
theorem tup_add {a b : List D} (h : a.length + b.length ≤ 100000) : addD (.tuple a) (.tuple b) = some (.leaf (.tuple (a ++ b))) := by
  have : a.length + b.length ≤ most := h
  simp [addD, orr, int2, strCat, tupCat, this]
theorem frz_mkTup (ts : List T) : frz (mkTup ts) = .tuple (ts.map frz) := by
  unfold mkTup
  split
  · rename_i ds h
    have e := leaves_eq h
    subst e
    rw [frz_leaf, List.map_map]
    congr 1
    conv => lhs; rw [← List.map_id ds]
    apply List.map_congr_left
    intro a _
    simp
  · rw [frz_tup]
@[simp] theorem frz_lvs (ds : List D) : frz (.lst (ds.map .leaf)) = .list ds := by
  rw [frz_lst, List.map_map]
  congr 1
  conv => rhs; rw [← List.map_id ds]
  apply List.map_congr_left
  intro a _
  simp
theorem cut_drop (ds : List D) (i : Nat) (h : i ≤ ds.length) : cutD ds (some (i : Int)) none = ds.drop i := by
  unfold cutD
  rw [HT.sIx_none, HT.sIx_nat, Nat.min_eq_left h, ← List.length_drop, List.take_length]
theorem cut_take (ds : List D) (i : Nat) (h : i ≤ ds.length) : cutD ds none (some (i : Int)) = ds.take i := by
  unfold cutD
  rw [HT.sIx_none, HT.sIx_nat, Nat.min_eq_left h]
  simp
theorem cut_one (ds : List D) (i : Nat) (h : i < ds.length) : cutD ds (some (i : Int)) (some ((i : Int) + 1)) = (ds.drop i).take 1 := by
  unfold cutD
  rw [show ((i : Int) + 1) = ((i + 1 : Nat) : Int) from rfl, HT.sIx_nat, HT.sIx_nat, Nat.min_eq_left (by omega), Nat.min_eq_left (by omega)]
  congr 1
  omega
theorem cut_drop1 (ds : List D) (i : Nat) (h : i < ds.length) : cutD ds (some ((i : Int) + 1)) none = ds.drop (i + 1) := cut_drop ds (i + 1) (by omega)
theorem ix_mem {ds : List D} {r : Int} (h0 : 0 ≤ r) (h1 : r < ds.length) : ∃ x ∈ ds, ixD (.list ds) (.int r) = some x ∧ ixD (.tuple ds) (.int r) = some x := by
  obtain ⟨j, rfl⟩ := Int.eq_ofNat_of_zero_le h0
  have h2 : j < ds.length := by omega
  refine ⟨ds[j], List.getElem_mem h2, ?_, ?_⟩ <;> simp [ixD, L2.atI, ixN, h2]
end IL
namespace Fc
open PySem PySem.Spec PyProof.Rows L2 IL
theorem eq_tup_nil {ds : List D} (h : SeqAt.shaped (.tuple ds) = true) : eqD (.tuple ds) (.tuple []) = some (.leaf (.bool ds.isEmpty)) := by
  have h2 : SeqAt.shaped (.tuple []) = true := by simp [SeqAt.shaped, PyData.canLay0, PyData.canLayAll0, PyData.depth, PyData.depthAll]
  cases ds with
  | nil => simp [eqD, eqB, scalEq, bT, h2, PyData.eqv, PyData.eqvAll]
  | cons c r =>
    simp only [eqD, eqB, scalEq, h, h2, bT]
    simp [PyData.eqv, PyData.eqvAll]
def fSpoil (W : Wd) : Nat → FSem
  | 0 => fun _ => none
  | m + 1 => runM n__law_spoilt.length 3 [0] (evSs (W.add "_law_spoilt" ⟨3, [0], fSpoil W m⟩) c__law_spoilt)
def Menu (m : Nat) (menu : List D) : Prop := 0 < menu.length ∧ menu.length ≤ 100 ∧ ∀ x ∈ menu, Dt 3 m x
/-- what a spoilt thing is -/
def SpSpoil (M : Nat) (F : FSem) : Prop := ∀ (cells : List Int) (k : Nat) (t : T) (n b m : Nat) (d : D) (menu : List D), n < M → n ≤ 20 → b ≤ 4000 → m ≤ 300 → k + 10 * n + 100 < 2 ^ 29 → FeedOk cells k t → Dt n b d → Menu m menu →
  ∃ tr t', FeedOk cells (k + 4 * (n + 1)) t' ∧ Dt (n + 4) (3 * b + m + 1) (frz tr) ∧ F [t, .leaf d, .leaf (.list menu)] = some (tr, [some t', none, none])
theorem run_lent3 {m : M Fl} {t t' r : T} {a b : T} {e' : En} (h : m [some t, some a, some b, none, none, none, none] = .ok (.rt r) (some t' :: e')) (hl : 2 ≤ e'.length) : runM 7 3 [0] m [t, a, b] = some (r, [some t', none, none]) := by
  unfold runM runF
  show (match (match m [some t, some a, some b, none, none, none, none] with
    | .ok (.rt t) e => some (t, (e ++ List.replicate 3 none).take 3)
    | .ok .nx e => some (.leaf .none, (e ++ List.replicate 3 none).take 3)
    | _ => none) with
    | some (t, o) => some (t, maskN [0] 0 o)
    | none => none) = _
  rw [h]
  match e', hl with
  | x :: y :: r', _ => simp [maskN]
theorem spoil_step {W : Wd} {Fd : FSem} (hd : W.fn "_law_draw" = some ⟨2, [0], Fd⟩) (sd : SpDraw Fd) (m : Nat) (ih : SpSpoil m (fSpoil W m)) : SpSpoil (m + 1) (fSpoil W (m + 1)) := by
  intro cells k t n b m0 d menu hn hn4 hb0 hm0 hk ht hp hm
  have hd' : (W.add "_law_spoilt" ⟨3, [0], fSpoil W m⟩).fn "_law_draw" = some ⟨2, [0], Fd⟩ := hd
  have hs' : (W.add "_law_spoilt" ⟨3, [0], fSpoil W m⟩).fn "_law_spoilt" = some ⟨3, [0], fSpoil W m⟩ := rfl
  show ∃ tr t', _ ∧ _ ∧ runM 7 3 [0] (evSs (W.add "_law_spoilt" ⟨3, [0], fSpoil W m⟩) c__law_spoilt) _ = _
  generalize W.add "_law_spoilt" ⟨3, [0], fSpoil W m⟩ = V at *
  obtain ⟨w, t1, w0, w1, f1, k1⟩ := sd cells k t 9 (by omega) ht (by decide) (by decide)
  have g0 : evS V sp_s0 [some t, some (.leaf d), some (.leaf (.list menu)), none, none, none, none] = .ok .nx [some t1, some (.leaf d), some (.leaf (.list menu)), some (.leaf (.int w)), none, none, none] := by
    simp [sp_s0, evS, evC, evCs, hd', lens, k1, maskN]
  obtain ⟨r2, t2, a2, b2, f2, k2⟩ := sd cells (k + 1) t1 menu.length (by omega) f1 (by have := hm.1; omega) (by have := hm.2.1; omega)
  obtain ⟨x2, hx2, i2, _⟩ := ix_mem a2 b2
  have menuP : ∀ x ∈ menu, Lv 3 x ∧ x.bulk ≤ m0 := fun x hx => ⟨(hm.2.2 x hx).lv, (hm.2.2 x hx).blk⟩
  by_cases hA : (∃ ds, d = .tuple ds ∧ ds ≠ []) ∧ w ≠ 0
  · obtain ⟨⟨ds, rfl, hne⟩, hw⟩ := hA
    obtain ⟨n', rfl, hit, hbk⟩ := hp.tup
    have hl := Nat.le_trans (bulkAll_len ds) hbk
    have hne' : ds.isEmpty = false := by simpa using hne
    have hsh : SeqAt.shaped (.tuple ds) = true := Fine.shaped (Dt.big (hp.mono (by omega) (by omega)))
    have q1 := eq_tup_nil hsh
    rw [hne'] at q1
    have hlen : 0 < ds.length := List.length_pos_iff.mpr hne
    have g1 : evS V sp_s1 [some t1, some (.leaf (.tuple ds)), some (.leaf (.list menu)), some (.leaf (.int w)), none, none, none] = .ok .nx [some t1, some (.leaf (.tuple ds)), some (.leaf (.list menu)), some (.leaf (.int w)), none, none, none] := by
      simp [sp_s1, evSs, evS, evC, evCs, Cop.d, isiB, mkTup, q1, hw]
    obtain ⟨r, t3, a3, b3, f3, k3⟩ := sd cells (k + 1) t1 ds.length (by omega) f1 (by omega) (by omega)
    obtain ⟨j, rfl⟩ := Int.eq_ofNat_of_zero_le a3
    have hj : j < ds.length := by omega
    have g2 : evS V sp_s2 [some t1, some (.leaf (.tuple ds)), some (.leaf (.list menu)), some (.leaf (.int w)), none, none, none] = .ok .nx [some t3, some (.leaf (.tuple ds)), some (.leaf (.list menu)), some (.leaf (.int w)), some (.leaf (.int j)), none, none] := by
      simp [sp_s2, evS, evC, evCs, Bif.d, hd', lens, k3, maskN]
    have start : ∀ e0, evSs V sp_r3 [some t3, some (.leaf (.tuple ds)), some (.leaf (.list menu)), some (.leaf (.int w)), some (.leaf (.int j)), none, none] = e0 → evSs V c__law_spoilt [some t, some (.leaf (.tuple ds)), some (.leaf (.list menu)), none, none, none, none] = e0 := by
      intro e0 h
      rw [sp_eq, step (c := sp_r0) rfl g0, step (c := sp_r1) rfl g1, step (c := sp_r2) rfl g2, h]
    have c1 := cut_take ds j (by omega)
    have c2 := cut_drop ds j (by omega)
    have c3 := cut_one ds j hj
    have c4 := cut_drop1 ds j hj
    have lt1 : (ds.take j).length = j := by rw [List.length_take]; omega
    have lt2 : (ds.drop j).length = ds.length - j := by rw [List.length_drop]
    have lt4 : (ds.drop (j + 1)).length = ds.length - (j + 1) := by rw [List.length_drop]
    have lt3 : ((ds.drop j).take 1).length ≤ 1 := by rw [List.length_take]; omega
    have up : ∀ x ∈ ds, Lv (n' + 4) x := fun x hx => (hit x hx).mono (by omega)
    have hsp := bulkAll_split ds j
    have hjx : ∃ xj, ds[j]? = some xj := ⟨ds[j], by rw [List.getElem?_eq_getElem]⟩
    obtain ⟨xj0, hj0⟩ := hjx
    have hat := bulkAll_at hj0
    have m1 : ∀ x ∈ ds.take j, x ∈ ds := fun x hx => List.mem_of_mem_take hx
    have m2 : ∀ x ∈ ds.drop j, x ∈ ds := fun x hx => List.mem_of_mem_drop hx
    have m3 : ∀ x ∈ (ds.drop j).take 1, x ∈ ds := fun x hx => m2 x (List.mem_of_mem_take hx)
    have m4 : ∀ x ∈ ds.drop (j + 1), x ∈ ds := fun x hx => List.mem_of_mem_drop hx
    have fin : ∀ (tr t' : T) (e' : En), evSs V sp_r3 [some t3, some (.leaf (.tuple ds)), some (.leaf (.list menu)), some (.leaf (.int w)), some (.leaf (.int j)), none, none] = .ok (.rt tr) (some t' :: e') → 2 ≤ e'.length → FeedOk cells (k + 4 * (n' + 1 + 1)) t' → Dt (n' + 1 + 4) (3 * b + m0 + 1) (frz tr) → ∃ tr t', FeedOk cells (k + 4 * (n' + 1 + 1)) t' ∧ Dt (n' + 1 + 4) (3 * b + m0 + 1) (frz tr) ∧ runM 7 3 [0] (evSs V c__law_spoilt) [t, .leaf (.tuple ds), .leaf (.list menu)] = some (tr, [some t', none, none]) :=
      fun tr t' e' h hl hf hp => ⟨tr, t', hf, hp, run_lent3 (start _ h) hl⟩
    by_cases h1 : w = 1
    · subst h1
      have A1 := tup_add (a := ds.take j) (b := ds.drop (j + 1)) (by omega)
      refine fin (.leaf (.tuple (ds.take j ++ ds.drop (j + 1)))) t3 _ (by simp [sp_r3, sp_s3, evSs, evS, evC, evCs, evO, Cop.d, Bop.d, c1, c4, A1]; rfl) (by simp) (f3.mono (by omega)) ?_
      rw [frz_leaf]
      refine dt_tup (fun x hx => ?_) (by rw [bulkAll_append]; omega)
      rcases List.mem_append.mp hx with hx | hx
      · exact up x (m1 x hx)
      · exact up x (m4 x hx)
    have s3 : evS V sp_s3 [some t3, some (.leaf (.tuple ds)), some (.leaf (.list menu)), some (.leaf (.int w)), some (.leaf (.int j)), none, none] = .ok .nx [some t3, some (.leaf (.tuple ds)), some (.leaf (.list menu)), some (.leaf (.int w)), some (.leaf (.int j)), none, none] := by
      simp [sp_s3, evSs, evS, evC, evCs, Cop.d, h1]
    by_cases h2 : w = 2
    · subst h2
      have A1 := tup_add (a := ds.take j) (b := (ds.drop j).take 1) (by omega)
      have A2 := tup_add (a := ds.take j ++ (ds.drop j).take 1) (b := ds.drop j) (by rw [List.length_append]; omega)
      refine fin (.leaf (.tuple (ds.take j ++ (ds.drop j).take 1 ++ ds.drop j))) t3 _ (by rw [step (c := sp_r3) rfl s3]; simp only [List.append_assoc] at A2 ⊢; simp [sp_r4, sp_s4, evSs, evS, evC, evCs, evO, Cop.d, Bop.d, c1, c2, c3, A1, A2]; rfl) (by simp) (f3.mono (by omega)) ?_
      rw [frz_leaf]
      have hsb := bulkAll_sub (List.take_sublist 1 (ds.drop j))
      refine dt_tup (fun x hx => ?_) (by rw [bulkAll_append, bulkAll_append]; omega)
      rcases List.mem_append.mp hx with hx | hx
      · rcases List.mem_append.mp hx with hx | hx
        · exact up x (m1 x hx)
        · exact up x (m3 x hx)
      · exact up x (m2 x hx)
    have s4 : evS V sp_s4 [some t3, some (.leaf (.tuple ds)), some (.leaf (.list menu)), some (.leaf (.int w)), some (.leaf (.int j)), none, none] = .ok .nx [some t3, some (.leaf (.tuple ds)), some (.leaf (.list menu)), some (.leaf (.int w)), some (.leaf (.int j)), none, none] := by
      simp [sp_s4, evSs, evS, evC, evCs, Cop.d, h2]
    by_cases h3 : w = 3
    · subst h3
      obtain ⟨r4, t4, a4, b4, f4, k4⟩ := sd cells (k + 2) t3 menu.length (by omega) f3 (by have := hm.1; omega) (by have := hm.2.1; omega)
      obtain ⟨x4, hx4, i4, _⟩ := ix_mem a4 b4
      have A1 := tup_add (a := ds.take j) (b := [x4]) (by simp; omega)
      have A2 := tup_add (a := ds.take j ++ [x4]) (b := ds.drop j) (by rw [List.length_append]; simp; omega)
      simp only [List.append_assoc, List.singleton_append] at A2
      refine fin (.leaf (.tuple (ds.take j ++ x4 :: ds.drop j))) t4 _ (by rw [step (c := sp_r3) rfl s3, step (c := sp_r4) rfl s4]; simp [sp_r5, sp_s5, evSs, evS, evC, evCs, evO, Cop.d, Bop.d, Bif.d, c1, c2, hd', lens, k4, maskN, i4, mkTup, A1, A2]; rfl) (by simp) (f4.mono (by omega)) ?_
      rw [frz_leaf]
      have hmx := (menuP _ hx4).2
      refine dt_tup (fun x hx => ?_) (by rw [bulkAll_append]; simp only [PyData.bulkAll]; omega)
      rcases List.mem_append.mp hx with hx | hx
      · exact up x (m1 x hx)
      · rcases List.mem_cons.mp hx with rfl | hx
        · exact (menuP _ hx4).1.mono (by omega)
        · exact up x (m2 x hx)
    have s5 : evS V sp_s5 [some t3, some (.leaf (.tuple ds)), some (.leaf (.list menu)), some (.leaf (.int w)), some (.leaf (.int j)), none, none] = .ok .nx [some t3, some (.leaf (.tuple ds)), some (.leaf (.list menu)), some (.leaf (.int w)), some (.leaf (.int j)), none, none] := by
      simp [sp_s5, evSs, evS, evC, evCs, Cop.d, h3]
    by_cases h4 : w = 4
    · subst h4
      obtain ⟨o, t4, a4, b4, f4, k4⟩ := sd cells (k + 2) t3 ds.length (by omega) f3 (by omega) (by omega)
      obtain ⟨i, rfl⟩ := Int.eq_ofNat_of_zero_le a4
      have hi : i < ds.length := by omega
      obtain ⟨xo, hxo, _, io⟩ := ix_mem (ds := ds) (r := (i : Int)) (by omega) (by omega)
      obtain ⟨xj, hxj, _, ij⟩ := ix_mem (ds := ds) (r := (j : Int)) (by omega) (by omega)
      have N1 : ixN ds.length (j : Int) = some j := by simp [ixN, hj]
      have N2 : ixN ds.length (i : Int) = some i := by simp [ixN, hi]
      have hz : frz (.lst (((ds.map T.leaf).set j (.leaf xo)).set i (.leaf xj))) = .list ((ds.set j xo).set i xj) := by
        rw [← frz_lvs, List.map_set, List.map_set]
      refine fin (.leaf (.tuple ((ds.set j xo).set i xj))) t4 _ (by rw [step (c := sp_r3) rfl s3, step (c := sp_r4) rfl s4, step (c := sp_r5) rfl s5]; simp [-frz_lst, sp_r6, sp_s6, evSs, evS, evC, evCs, evO, evTg, evTgs, tgN, Cop.d, Bop.d, Bif.d, hd', lens, k4, maskN, listD, io, ij, N1, N2, hz]; rfl) (by simp) (f4.mono (by omega)) ?_
      rw [frz_leaf]
      have z1 := bulkAll_set (x := xo) ds j
      have z2 := bulkAll_set (x := xj) (ds.set j xo) i
      have z3 := bulkAll_mem hxo
      have z4 := bulkAll_mem hxj
      refine dt_tup (fun x hx => ?_) (by omega)
      rcases List.mem_or_eq_of_mem_set hx with hx | rfl
      · rcases List.mem_or_eq_of_mem_set hx with hx | rfl
        · exact up x hx
        · exact up _ hxo
      · exact up _ hxj
    have s6 : evS V sp_s6 [some t3, some (.leaf (.tuple ds)), some (.leaf (.list menu)), some (.leaf (.int w)), some (.leaf (.int j)), none, none] = .ok .nx [some t3, some (.leaf (.tuple ds)), some (.leaf (.list menu)), some (.leaf (.int w)), some (.leaf (.int j)), none, none] := by
      simp [sp_s6, evSs, evS, evC, evCs, Cop.d, h4]
    by_cases h5 : w = 5
    · subst h5
      refine fin (.lst (ds.map .leaf)) t3 _ (by rw [step (c := sp_r3) rfl s3, step (c := sp_r4) rfl s4, step (c := sp_r5) rfl s5, step (c := sp_r6) rfl s6]; simp [sp_r7, sp_s7, evSs, evS, evC, evCs, evO, Cop.d, Bop.d, Bif.d, listD]; rfl) (by simp) (f3.mono (by omega)) ?_
      rw [frz_lvs]
      exact dt_lst (fun x hx => up x hx) (by omega)
    have s7 : evS V sp_s7 [some t3, some (.leaf (.tuple ds)), some (.leaf (.list menu)), some (.leaf (.int w)), some (.leaf (.int j)), none, none] = .ok .nx [some t3, some (.leaf (.tuple ds)), some (.leaf (.list menu)), some (.leaf (.int w)), some (.leaf (.int j)), none, none] := by
      simp [sp_s7, evSs, evS, evC, evCs, Cop.d, h5]
    obtain ⟨x6, hx6, _, i6⟩ := ix_mem (ds := ds) (r := (j : Int)) (by omega) (by omega)
    have hb6 := bulkAll_mem hx6
    obtain ⟨tr, t6, f6, p6, k6⟩ := ih cells (k + 2) t3 n' x6.bulk m0 x6 menu (by omega) (by omega) (by omega) hm0 (by omega) f3 ⟨hit x6 hx6, Nat.le_refl _⟩ hm
    have e6 : x6 = xj0 := by
      have N1 : ixN ds.length (j : Int) = some j := by simp [ixN, hj]
      have := i6
      simp [ixD, L2.atI, N1, hj0] at this
      exact this.symm
    have A1 := tup_add (a := ds.take j) (b := [frz tr]) (by simp; omega)
    have A2 := tup_add (a := ds.take j ++ [frz tr]) (b := ds.drop (j + 1)) (by rw [List.length_append]; simp; omega)
    simp only [List.append_assoc, List.singleton_append] at A2
    have hfm := frz_mkTup [tr]
    simp only [List.map_cons, List.map_nil] at hfm
    refine fin (.leaf (.tuple (ds.take j ++ frz tr :: ds.drop (j + 1)))) t6 _ (by rw [step (c := sp_r3) rfl s3, step (c := sp_r4) rfl s4, step (c := sp_r5) rfl s5, step (c := sp_r6) rfl s6, step (c := sp_r7) rfl s7]; simp [sp_r8, sp_s8, sp_r9, evSs, evS, evC, evCs, evO, Cop.d, Bop.d, Bif.d, c1, c4, hs', lens, i6, k6, maskN, hfm, A1, A2]; rfl) (by simp) (f6.mono (by omega)) ?_
    rw [frz_leaf]
    have p6b := p6.blk
    subst e6
    refine dt_tup (fun x hx => ?_) (by rw [bulkAll_append]; simp only [PyData.bulkAll]; omega)
    rcases List.mem_append.mp hx with hx | hx
    · exact up x (m1 x hx)
    · rcases List.mem_cons.mp hx with rfl | hx
      · exact p6.lv
      · exact up x (m4 x hx)
  · have hB : evS V sp_s1 [some t1, some (.leaf d), some (.leaf (.list menu)), some (.leaf (.int w)), none, none, none] = .ok (.rt (.leaf x2)) [some t2, some (.leaf d), some (.leaf (.list menu)), some (.leaf (.int w)), none, none, none] := by
      cases d with
      | tuple ds =>
        have hsh : SeqAt.shaped (.tuple ds) = true := Fine.shaped (Dt.big (hp.mono (by omega) (by omega)))
        have q1 := eq_tup_nil hsh
        by_cases h0 : ds = []
        · subst h0
          simp only [List.isEmpty_nil] at q1
          simp [sp_s1, evSs, evS, evC, evCs, Cop.d, Bif.d, isiB, mkTup, q1, hd', lens, k2, maskN, i2]
        · have hne' : ds.isEmpty = false := by simpa using h0
          have hw : w = 0 := Classical.byContradiction fun z => hA ⟨⟨ds, rfl, h0⟩, z⟩
          subst hw
          rw [hne'] at q1
          simp [sp_s1, evSs, evS, evC, evCs, Cop.d, Bif.d, isiB, mkTup, q1, hd', lens, k2, maskN, i2]
      | _ => simp [sp_s1, evSs, evS, evC, evCs, Cop.d, Bif.d, isiB, hd', lens, k2, maskN, i2]
    refine ⟨.leaf x2, t2, f2.mono (by omega), by rw [frz_leaf]; exact (hm.2.2 x2 hx2).mono (by omega) (by omega), run_lent3 (e' := [some (.leaf d), some (.leaf (.list menu)), some (.leaf (.int w)), none, none, none]) ?_ (by simp)⟩
    rw [sp_eq, step (c := sp_r0) rfl g0]
    show (gSeq (evS V sp_s1) (evSs V sp_r2)) _ = _
    unfold gSeq bnd
    rw [hB]
    rfl
theorem spoil_all {W : Wd} {Fd : FSem} (hd : W.fn "_law_draw" = some ⟨2, [0], Fd⟩) (sd : SpDraw Fd) : ∀ m, SpSpoil m (fSpoil W m)
  | 0 => fun _ _ _ _ _ _ _ _ h => absurd h (by omega)
  | m + 1 => spoil_step hd sd m (spoil_all hd sd m)
end Fc

namespace IL
open PySem PySem.Spec PyProof.Rows L2
theorem ev_comp' {W : Wd} {vs : List Nat} {tg : Tg} {it : It2} {t : Co} {el : C} : evC W (.comp vs tg it t el) = bnd (evI W it) fun ds => gLc vs (evTg W tg) (evCond W t) (fz (evC W el)) ds [] := by simp only [evC]
theorem comp_ok {W : Wd} {vs : List Nat} {tg : Tg} {it : It2} {t : Co} {el : C} {e e0 : En} {ds : List D} (p : D → Bool) (g : D → D) (Inv : En → Prop) (hI : evI W it e = .ok ds e0) (h0 : Inv e0) (hm : ds.length ≤ most)
    (st : ∀ d e, d ∈ ds → Inv e → ∃ e1, evTg W tg d (wipeE e vs) = .ok () e1 ∧ ∃ e2, evCond W t e1 = .ok (p d) e2 ∧ (p d = true → ∃ e3, fz (evC W el) e2 = .ok (g d) e3 ∧ Inv e3) ∧ (p d = false → Inv e2)) :
    ∃ e', evC W (.comp vs tg it t el) e = .ok (.lst (((ds.filter p).map g).map .leaf)) (wipeE e' vs) ∧ Inv e' := by
  obtain ⟨e', h1, h2⟩ := gLc_filter (vs := vs) (bd := evTg W tg) (tt := evCond W t) (el := fz (evC W el)) p g Inv ds [] e0 (by simpa using hm) h0 st
  refine ⟨e', ?_, h2⟩
  rw [ev_comp', ap_bnd, hI]
  exact h1
@[simp] theorem ap_itr' (f : M D) : gItr f = bnd f fun d => opt (seqD d) := rfl
@[simp] theorem seq_tup' (ds : List D) : seqD (.tuple ds) = some ds := rfl
@[simp] theorem seq_lst' (ds : List D) : seqD (.list ds) = some ds := rfl
@[simp] theorem filter_true {α : Type} (ds : List α) : ds.filter (fun _ => true) = ds := List.filter_eq_self.mpr fun _ _ => rfl
/-- [f(one) for one in thing] -/
theorem comp2 {W : Wd} {f : Str} {F : FSem} (hf : W.fn f = some ⟨1, [], F⟩) (g : D → D) {ds : List D} (hs : ∀ d ∈ ds, F [.leaf d] = some (.leaf (g d), [none])) (hm : ds.length ≤ most) (y : Option T) :
    evC W (.comp [1] (.nm 1) (.seq (.var 0)) .no (.call f (.val (.var 1) .nil))) [some (.leaf (.tuple ds)), y] = .ok (.lst ((ds.map g).map .leaf)) [some (.leaf (.tuple ds)), none] := by
  obtain ⟨e', h1, y', rfl⟩ := comp_ok (W := W) (vs := [1]) (tg := .nm 1) (it := .seq (.var 0)) (t := .no) (el := .call f (.val (.var 1) .nil)) (e := [some (.leaf (.tuple ds)), y]) (ds := ds) (fun _ => true) g (fun e => ∃ y, e = [some (.leaf (.tuple ds)), y]) (e0 := [some (.leaf (.tuple ds)), y]) (by simp [evI, evC]) ⟨y, rfl⟩ hm (by
    rintro d e hd ⟨y, rfl⟩
    refine ⟨[some (.leaf (.tuple ds)), some (.leaf d)], by simp [evTg, wipeE], _, by simp [evCond]; rfl, fun _ => ⟨[some (.leaf (.tuple ds)), some (.leaf d)], ?_, ⟨_, rfl⟩⟩, fun h => by cases h⟩
    simp [evC, evCs, hf, lens, hs d hd])
  rw [h1]
  simp [wipeE]
theorem bools_map {α : Type} (p : α → Bool) : ∀ ds : List α, boolsD (ds.map fun d => PyData.bool (p d)) = some (ds.map p)
  | [] => rfl
  | d :: ds => by simp [boolsD, bools_map p ds]
theorem all_bools {α : Type} (p : α → Bool) (ds : List α) : allD [.list (ds.map fun d => PyData.bool (p d))] = some (.leaf (.bool (ds.all p))) := by
  simp only [allD, bools_map, Option.map_some]
  congr 3
  simp [List.all_map, Function.comp_def]
/-- a loop over things all of which must pass -/
theorem gFor_all {bd : D → M Unit} {b : M Fl} (p : D → Bool) (Inv : List D → En → Prop) (r : T) : ∀ (ds pre : List D) (e : En), Inv pre e →
    (∀ pre1 d e, d ∈ ds → pre1.length < pre.length + ds.length → Inv pre1 e → ∃ e', (p d = true → (bnd (bd d) fun _ => b) e = .ok .nx e' ∧ Inv (pre1 ++ [d]) e') ∧ (p d = false → (bnd (bd d) fun _ => b) e = .ok (.rt r) e')) →
    ∃ e', (ds.all p = true → gFor bd b ds e = .ok .nx e' ∧ Inv (pre ++ ds) e') ∧ (ds.all p = false → gFor bd b ds e = .ok (.rt r) e')
  | [], pre, e, h, _ => ⟨e, fun _ => ⟨rfl, by simpa using h⟩, fun h => by simp at h⟩
  | d :: ds, pre, e, h, st => by
    obtain ⟨e1, h1, h2⟩ := st pre d e List.mem_cons_self (by simp) h
    cases hp : p d with
    | false =>
      refine ⟨e1, fun h => by simp [hp] at h, fun _ => ?_⟩
      have h3 := h2 hp
      unfold gFor
      unfold bnd at h3 ⊢
      split at h3
      · have q2 : b _ = .ok (.rt r) e1 := h3
        simp only [q2]; rfl
      · cases h3
      · cases h3
    | true =>
      obtain ⟨h3, i3⟩ := h1 hp
      obtain ⟨e2, k1, k2⟩ := gFor_all p Inv r ds (pre ++ [d]) e1 i3 fun pre1 x e hx hl hi => st pre1 x e (List.mem_cons_of_mem _ hx) (by simp at hl ⊢; omega) hi
      have go : ∀ o, gFor bd b ds e1 = o → gFor bd b (d :: ds) e = o := by
        intro o ho
        conv => lhs; unfold gFor
        unfold bnd at h3 ⊢
        split at h3
        · rename_i a e3 q
          have q2 : b e3 = .ok .nx e1 := h3
          simp only [q2, ho]
        · cases h3
        · cases h3
      refine ⟨e2, fun h => ?_, fun h => ?_⟩
      · have := k1 (by simpa [hp] using h)
        exact ⟨go _ this.1, by simpa using this.2⟩
      · exact go _ (k2 (by simpa [hp] using h))
end IL

namespace IL
open PySem PySem.Spec PyProof.Rows L2
theorem lst_add {a b : List D} (h : a.length + b.length ≤ 100000) : addD (.list a) (.list b) = some (.lst ((a ++ b).map .leaf)) := by
  have : a.length + b.length ≤ most := h
  simp [addD, orr, int2, strCat, tupCat, lstCat, this]
@[simp] theorem leaves_lst (ts r : List T) : leaves (.lst ts :: r) = none := rfl
end IL
namespace Fc
open PySem PySem.Spec PyProof.Rows L2 IL
def letB (c : Nat) : Bool := decide (97 ≤ c) && decide (c ≤ 122)
def wordB : D → Bool
  | .str s => (decide (1 ≤ s.length) && decide (s.length ≤ 8)) && s.cps.toList.all letB
  | _ => false
def lettersS : Str := "abcdefghijklmnopqrstuvwxyz"
theorem in_letters (c : Nat) : inD (.str ⟨#[c]⟩) (.str lettersS) = some (.leaf (.bool (letB c))) := by
  have e : lettersS.cps.toList = List.range' 97 26 := by decide +kernel
  show bT (some (decide (c ∈ lettersS.cps.toList))) = _
  rw [e]
  show some (T.leaf (.bool _)) = _
  congr 3
  rw [Bool.eq_iff_iff]
  simp only [letB, decide_eq_true_eq, Bool.and_eq_true, List.mem_range'_1]
  omega
theorem le_a (c : Nat) : leD (.str "a") (.str ⟨#[c]⟩) = some (.leaf (.bool (decide (97 ≤ c)))) := by
  show some (T.leaf (.bool (!decide (([c] : List Nat) < [97])))) = _
  congr 3
  rw [Bool.eq_iff_iff]
  simp [List.cons_lt_cons_iff]
theorem le_z (c : Nat) : leD (.str ⟨#[c]⟩) (.str "z") = some (.leaf (.bool (decide (c ≤ 122)))) := by
  show some (T.leaf (.bool (!decide (([122] : List Nat) < [c])))) = _
  congr 3
  rw [Bool.eq_iff_iff]
  simp [List.cons_lt_cons_iff]
@[simp] theorem seq_str (z : Str) : seqD (.str z) = some (IL.signs z) := rfl
def cOf : D → Nat
  | .str s => s.cps.toList.headD 0
  | _ => 0
theorem sign_shape {z : Str} {d : D} (h : d ∈ IL.signs z) : ∃ c, c ∈ z.cps.toList ∧ d = .str ⟨#[c]⟩ ∧ cOf d = c := by
  unfold IL.signs at h
  obtain ⟨c, h1, rfl⟩ := List.mem_map.mp h
  exact ⟨c, h1, rfl, rfl⟩
theorem all_signs (z : Str) (p : Nat → Bool) : ((IL.signs z).all fun d => p (cOf d)) = z.cps.toList.all p := by
  unfold IL.signs
  rw [List.all_map]
  rfl
theorem signs_len (z : Str) : (IL.signs z).length = z.length := by simp [IL.signs, Str.length]
theorem str_dt {z : Str} (h : Pd (.str z)) : z.length ≤ 16000 ∧ (PyData.str z).canLay0 = true := by
  refine ⟨?_, h.fine.lay⟩
  have := h.blk
  simpa [PyData.bulk, Str.length] using this
theorem len_str {z : Str} (h : z.length ≤ 16000) : lenD [.str z] = some (.leaf (.int z.length)) := if_pos (Nat.le_trans h (by decide))
theorem run_is_word {W : Wd} (wl : W.glb "LETTERS" = some (.str lettersS)) (wm : W.glb "MOST_LETTERS" = some (.int 8)) : SpB wordB (runM n_is_word.length 1 [] (evSs W c_is_word)) := by
  intro d hd
  refine run_pure ?_
  cases d with
  | str z =>
    obtain ⟨hl, _⟩ := str_dt hd
    have hlen := len_str hl
    have hc : ∀ y, evC W (.comp [1] (.nm 1) (.seq (.var 0)) .no (.cmp .«in» (.var 1) (.glb "LETTERS"))) [some (.leaf (.str z)), y] = .ok (.lst (((IL.signs z).map fun d => PyData.bool (letB (cOf d))).map .leaf)) [some (.leaf (.str z)), none] := by
      intro y
      obtain ⟨e', h1, y', rfl⟩ := comp_ok (W := W) (vs := [1]) (tg := .nm 1) (it := .seq (.var 0)) (t := .no) (el := .cmp .«in» (.var 1) (.glb "LETTERS")) (e := [some (.leaf (.str z)), y]) (ds := IL.signs z) (fun _ => true) (fun d => .bool (letB (cOf d))) (fun e => ∃ y, e = [some (.leaf (.str z)), y]) (e0 := [some (.leaf (.str z)), y]) (by simp [evI, evC]) ⟨y, rfl⟩ (by rw [signs_len]; exact Nat.le_trans hl (by decide)) (by
        rintro d e hd ⟨y, rfl⟩
        obtain ⟨c, _, rfl, hc⟩ := sign_shape hd
        have hi := in_letters c
        refine ⟨[some (.leaf (.str z)), some (.leaf (.str ⟨#[c]⟩))], by simp [evTg, wipeE], _, by simp [evCond]; rfl, fun _ => ⟨[some (.leaf (.str z)), some (.leaf (.str ⟨#[c]⟩))], ?_, ⟨_, rfl⟩⟩, fun h => by cases h⟩
        rw [hc]
        generalize lettersS = LS at *
        simp [evC, evCs, Cop.d, gGlb, wl, hi])
      rw [h1]
      simp [wipeE]
    have ha := all_bools (fun d => letB (cOf d)) (IL.signs z)
    rw [all_signs z letB] at ha
    have hz : frz (.lst (((IL.signs z).map fun d => PyData.bool (letB (cOf d))).map .leaf)) = .list ((IL.signs z).map fun d => PyData.bool (letB (cOf d))) := frz_lvs _
    unfold c_is_word
    generalize IL.C.comp [1] (.nm 1) (.seq (.var 0)) .no (.cmp .«in» (.var 1) (.glb "LETTERS")) = cc at *
    generalize T.lst (((IL.signs z).map fun d => PyData.bool (letB (cOf d))).map .leaf) = tt at *
    generalize ((IL.signs z).map fun d => PyData.bool (letB (cOf d))) = bl at *
    have e0 : wordB (.str z) = ((decide (1 ≤ z.length) && decide (z.length ≤ 8)) && z.cps.toList.all letB) := rfl
    rw [e0]
    generalize z.cps.toList.all letB = B at *
    obtain ⟨n, hn⟩ : ∃ n : Int, n = (z.length : Int) := ⟨_, rfl⟩
    rw [← hn] at hlen
    by_cases h1 : 1 ≤ n
    · by_cases h8 : n ≤ 8
      · have e1 : 1 ≤ z.length := by omega
        have e2 : z.length ≤ 8 := by omega
        rw [decide_eq_true e1, decide_eq_true e2]
        simp [tell, evSs, evS, evC, evCs, Cop.d, Bif.d, n_is_word, isiB, gGlb, wm, hlen, h1, h8, hc, hz, ha]
      · have e2 : ¬ z.length ≤ 8 := by omega
        rw [decide_eq_false e2]
        simp [tell, evSs, evS, evC, evCs, Cop.d, Bif.d, n_is_word, isiB, gGlb, wm, hlen, h1, h8]
    · have e1 : ¬ 1 ≤ z.length := by omega
      rw [decide_eq_false e1]
      simp [tell, evSs, evS, evC, evCs, Cop.d, Bif.d, n_is_word, isiB, gGlb, wm, hlen, h1]
  | _ => simp [tell, c_is_word, evSs, evS, evC, evCs, Cop.d, Bif.d, n_is_word, isiB, wordB]
theorem eq_lst {xs : List D} (h : SeqAt.shaped (.list xs) = true) : eqD (.list xs) (.list []) = some (.leaf (.bool xs.isEmpty)) := by
  have h2 : SeqAt.shaped (.list []) = true := by simpa using shaped_ints []
  cases xs with
  | nil => simp [eqD, eqB, scalEq, bT, h2, PyData.eqv, PyData.eqvAll]
  | cons c r =>
    simp only [eqD, eqB, scalEq, h, h2, bT]
    simp [PyData.eqv, PyData.eqvAll]
theorem strs_shaped : ∀ (xs : List D), (∀ d ∈ xs, ∃ c : Nat, d = .str ⟨#[c]⟩ ∧ (PyData.str ⟨#[c]⟩).canLay0 = true) → PyData.canLayAll0 xs = true ∧ PyData.depthAll xs = 0
  | [], _ => ⟨by simp [PyData.canLayAll0], by simp [PyData.depthAll]⟩
  | d :: xs, h => by
    obtain ⟨h1, h2⟩ := strs_shaped xs fun x hx => h x (List.mem_cons_of_mem _ hx)
    obtain ⟨c, rfl, hc⟩ := h d List.mem_cons_self
    exact ⟨by simp [PyData.canLayAll0, h1, hc], by simp [PyData.depthAll, PyData.depth, h2]⟩
theorem run_law_is_word {W : Wd} : SpB wordB (runM n__law_is_word.length 1 [] (evSs W c__law_is_word)) := by
  intro d hd
  refine run_pure ?_
  cases d with
  | str z =>
    obtain ⟨hl, hlay⟩ := str_dt hd
    have hlen := len_str hl
    have hc : ∀ y, evC W (.comp [1] (.nm 1) (.seq (.var 0)) (.so (.not (.chain .le .le (.str "a") (.var 1) (.str "z")))) (.var 1)) [some (.leaf (.str z)), y] = .ok (.lst (((IL.signs z).filter fun d => !letB (cOf d)).map .leaf)) [some (.leaf (.str z)), none] := by
      intro y
      obtain ⟨e', h1, y', rfl⟩ := comp_ok (W := W) (vs := [1]) (tg := .nm 1) (it := .seq (.var 0)) (t := .so (.not (.chain .le .le (.str "a") (.var 1) (.str "z")))) (el := .var 1) (e := [some (.leaf (.str z)), y]) (ds := IL.signs z) (fun d => !letB (cOf d)) id (fun e => ∃ y, e = [some (.leaf (.str z)), y]) (e0 := [some (.leaf (.str z)), y]) (by simp [evI, evC]) ⟨y, rfl⟩ (by rw [signs_len]; exact Nat.le_trans hl (by decide)) (by
        rintro d e hd ⟨y, rfl⟩
        obtain ⟨c, _, rfl, hc⟩ := sign_shape hd
        have h1 := le_a c
        have h2 := le_z c
        refine ⟨[some (.leaf (.str z)), some (.leaf (.str ⟨#[c]⟩))], by simp [evTg, wipeE], [some (.leaf (.str z)), some (.leaf (.str ⟨#[c]⟩))], ?_, fun _ => ⟨[some (.leaf (.str z)), some (.leaf (.str ⟨#[c]⟩))], by simp [evC], ⟨_, rfl⟩⟩, fun _ => ⟨_, rfl⟩⟩
        rw [hc]
        unfold letB
        generalize (⟨#[c]⟩ : Str) = sc at *
        by_cases q : 97 ≤ c
        · rw [decide_eq_true q] at h1 ⊢
          simp [evCond, evC, evCs, Cop.d, h1, h2]
        · rw [decide_eq_false q] at h1 ⊢
          simp [evCond, evC, evCs, Cop.d, h1])
      rw [h1]
      simp [wipeE]
    have hsub : ∀ d ∈ (IL.signs z).filter fun d => !letB (cOf d), ∃ c : Nat, d = .str ⟨#[c]⟩ ∧ (PyData.str ⟨#[c]⟩).canLay0 = true := by
      intro d hd
      obtain ⟨c, h1, h2, _⟩ := sign_shape (List.mem_filter.mp hd).1
      refine ⟨c, h2, ?_⟩
      have h3 : (z.cps.all fun c => decide (c < 0x110000)) = true := by simpa only [PyData.canLay0, PyData.strOk] using hlay
      have h4 := Array.all_eq_true_iff_forall_mem.mp h3 c (by simpa using h1)
      simpa [PyData.canLay0, PyData.strOk] using h4
    have hsh : SeqAt.shaped (.list ((IL.signs z).filter fun d => !letB (cOf d))) = true := by
      obtain ⟨h1, h2⟩ := strs_shaped _ hsub
      simp [SeqAt.shaped, PyData.canLay0, PyData.depth, h1, h2]
    have q3 := eq_lst hsh
    have q4 : ((IL.signs z).filter fun d => !letB (cOf d)).isEmpty = z.cps.toList.all letB := by
      rw [← all_signs z letB, Bool.eq_iff_iff]
      simp
    rw [q4] at q3
    have hz : frz (.lst (((IL.signs z).filter fun d => !letB (cOf d)).map .leaf)) = .list ((IL.signs z).filter fun d => !letB (cOf d)) := frz_lvs _
    unfold c__law_is_word
    clear hsub hsh q4
    generalize IL.C.comp [1] (.nm 1) (.seq (.var 0)) (.so (.not (.chain .le .le (.str "a") (.var 1) (.str "z")))) (.var 1) = cc at *
    generalize T.lst (((IL.signs z).filter fun d => !letB (cOf d)).map .leaf) = tt at *
    generalize ((IL.signs z).filter fun d => !letB (cOf d)) = bl at *
    have e0 : wordB (.str z) = ((decide (1 ≤ z.length) && decide (z.length ≤ 8)) && z.cps.toList.all letB) := rfl
    rw [e0]
    generalize z.cps.toList.all letB = B at *
    obtain ⟨n, hn⟩ : ∃ n : Int, n = (z.length : Int) := ⟨_, rfl⟩
    rw [← hn] at hlen
    by_cases h1 : 0 < n
    · by_cases h8 : n < 9
      · have e1 : 1 ≤ z.length := by omega
        have e2 : z.length ≤ 8 := by omega
        rw [decide_eq_true e1, decide_eq_true e2]
        simp [tell, evSs, evS, evC, evCs, Cop.d, Bif.d, n__law_is_word, isiB, hlen, h1, h8, hc, hz, q3]
      · have e2 : ¬ z.length ≤ 8 := by omega
        rw [decide_eq_false e2]
        simp [tell, evSs, evS, evC, evCs, Cop.d, Bif.d, n__law_is_word, isiB, hlen, h1, h8]
    · have e1 : ¬ 1 ≤ z.length := by omega
      rw [decide_eq_false e1]
      simp [tell, evSs, evS, evC, evCs, Cop.d, Bif.d, n__law_is_word, isiB, hlen, h1]
  | _ => simp [tell, c__law_is_word, evSs, evS, evC, evCs, Cop.d, Bif.d, n__law_is_word, isiB, wordB]
end Fc

namespace Fc
open PySem PySem.Spec PyProof.Rows L2 IL
abbrev asc (s : Str) : Prop := ∀ c ∈ s.cps.toList, c < 128
theorem app_toList (x y : Str) : (x ++ y).cps.toList = x.cps.toList ++ y.cps.toList := Array.toList_append
theorem join_asc : ∀ ys : List Str, (∀ y ∈ ys, asc y ∧ y.length = 1) → asc (Str.join "" ys) ∧ (Str.join "" ys).length = ys.length
  | [], _ => ⟨fun c hc => absurd (show c ∈ ([] : List Nat) from hc) List.not_mem_nil, by decide⟩
  | [x], h => by
    have := h x List.mem_cons_self
    exact ⟨this.1, this.2⟩
  | x :: z :: r, h => by
    obtain ⟨h1, h2⟩ := join_asc (z :: r) fun y hy => h y (List.mem_cons_of_mem _ hy)
    have hx := h x List.mem_cons_self
    have e : (Str.join "" (x :: z :: r)).cps.toList = x.cps.toList ++ (Str.join "" (z :: r)).cps.toList := by
      show (x ++ "" ++ Str.join "" (z :: r)).cps.toList = _
      rw [app_toList, app_toList]
      have : (Str.ofString "").cps.toList = [] := by decide
      rw [this, List.append_nil]
    refine ⟨fun c hc => ?_, ?_⟩
    · rw [e] at hc
      rcases List.mem_append.mp hc with hc | hc
      · exact hx.1 c hc
      · exact h1 c hc
    · have e2 : (Str.join "" (x :: z :: r)).length = (Str.join "" (x :: z :: r)).cps.toList.length := by simp [Str.length]
      have e3 : (Str.join "" (z :: r)).length = (Str.join "" (z :: r)).cps.toList.length := by simp [Str.length]
      have e4 : x.length = x.cps.toList.length := by simp [Str.length]
      rw [e2, e, List.length_append, ← e3, ← e4, h2, hx.2]
      simp only [List.length_cons]
      omega
theorem join_empty (ys : List Str) : Txt.join "" ys = Str.join "" ys := TL.join_eq "" ys
theorem leaf_asc {s : Str} (h : asc s) : leafOk (.str s) = true := by
  simp only [leafOk, Bool.and_eq_true]
  refine ⟨⟨?_, by simp [PyData.showable]⟩, ?_⟩
  · simp only [PyData.canLay0, PyData.strOk]
    rw [Array.all_eq_true_iff_forall_mem]
    intro c hc
    have := h c (by simpa using hc)
    simp
    omega
  · simp only [PyData.leavesShort]
    rw [List.all_eq_true]
    intro c hc
    have := h c hc
    simp
    omega
theorem strAt_ok {z : Str} {r : Int} (h0 : 0 ≤ r) (h1 : r < z.length) (hz : z.length ≤ 1000) : ∃ c ∈ z.cps.toList, ixD (.str z) (.int r) = some (.str ⟨#[c]⟩) := by
  obtain ⟨j, rfl⟩ := Int.eq_ofNat_of_zero_le h0
  have h2 : j < z.cps.toList.length := by simp [Str.length] at h1 ⊢; omega
  refine ⟨z.cps.toList[j], List.getElem_mem h2, ?_⟩
  have hm : z.length ≤ most := Nat.le_trans hz (by decide)
  have hat : L2.atI z.cps.toList (j : Int) = some z.cps.toList[j] := by
    have h4 : ixN z.cps.toList.length (j : Int) = some j := by
      unfold ixN
      rw [if_pos (by omega), if_pos (by omega)]
      rfl
    unfold L2.atI
    rw [h4]
    exact List.getElem?_eq_getElem h2
  show (if z.length ≤ most then (L2.atI z.cps.toList (j : Int)).map fun c => PyData.str ⟨#[c]⟩ else none) = _
  rw [if_pos hm, hat]
  rfl
def SpText (F : FSem) : Prop := ∀ (cells : List Int) (k : Nat) (t : T), k + 100 < 2 ^ 29 → FeedOk cells k t → ∃ (s : Str) (t' : T), asc s ∧ s.length ≤ 9 ∧ FeedOk cells (k + 11) t' ∧ F [t] = some (.leaf (.str s), [some t'])
theorem rng_any {n : Int} (h0 : 0 ≤ n) (h : n < 10) : ∃ N : Nat, N < 10 ∧ n = N ∧ rng1 [.int n] = some (rangeL 0 N) := by
  obtain ⟨N, rfl⟩ := Int.eq_ofNat_of_zero_le h0
  have h2 : ∀ m : Fin 10, far ((m.val : Nat) : Int) = true := by decide
  have h3 : far (N : Int) = true := h2 ⟨N, by omega⟩
  refine ⟨N, by omega, rfl, ?_⟩
  unfold rng1
  simp only
  rw [h3]
  rfl
theorem strs_of : ∀ xs : List D, (∀ x ∈ xs, ∃ s, x = .str s ∧ asc s ∧ s.length = 1) → ∃ ys, strsD xs = some ys ∧ ys.length = xs.length ∧ ∀ y ∈ ys, asc y ∧ y.length = 1
  | [], _ => ⟨[], rfl, rfl, fun _ h => nomatch h⟩
  | x :: xs, h => by
    obtain ⟨ys, h1, h2, h3⟩ := strs_of xs fun z hz => h z (List.mem_cons_of_mem _ hz)
    obtain ⟨s, rfl, hs⟩ := h x List.mem_cons_self
    refine ⟨s :: ys, by simp [strsD, h1], by simp [h2], fun y hy => ?_⟩
    rcases List.mem_cons.mp hy with rfl | hy
    · exact hs
    · exact h3 y hy
theorem join_D {xs : List D} (hl : xs.length ≤ 9) (h : ∀ x ∈ xs, ∃ s, x = .str s ∧ asc s ∧ s.length = 1) : ∃ s, joinD (.str "") (.list xs) = some (.leaf (.str s)) ∧ asc s ∧ s.length ≤ 9 := by
  obtain ⟨ys, h1, h2, h3⟩ := strs_of xs h
  obtain ⟨h4, h5⟩ := join_asc ys h3
  refine ⟨Txt.join "" ys, ?_, by rw [join_empty]; exact h4, by rw [join_empty, h5, h2]; exact hl⟩
  have hs : (ys.map (·.length)).sum = ys.length := by
    clear h1 h2 h4 h5
    induction ys with
    | nil => rfl
    | cons y ys ih =>
      have := (h3 y List.mem_cons_self).2
      rw [List.map_cons, List.sum_cons, ih fun z hz => h3 z (List.mem_cons_of_mem _ hz), this, List.length_cons]
      omega
  have he : (Str.ofString "").length = 0 := by decide
  unfold joinD
  simp only [h1, Option.bind_some]
  rw [if_pos (by rw [hs, he, h2]; omega)]
theorem run_text {W : Wd} {Fd : FSem} (hd : W.fn "_law_draw" = some ⟨2, [0], Fd⟩) (sd : SpDraw Fd) : SpText (runM n__law_text.length 1 [0] (evSs W c__law_text)) := by
  intro cells k t hk ht
  obtain ⟨r1, t1, a1, b1, f1, k1⟩ := sd cells k t 8 (by omega) ht (by decide) (by decide)
  obtain ⟨x, hx, ix, _⟩ := ix_mem (ds := [.str "a", .str "A", .str " ", .str "0", .str "`", .str "{", .str "z", .str "-"]) (r := r1) a1 (by simpa using b1)
  obtain ⟨xs, rfl, hxa, hxl⟩ : ∃ s : Str, x = .str s ∧ asc s ∧ s.length = 1 := by
    simp only [List.mem_cons, List.not_mem_nil, or_false] at hx
    rcases hx with rfl | rfl | rfl | rfl | rfl | rfl | rfl | rfl <;> exact ⟨_, rfl, by decide +kernel, by decide +kernel⟩
  have hs0 : (Str.ofString "abcmyzaz").length = 8 := by decide +kernel
  have ha0 : asc "abcmyzaz" := by decide +kernel
  have A : addD (.str "abcmyzaz") (.str xs) = some (.leaf (.str ("abcmyzaz" ++ xs))) := by
    have : (Str.ofString "abcmyzaz").length + xs.length ≤ most := by rw [hs0, hxl]; decide
    simp only [addD, orr, int2, strCat, if_pos this]
  have hSl : (Str.ofString "abcmyzaz" ++ xs).length = 9 := by
    have e1 : (Str.ofString "abcmyzaz" ++ xs).length = (Str.ofString "abcmyzaz" ++ xs).cps.toList.length := by simp [Str.length]
    rw [e1, app_toList, List.length_append]
    simp [Str.length] at hs0 hxl ⊢
    omega
  have hSa : asc (Str.ofString "abcmyzaz" ++ xs) := fun c hc => by
    rw [app_toList] at hc
    rcases List.mem_append.mp hc with hc | hc
    · exact ha0 c hc
    · exact hxa c hc
  generalize hSG : (Str.ofString "abcmyzaz" ++ xs) = SG at *
  obtain ⟨n, t2, a2, b2, f2, k2⟩ := sd cells (k + 1) t1 10 (by omega) f1 (by decide) (by decide)
  obtain ⟨N, hN, hnN, hrg⟩ := rng_any a2 b2
  clear hnN
  have g0 : evS W tx_s0 [some t, none, none, none] = .ok .nx [some t1, some (.leaf (.str SG)), none, none] := by
    simp [tx_s0, evS, evC, evCs, Bop.d, hd, lens, maskN, k1, ix, A]
  have g1 : evS W tx_s1 [some t1, some (.leaf (.str SG)), none, none] = .ok .nx [some t2, some (.leaf (.str SG)), some (.leaf (.int n)), none] := by
    simp [tx_s1, evS, evC, evCs, hd, lens, maskN, k2]
  let Inv : Nat → List D → En → Prop := fun i acc e => ∃ (t' : T) (x3 : Option T), FeedOk cells (k + 2 + i) t' ∧ (∀ x ∈ acc, ∃ s, x = PyData.str s ∧ asc s ∧ s.length = 1) ∧ e = [some t', some (.leaf (.str SG)), some (.leaf (.int n)), x3]
  obtain ⟨e', acc, q1, q2, t', y3, f', d', rfl⟩ := gLc_inv (vs := [3]) (bd := evTg W (.nm 3)) (tt := evCond W .no) (el := fz (evC W (.vix 1 (.call "_law_draw" (.lend 0 (.val (.int 9) .nil)))))) Inv (rangeL 0 N) 0 [] [some t2, some (.leaf (.str SG)), some (.leaf (.int n)), none] (by simp [rangeL, most]; omega) ⟨t2, none, f2, (fun _ h => nomatch h), rfl⟩ (by
    rintro i d acc e hi ⟨t3, y3, f3, d3, rfl⟩
    have hil : i < N := by
      have := (List.getElem?_eq_some_iff.mp hi).1
      simpa [rangeL] using this
    obtain ⟨r, t4, a4, b4, f4, k4⟩ := sd cells (k + 2 + (0 + i)) t3 9 (by omega) f3 (by decide) (by decide)
    obtain ⟨c, hc, ic⟩ := strAt_ok (z := SG) (r := r) a4 (by rw [hSl]; exact b4) (by rw [hSl]; decide)
    refine ⟨[some t4, some (.leaf (.str SG)), some (.leaf (.int n)), some (.leaf d)], .str ⟨#[c]⟩, ?_, t4, some (.leaf d), f4.mono (by omega), fun z hz => ?_, rfl⟩
    · simp [evTg, wipeM, wipeE, evCond, evC, evCs, hd, lens, maskN, k4, ic]
    · rcases List.mem_append.mp hz with hz | hz
      · exact d3 z hz
      · simp only [List.mem_cons, List.not_mem_nil, or_false] at hz
        exact ⟨_, hz, fun c' hc' => by
          simp at hc'
          subst hc'
          exact hSa _ hc, rfl⟩)
  have lr : (rangeL 0 N).length = N := by simp [rangeL]
  rw [lr, Nat.zero_add] at f'
  rw [lr] at q2
  have q2 : acc.length ≤ 9 := by simp at q2; omega
  obtain ⟨s, js, sa, sl⟩ := join_D q2 d'
  have hi : evI W (.rng1 (.val (.var 2) .nil)) [some t2, some (.leaf (.str SG)), some (.leaf (.int n)), none] = .ok (rangeL 0 N) [some t2, some (.leaf (.str SG)), some (.leaf (.int n)), none] := by
    simp [evI, gRng, evC, evCs, hrg]
  have hcc : evC W (.comp [3] (.nm 3) (.rng1 (.val (.var 2) .nil)) .no (.vix 1 (.call "_law_draw" (.lend 0 (.val (.int 9) .nil))))) [some t2, some (.leaf (.str SG)), some (.leaf (.int n)), none] = .ok (.lst (acc.map .leaf)) [some t', some (.leaf (.str SG)), some (.leaf (.int n)), none] := by
    rw [ev_comp', ap_bnd, hi]
    exact q1
  have hz : frz (.lst (acc.map .leaf)) = .list acc := frz_lvs _
  clear q1
  refine ⟨s, t', sa, sl, f'.mono (by omega), run_lent1 (e' := [some (.leaf (.str SG)), some (.leaf (.int n)), none]) ?_⟩
  show evSs W c__law_text [some t, none, none, none] = _
  rw [tx_eq, step (c := tx_r0) rfl g0, step (c := tx_r1) rfl g1]
  unfold tx_r2 tx_s2 tx_r3
  generalize IL.C.comp [3] (.nm 3) (.rng1 (.val (.var 2) .nil)) .no (.vix 1 (.call "_law_draw" (.lend 0 (.val (.int 9) .nil)))) = cc at *
  generalize T.lst (acc.map .leaf) = tt at *
  simp [evSs, evS, evC, hcc, hz, js]
end Fc

namespace Fc
open PySem PySem.Spec PyProof.Rows L2 IL
theorem leaf_of (s : String) : leafOk (.str (Str.ofString s)) = true := by
  have hc : ∀ c ∈ (Str.ofString s).cps.toList, c < 0x110000 := by
    intro c hc
    rw [Str.ofString_eq_toList] at hc
    simp only at hc
    obtain ⟨ch, _, rfl⟩ := List.mem_map.mp hc
    have := ch.valid
    show ch.val.toNat < 1114112
    rcases this with h | h
    · have : ch.val.toNat < 0xd800 := h
      omega
    · exact h.2
  simp only [leafOk, Bool.and_eq_true]
  refine ⟨⟨?_, by simp [PyData.showable]⟩, ?_⟩
  · simp only [PyData.canLay0, PyData.strOk]
    rw [Array.all_eq_true_iff_forall_mem]
    intro c h
    have := hc c (by simpa using h)
    simpa using this
  · simp only [PyData.leavesShort]
    rw [List.all_eq_true]
    intro c h
    have := hc c h
    simp
    omega
theorem shown_len {a : Int} (h : lim 30 a) : (Str.ofString (toString a)).cps.size ≤ 31 := by
  have hl : a.natAbs.log2 < 30 := by
    by_cases h0 : a.natAbs = 0
    · rw [h0]; decide
    · exact (Nat.log2_lt h0).mpr h
  have h1 := int_text_length_le (a := a) (k := 30) (by decide) hl
  have e := PySem.ofString_length (toString a)
  have e2 : (Str.ofString (toString a)).length = (Str.ofString (toString a)).cps.size := rfl
  omega
theorem strOf_ok {a : Int} (h : lim 30 a) : strOfD [.int a] = some (.leaf (.str (Str.ofString (toString a)))) := by
  have hl : a.natAbs.log2 < 1920 := by
    by_cases h0 : a.natAbs = 0
    · rw [h0]; decide
    · exact Nat.lt_of_lt_of_le ((Nat.log2_lt h0).mpr h) (by decide)
  exact if_pos hl
def Things (m : Nat) (t : T) (ds : List D) : Prop := frz t = .list ds ∧ ds.length ≤ m ∧ ∀ x ∈ ds, Pd x
def nearL (one sa : D) (a b P15 P30 P59 : Int) : List D := [one, .tuple [.int (a * 2), .int (b * 2)], .tuple [.int (-a), .int (-b)], .tuple [.int a, .int 0], .tuple [.int 0, .int b], .tuple [.int a, .bool true], .tuple [.bool false, .int b], .tuple [.int a, .int b, .int 1], .tuple [.int a], .list [.int a, .int b], .int a, .tuple [.int (a * 7), .int (b * 7)], .tuple [.int (a + b), .int b], .tuple [sa, .int b], .tuple [.int a, .none], .tuple [.tuple [.int a, .int 1], .int b], .tuple [.int b, .int b], .tuple [.int 0, .int 1], .tuple [.int 0, .int 0], .tuple [.int 0, .int 2], .tuple [.int 1, .int P30], .tuple [.int (P30 + 1), .int P30], .tuple [.int P30, .int P15], .tuple [.int P59, .int 1], .tuple [.int (-1), .int P59]]
def SpNear (F : FSem) : Prop := ∀ a b : Int, lim 21 a → lim 21 b → ∃ tr ds, F [.leaf (.tuple [.int a, .int b])] = some (tr, [none]) ∧ Things 30 tr ds
theorem lv_seq {n : Nat} {ds : List D} (h : ∀ x ∈ ds, Lv n x) : Lv (n + 1) (.tuple ds) := .inr ⟨ds, .inl rfl, h⟩
theorem lv_i {n : Nat} {i : Int} (h : lim 400 i) : Lv n (.int i) := .leaf (decide_eq_true h)
theorem run_near {W : Wd} : SpNear (runM n__law_near.length 1 [] (evSs W c__law_near)) := by
  intro a b la lb
  obtain ⟨P15, e15, h15⟩ : ∃ P, powD (.int 10) (.int 15) = some (.leaf (.int P)) ∧ P = 10 ^ 15 := ⟨_, rfl, by decide⟩
  obtain ⟨P30, e30, h30⟩ : ∃ P, powD (.int 10) (.int 30) = some (.leaf (.int P)) ∧ P = 10 ^ 30 := ⟨_, rfl, by decide⟩
  obtain ⟨P59, e59, h59⟩ : ∃ P, powD (.int 10) (.int 59) = some (.leaf (.int P)) ∧ P = 10 ^ 59 := ⟨_, rfl, by decide⟩
  have l15 : lim 400 P15 := by rw [h15]; decide
  have l30 : lim 399 P30 := by rw [h30]; decide
  have l59 : lim 400 P59 := by rw [h59]; decide
  have l31 : lim 400 (P30 + 1) := lim_add l30 (lim_mono (show lim 1 1 by decide) (by decide))
  clear h15 h30 h59
  have m1 : mulOk a 2 = true := mulOk_lim la (show lim 2 2 by decide) (by decide)
  have m2 : mulOk b 2 = true := mulOk_lim lb (show lim 2 2 by decide) (by decide)
  have m3 : mulOk a 7 = true := mulOk_lim la (show lim 3 7 by decide) (by decide)
  have m4 : mulOk b 7 = true := mulOk_lim lb (show lim 3 7 by decide) (by decide)
  have k1 := strOf_ok (lim_mono la (show 21 ≤ 30 by decide))
  have hsl := shown_len (lim_mono la (show 21 ≤ 30 by decide))
  have hsk := leaf_of (toString a)
  have A : ∀ x y : List D, x.length + y.length ≤ 100000 → addD (.list x) (.list y) = some (.lst ((x ++ y).map .leaf)) := fun x y h => lst_add h
  have dsa : ∀ n, Lv n (.str (Str.ofString (toString a))) := fun n => .leaf hsk
  have bsa : (PyData.str (Str.ofString (toString a))).bulk ≤ 31 := by simpa [PyData.bulk] using hsl
  generalize PyData.str (Str.ofString (toString a)) = sa at *
  obtain ⟨one, ho⟩ : ∃ one, one = PyData.tuple [.int a, .int b] := ⟨_, rfl⟩
  refine ⟨.lst ((nearL one sa a b P15 P30 P59).map .leaf), nearL one sa a b P15 P30 P59, run_pure ?_, frz_lvs _, (by simp [nearL]), ?_⟩
  · have g0 : evS W nr_s0 [some (.leaf (.tuple [.int a, .int b])), none, none, none] = .ok .nx [some (.leaf one), some (.leaf (.int a)), some (.leaf (.int b)), none] := by
      rw [ho]
      simp [nr_s0, evS, evC, evCs, evTg, evTgs, tgN]
    have g1 : evS W nr_s1 [some (.leaf one), some (.leaf (.int a)), some (.leaf (.int b)), none] = .ok .nx [some (.leaf one), some (.leaf (.int a)), some (.leaf (.int b)), some (.lst [.leaf one, .leaf (.tuple [.int (a * 2), .int (b * 2)]), .leaf (.tuple [.int (-a), .int (-b)]), .leaf (.tuple [.int a, .int 0]), .leaf (.tuple [.int 0, .int b]), .leaf (.tuple [.int a, .bool true]), .leaf (.tuple [.bool false, .int b]), .leaf (.tuple [.int a, .int b, .int 1]), .leaf (.tuple [.int a]), .lst [.leaf (.int a), .leaf (.int b)], .leaf (.int a)])] := by
      have mk1 : ∀ d : D, mkTup [.leaf d] = .leaf (.tuple [d]) := fun _ => rfl
      simp [nr_s1, evS, evC, evCs, Bop.d, m1, m2, mk1]
    have g2 : evS W nr_s2 [some (.leaf one), some (.leaf (.int a)), some (.leaf (.int b)), some (.lst [.leaf one, .leaf (.tuple [.int (a * 2), .int (b * 2)]), .leaf (.tuple [.int (-a), .int (-b)]), .leaf (.tuple [.int a, .int 0]), .leaf (.tuple [.int 0, .int b]), .leaf (.tuple [.int a, .bool true]), .leaf (.tuple [.bool false, .int b]), .leaf (.tuple [.int a, .int b, .int 1]), .leaf (.tuple [.int a]), .lst [.leaf (.int a), .leaf (.int b)], .leaf (.int a)])] = .ok .nx [some (.leaf one), some (.leaf (.int a)), some (.leaf (.int b)), some (.lst (((nearL one sa a b P15 P30 P59).take 20).map .leaf))] := by
      simp [nr_s2, evS, evC, evCs, Bop.d, Bif.d, m3, m4, k1, A, nearL]
    show tell (evSs W nr_r0) [some (.leaf (.tuple [.int a, .int b])), none, none, none] = _
    unfold tell
    rw [step (c := nr_r0) rfl g0, step (c := nr_r1) rfl g1, step (c := nr_r2) rfl g2]
    simp [-IL.pow_int, nr_r3, nr_s3, nr_r4, evSs, evS, evC, evCs, Bop.d, e15, e30, e59, A, nearL]
  · intro z hz
    have la' : lim 400 a := lim_mono la (by decide)
    have lb' : lim 400 b := lim_mono lb (by decide)
    have lm2 : ∀ {x y : Int}, lim 21 x → lim 4 y → lim 400 (x * y) := fun h h' => lim_mono (lim_mul h h') (by decide)
    have neg : ∀ {x : Int}, lim 400 x → lim 400 (-x) := fun h => by unfold lim at *; rw [Int.natAbs_neg]; exact h
    have lab : lim 400 (a + b) := lim_mono (lim_add la lb) (by decide)
    have fin : ∀ {d : D}, Lv 3 d → d.bulk ≤ 100 → Pd d := fun h1 h2 => ⟨h1.mono (by omega), by omega⟩
    have p2 : ∀ {x y : D}, Lv 2 x → Lv 2 y → x.bulk + y.bulk ≤ 90 → Pd (.tuple [x, y]) := fun {x y} hx hy hb => fin (lv_seq fun w hw => by
      simp only [List.mem_cons, List.not_mem_nil, or_false] at hw
      rcases hw with rfl | rfl
      · exact hx
      · exact hy) (by rw [bulk_tup]; simp only [PyData.bulkAll]; omega)
    have bi : ∀ i : Int, (PyData.int i).bulk = 0 := fun _ => by simp [PyData.bulk]
    have bb : ∀ i : Bool, (PyData.bool i).bulk = 0 := fun _ => by simp [PyData.bulk]
    have bn : PyData.none.bulk = 0 := by simp [PyData.bulk]
    have q2 : ∀ {x y : Int}, lim 400 x → lim 400 y → Pd (.tuple [.int x, .int y]) := fun hx hy => p2 (lv_i hx) (lv_i hy) (by rw [bi, bi]; omega)
    unfold nearL at hz
    simp only [List.mem_cons, List.not_mem_nil, or_false] at hz
    rcases hz with rfl | rfl | rfl | rfl | rfl | rfl | rfl | rfl | rfl | rfl | rfl | rfl | rfl | rfl | rfl | rfl | rfl | rfl | rfl | rfl | rfl | rfl | rfl | rfl | rfl
    · rw [ho]; exact q2 la' lb'
    · exact q2 (lm2 la (by decide)) (lm2 lb (by decide))
    · exact q2 (neg la') (neg lb')
    · exact q2 la' (by decide)
    · exact q2 (by decide) lb'
    · exact p2 (lv_i la') (.leaf rfl) (by rw [bi, bb]; omega)
    · exact p2 (.leaf rfl) (lv_i lb') (by rw [bi, bb]; omega)
    · refine fin (lv_seq fun w hw => ?_) (by rw [bulk_tup]; simp only [PyData.bulkAll, bi]; omega)
      simp only [List.mem_cons, List.not_mem_nil, or_false] at hw
      rcases hw with rfl | rfl | rfl
      · exact lv_i la'
      · exact lv_i lb'
      · exact lv_i (by decide)
    · refine fin (lv_seq fun w hw => ?_) (by rw [bulk_tup]; simp only [PyData.bulkAll, bi]; omega)
      simp only [List.mem_cons, List.not_mem_nil, or_false] at hw
      subst hw
      exact lv_i la'
    · refine fin (.inr ⟨_, .inr rfl, fun w hw => ?_⟩) (by rw [bulk_lst]; simp only [PyData.bulkAll, bi]; omega)
      simp only [List.mem_cons, List.not_mem_nil, or_false] at hw
      rcases hw with rfl | rfl
      · exact lv_i la'
      · exact lv_i lb'
    · exact fin (lv_i la') (by rw [bi]; omega)
    · exact q2 (lm2 la (by decide)) (lm2 lb (by decide))
    · exact q2 lab lb'
    · exact p2 (dsa 2) (lv_i lb') (by rw [bi]; omega)
    · exact p2 (lv_i la') (.leaf rfl) (by rw [bi, bn]; omega)
    · refine p2 (lv_seq fun w hw => ?_) (lv_i lb') (by rw [bulk_tup, bi]; simp only [PyData.bulkAll, bi]; omega)
      simp only [List.mem_cons, List.not_mem_nil, or_false] at hw
      rcases hw with rfl | rfl
      · exact lv_i la'
      · exact lv_i (by decide)
    · exact q2 lb' lb'
    · exact q2 (by decide) (by decide)
    · exact q2 (by decide) (by decide)
    · exact q2 (by decide) (by decide)
    · exact q2 (by decide) (lim_mono l30 (by decide))
    · exact q2 l31 (lim_mono l30 (by decide))
    · exact q2 (lim_mono l30 (by decide)) l15
    · exact q2 l59 (by decide)
    · exact q2 (by decide) l59
end Fc

namespace Fc
open PySem PySem.Spec PyProof.Rows L2 IL
structure Wk (W : Wd) : Prop where
  num : Has W "is_number" 1 [] SpNum
  word : Has W "is_word" 1 [] (SpB wordB)
  frac : Has W "is_fraction" 1 [] (SpB fracB)
  lnum : Has W "_law_is_number" 1 [] SpNum
  lword : Has W "_law_is_word" 1 [] (SpB wordB)
  lfrac : Has W "_law_is_fraction" 1 [] (SpB fracB)
  fraction : Has W "_law_fraction" 1 [0] SpFrac
  text : Has W "_law_text" 1 [0] SpText
  near : Has W "_law_near" 1 [] SpNear
  spoil : Has W "_law_spoilt" 3 [0] (SpSpoil 8)
def menuL (one : D) (P : Int) : List D := [.none, .bool true, .int 0, .int 1, .int (-1), .int 2, .str "", .str "1/2", .tuple [], .list [], one, .int P, .str "A", .str "abcdefghi", .tuple [.str "a"]]
def MT (one : D) (P : Int) : T := .lst [.leaf .none, .leaf (.bool true), .leaf (.int 0), .leaf (.int 1), .leaf (.int (-1)), .leaf (.int 2), .leaf (.str ""), .leaf (.str "1/2"), .leaf (.tuple []), .lst [], .leaf one, .leaf (.int P), .leaf (.str "A"), .leaf (.str "abcdefghi"), .leaf (.tuple [.str "a"])]
theorem frz_MT (one : D) (P : Int) : frz (MT one P) = .list (menuL one P) := by simp [MT, menuL]
theorem menu_ok {one : D} {P : Int} (h : Dt 3 20 one) (hP : lim 400 P) : Menu 20 (menuL one P) := by
  refine ⟨by simp [menuL], by simp [menuL], fun x hx => ?_⟩
  unfold menuL at hx
  simp only [List.mem_cons, List.not_mem_nil, or_false] at hx
  rcases hx with rfl | rfl | rfl | rfl | rfl | rfl | rfl | rfl | rfl | rfl | rfl | rfl | rfl | rfl | rfl
  · exact dt_none
  · exact dt_bool
  · exact dt_int (by decide)
  · exact dt_int (by decide)
  · exact dt_int (by decide)
  · exact dt_int (by decide)
  · exact dt_str (by decide +kernel) (by decide +kernel)
  · exact dt_str (by decide +kernel) (by decide +kernel)
  · exact ⟨.inr ⟨_, .inl rfl, fun _ h => nomatch h⟩, by decide⟩
  · exact ⟨.inr ⟨_, .inr rfl, fun _ h => nomatch h⟩, by decide⟩
  · exact h
  · exact dt_int hP
  · exact dt_str (by decide +kernel) (by decide +kernel)
  · exact dt_str (by decide +kernel) (by decide +kernel)
  · refine ⟨.inr ⟨_, .inl rfl, fun w hw => ?_⟩, by decide +kernel⟩
    simp only [List.mem_cons, List.not_mem_nil, or_false] at hw
    subst hw
    exact .leaf (by decide +kernel)
theorem dt_fq {r : Rat} (h : limQ 21 r) : Dt 1 2 (fq r) := by
  refine ⟨.inr ⟨_, .inl rfl, fun z hz => ?_⟩, by simp [fq, fr, PyData.bulk, PyData.bulkAll]⟩
  simp only [List.mem_cons, List.not_mem_nil, or_false] at hz
  rcases hz with rfl | rfl
  · exact .leaf (decide_eq_true (lim_mono h.1 (by decide)))
  · exact .leaf (decide_eq_true (lim_mono h.2 (by decide)))
theorem look_ok {W : Wd} {F1 F2 F3 F4 F5 F6 : FSem} (h1 : W.fn "is_number" = some ⟨1, [], F1⟩) (h2 : W.fn "is_word" = some ⟨1, [], F2⟩) (h3 : W.fn "is_fraction" = some ⟨1, [], F3⟩) (h4 : W.fn "_law_is_number" = some ⟨1, [], F4⟩) (h5 : W.fn "_law_is_word" = some ⟨1, [], F5⟩) (h6 : W.fn "_law_is_fraction" = some ⟨1, [], F6⟩) (s1 : SpNum F1) (s2 : SpB wordB F2) (s3 : SpB fracB F3) (s4 : SpNum F4) (s5 : SpB wordB F5) (s6 : SpB fracB F6)
    {d : D} (hd : Pd d) (x0 x1 x2 x3 x4 x5 x6 x8 x9 x10 x11 : Option T) :
    ∃ y9 y10 y11, evSs W lw_b0_b4_r0 [x0, x1, x2, x3, x4, x5, x6, some (.leaf d), x8, x9, x10, x11] = .ok .nx [x0, x1, x2, x3, x4, x5, x6, some (.leaf d), x8, y9, y10, y11] := by
  have k1 := s1 d
  have k2 := s2 d hd
  have k3 := s3 d hd
  have k4 := s4 d
  have k5 := s5 d hd
  have k6 := s6 d hd
  have r1 := repr_fine (Dt.big hd)
  have rb : ∀ a b c : Bool, reprD [.list [.bool a, .bool b, .bool c]] = some (.leaf (.str (PyData.list [.bool a, .bool b, .bool c]).shown)) := fun a b c => repr_fine (Dt.big (dt_lst (n := 39) (b := 16000) (fun z hz => by
    simp only [List.mem_cons, List.not_mem_nil, or_false] at hz
    rcases hz with rfl | rfl | rfl <;> exact .leaf rfl) (by simp [PyData.bulkAll, PyData.bulk])))
  generalize numB d = B1 at *
  generalize wordB d = B2 at *
  generalize fracB d = B3 at *
  have rb := rb B1 B2 B3
  have g0 : evS W lw_b0_b4_s0 [x0, x1, x2, x3, x4, x5, x6, some (.leaf d), x8, x9, x10, x11] = .ok .nx [x0, x1, x2, x3, x4, x5, x6, some (.leaf d), x8, some (.leaf (.str d.shown)), x10, x11] := by
    simp [lw_b0_b4_s0, evS, evC, evCs, Bif.d, r1]
  have g1 : evS W lw_b0_b4_s1 [x0, x1, x2, x3, x4, x5, x6, some (.leaf d), x8, some (.leaf (.str d.shown)), x10, x11] = .ok .nx [x0, x1, x2, x3, x4, x5, x6, some (.leaf d), x8, some (.leaf (.str d.shown)), some (.lst [.leaf (.bool B1), .leaf (.bool B2), .leaf (.bool B3)]), x11] := by
    simp [lw_b0_b4_s1, evS, evC, evCs, h1, h2, h3, lens, k1, k2, k3]
  have g2 : evS W lw_b0_b4_s2 [x0, x1, x2, x3, x4, x5, x6, some (.leaf d), x8, some (.leaf (.str d.shown)), some (.lst [.leaf (.bool B1), .leaf (.bool B2), .leaf (.bool B3)]), x11] = .ok .nx [x0, x1, x2, x3, x4, x5, x6, some (.leaf d), x8, some (.leaf (.str d.shown)), some (.lst [.leaf (.bool B1), .leaf (.bool B2), .leaf (.bool B3)]), some (.lst [.leaf (.bool B1), .leaf (.bool B2), .leaf (.bool B3)])] := by
    simp [lw_b0_b4_s2, evS, evC, evCs, h4, h5, h6, lens, k4, k5, k6]
  have g3 : evS W lw_b0_b4_s3 [x0, x1, x2, x3, x4, x5, x6, some (.leaf d), x8, some (.leaf (.str d.shown)), some (.lst [.leaf (.bool B1), .leaf (.bool B2), .leaf (.bool B3)]), some (.lst [.leaf (.bool B1), .leaf (.bool B2), .leaf (.bool B3)])] = .ok .nx [x0, x1, x2, x3, x4, x5, x6, some (.leaf d), x8, some (.leaf (.str d.shown)), some (.leaf (.list [.bool B1, .bool B2, .bool B3])), some (.leaf (.list [.bool B1, .bool B2, .bool B3]))] := by
    simp [lw_b0_b4_s3, evSs, evS, evC, evCs, Cop.d, Bif.d, rb, r1]
  refine ⟨some (.leaf (.str d.shown)), some (.leaf (.list [.bool B1, .bool B2, .bool B3])), some (.leaf (.list [.bool B1, .bool B2, .bool B3])), ?_⟩
  rw [step (c := lw_b0_b4_r0) rfl g0, step (c := lw_b0_b4_r1) rfl g1, step (c := lw_b0_b4_r2) rfl g2, step (c := lw_b0_b4_r3) rfl g3]
  rfl
theorem bend_ok {W : Wd} {Fs : FSem} (hs : W.fn "_law_spoilt" = some ⟨3, [0], Fs⟩) (ss : SpSpoil 8 Fs) (cells : List Int) {one : D} {P : Int} (h1 : Dt 1 2 one) (hP : lim 400 P) {k : Nat} {t : T} (hk : k + 1000 < 2 ^ 29) (ht : FeedOk cells k t) {S : T} {ds : List D} {m : Nat} (hS : Things m S ds) (hm : m ≤ 100) (x2 x6 x7 x8 x9 x10 x11 : Option T) :
    ∃ t' S' ds' y8, FeedOk cells (k + 40) t' ∧ Things (m + 2) S' ds' ∧ evSs W lw_b0_b3_r0 [none, some t, x2, some (.leaf one), some (.leaf (.list (menuL one P))), some S, x6, x7, x8, x9, x10, x11] = .ok .nx [none, some t', x2, some (.leaf one), some (.leaf (.list (menuL one P))), some S', x6, x7, y8, x9, x10, x11] := by
  have hmn : Menu 20 (menuL one P) := menu_ok (h1.mono (by omega) (by omega)) hP
  obtain ⟨tr, t1, f1, p1, k1⟩ := ss cells k t 1 2 20 one (menuL one P) (by omega) (by omega) (by omega) (by omega) (by omega) ht h1 hmn
  obtain ⟨tr2, t2, f2, p2, k2⟩ := ss cells (k + 4 * (1 + 1)) t1 5 27 20 (frz tr) (menuL one P) (by omega) (by omega) (by omega) (by omega) (by omega) f1 (p1.mono (by omega) (by omega)) hmn
  obtain ⟨e1, e2, e3⟩ := hS
  have A := lst_add (a := ds) (b := [frz tr, frz tr2]) (by simp; omega)
  generalize menuL one P = ml at *
  have g0 : evS W lw_b0_b3_s0 [none, some t, x2, some (.leaf one), some (.leaf (.list ml)), some S, x6, x7, x8, x9, x10, x11] = .ok .nx [none, some t1, x2, some (.leaf one), some (.leaf (.list ml)), some S, x6, x7, some tr, x9, x10, x11] := by
    simp [lw_b0_b3_s0, evS, evC, evCs, hs, lens, k1, maskN]
  have fl : frz (.lst [.leaf (frz tr), tr2]) = .list [frz tr, frz tr2] := by simp
  have g1 : evS W lw_b0_b3_s1 [none, some t1, x2, some (.leaf one), some (.leaf (.list ml)), some S, x6, x7, some tr, x9, x10, x11] = .ok .nx [none, some t2, x2, some (.leaf one), some (.leaf (.list ml)), some (.lst ((ds ++ [frz tr, frz tr2]).map .leaf)), x6, x7, some (.leaf (frz tr)), x9, x10, x11] := by
    simp [-frz_lst, -List.map_append, lw_b0_b3_s1, evS, evC, evCs, Bop.d, hs, lens, k2, maskN, e1, fl, A]
  refine ⟨t2, _, ds ++ [frz tr, frz tr2], some (.leaf (frz tr)), f2.mono (by omega), ⟨frz_lvs _, by simp; omega, fun x hx => ?_⟩, by rw [step (c := lw_b0_b3_r0) rfl g0, step (c := lw_b0_b3_r1) rfl g1]; rfl⟩
  rcases List.mem_append.mp hx with hx | hx
  · exact e3 x hx
  · simp only [List.mem_cons, List.not_mem_nil, or_false] at hx
    rcases hx with rfl | rfl
    · exact p1.mono (by omega) (by omega)
    · exact p2.mono (by omega) (by omega)
theorem rep_a : ∀ n : Int, n = 8 ∨ n = 9 → ∃ s : Str, repD (.str "a") (.int n) = some (.leaf (.str s)) ∧ Pd (.str s) := by
  intro n hn
  refine ⟨strTimes "a" n.toNat, ?_, ?_⟩
  · have : strRep (.str "a") (.int n) = some (.leaf (.str (strTimes "a" n.toNat))) := if_pos (by
      refine ⟨by omega, by omega, by decide +kernel, by decide +kernel⟩)
    have h0 : lstRep (.str "a") (.int n) = none := rfl
    simp only [repD, h0, this, orr]
  · rcases hn with rfl | rfl
    · exact dt_str (by decide +kernel) (by decide +kernel)
    · exact dt_str (by decide +kernel) (by decide +kernel)
theorem texts_ok {W : Wd} {Ft : FSem} (hf : W.fn "_law_text" = some ⟨1, [0], Ft⟩) (st : SpText Ft) (cells : List Int) {k : Nat} {t : T} (hk : k + 1000 < 2 ^ 29) (ht : FeedOk cells k t) (x0 x2 x3 x4 x5 x6 x7 x8 x9 x10 x11 : Option T) :
    ∃ (t' : T) (tx : List D), FeedOk cells (k + 99) t' ∧ tx.length = 9 ∧ (∀ x ∈ tx, Pd x) ∧ evC W (.comp [6] (.nm 6) (.rng1 (.val (.int 9) .nil)) .no (.call "_law_text" (.lend 1 .nil))) [x0, some t, x2, x3, x4, x5, x6, x7, x8, x9, x10, x11] = .ok (.lst (tx.map .leaf)) [x0, some t', x2, x3, x4, x5, none, x7, x8, x9, x10, x11] := by
  let Inv : Nat → List D → En → Prop := fun i acc e => ∃ (t' : T) (y6 : Option T), FeedOk cells (k + 11 * i) t' ∧ (∀ x ∈ acc, Pd x) ∧ e = [x0, some t', x2, x3, x4, x5, y6, x7, x8, x9, x10, x11]
  obtain ⟨e', acc, q1, q2, t', y6, f', d', rfl⟩ := gLc_inv (vs := [6]) (bd := evTg W (.nm 6)) (tt := evCond W .no) (el := fz (evC W (.call "_law_text" (.lend 1 .nil)))) Inv (rangeL 0 9) 0 [] [x0, some t, x2, x3, x4, x5, x6, x7, x8, x9, x10, x11] (by simp [rangeL, most]) ⟨t, x6, ht, (fun _ h => nomatch h), rfl⟩ (by
    rintro i d acc e hi ⟨t3, y6, f3, d3, rfl⟩
    have hil : i < 9 := by
      have := (List.getElem?_eq_some_iff.mp hi).1
      simpa [rangeL] using this
    obtain ⟨s, t4, sa, sl, f4, k4⟩ := st cells (k + 11 * (0 + i)) t3 (by omega) f3
    refine ⟨[x0, some t4, x2, x3, x4, x5, some (.leaf d), x7, x8, x9, x10, x11], .str s, ?_, t4, some (.leaf d), f4.mono (by omega), fun z hz => ?_, rfl⟩
    · simp [evTg, wipeM, wipeE, evCond, evC, evCs, hf, lens, maskN, k4]
    · rcases List.mem_append.mp hz with hz | hz
      · exact d3 z hz
      · simp only [List.mem_cons, List.not_mem_nil, or_false] at hz
        subst hz
        exact dt_str (leaf_asc sa) (by have e : s.length = s.cps.size := rfl; omega))
  have lr : (rangeL 0 9).length = 9 := by simp [rangeL]
  rw [lr] at f' q2
  refine ⟨t', acc, f'.mono (by omega), by simpa using q2, d', ?_⟩
  have hi : evI W (.rng1 (.val (.int 9) .nil)) [x0, some t, x2, x3, x4, x5, x6, x7, x8, x9, x10, x11] = .ok (rangeL 0 9) [x0, some t, x2, x3, x4, x5, x6, x7, x8, x9, x10, x11] := by
    simp [evI, gRng, evC, evCs, rng1, show far 9 = true from by decide]
  rw [ev_comp', ap_bnd, hi]
  exact q1
theorem turn_ok {W : Wd} (K : Wk W) (cells : List Int) (k : Nat) (t : T) (hk : k + 10000 < 2 ^ 29) (ht : FeedOk cells k t) (x2 x3 x4 x5 x6 x7 x8 x9 x10 x11 : Option T) :
    ∃ t' y3 y4 y5 y6 y7 y8 y9 y10 y11, FeedOk cells (k + 300) t' ∧ evSs W lw_b0_r0 [none, some t, x2, x3, x4, x5, x6, x7, x8, x9, x10, x11] = .ok .nx [none, some t', x2, y3, y4, y5, y6, y7, y8, y9, y10, y11] := by
  obtain ⟨⟨F1, h1, s1⟩, ⟨F2, h2, s2⟩, ⟨F3, h3, s3⟩, ⟨F4, h4, s4⟩, ⟨F5, h5, s5⟩, ⟨F6, h6, s6⟩, ⟨Ff, hf, sf⟩, ⟨Ft, hx, sx⟩, ⟨Fn, hn, sn⟩, ⟨Fs, hs, ss⟩⟩ := K
  obtain ⟨r, t1, lr, f1, k1⟩ := sf cells k t (by omega) ht
  have hone := dt_fq lr
  obtain ⟨tn, dn, kn, n1, n2, n3⟩ := sn r.num r.den lr.1 lr.2
  rw [show PyData.tuple [.int r.num, .int (r.den : Int)] = fq r from rfl] at kn
  generalize fq r = one at *
  obtain ⟨P59, e59, h59⟩ : ∃ P, powD (.int 10) (.int 59) = some (.leaf (.int P)) ∧ P = 10 ^ 59 := ⟨_, rfl, by decide⟩
  have l59 : lim 400 P59 := by rw [h59]; decide
  clear h59
  have g0 : evS W lw_b0_s0 [none, some t, x2, x3, x4, x5, x6, x7, x8, x9, x10, x11] = .ok .nx [none, some t1, x2, some (.leaf one), x4, x5, x6, x7, x8, x9, x10, x11] := by
    simp [lw_b0_s0, evS, evC, evCs, hf, lens, k1, maskN]
  have g1 : evS W lw_b0_s1 [none, some t1, x2, some (.leaf one), x4, x5, x6, x7, x8, x9, x10, x11] = .ok .nx [none, some t1, x2, some (.leaf one), some (MT one P59), x5, x6, x7, x8, x9, x10, x11] := by
    have mk1 : ∀ d : D, mkTup [.leaf d] = .leaf (.tuple [d]) := fun _ => rfl
    have mk0 : mkTup [] = .leaf (.tuple []) := rfl
    simp [-IL.pow_int, lw_b0_s1, evS, evC, evCs, Bop.d, mk1, mk0, e59, MT]
  have fm := frz_MT one P59
  have hmn : Menu 20 (menuL one P59) := menu_ok (hone.mono (by omega) (by omega)) l59
  obtain ⟨t2, tx, f2, ltx, dtx, hcc⟩ := texts_ok hx sx cells (k := k + 6) (by omega) f1 none x2 (some (.leaf one)) (some (.leaf (.list (menuL one P59)))) x5 x6 x7 x8 x9 x10 x11
  obtain ⟨S8, q8, d8⟩ := rep_a 8 (.inl rfl)
  obtain ⟨S9, q9, d9⟩ := rep_a 9 (.inr rfl)
  have hml : (menuL one P59).length = 15 := rfl
  have A1 := lst_add (a := dn) (b := menuL one P59) (by rw [hml]; omega)
  have A2 := lst_add (a := dn ++ menuL one P59) (b := tx) (by simp [hml]; omega)
  have A3 := lst_add (a := dn ++ menuL one P59 ++ tx) (b := [.str S8, .str S9]) (by simp [hml]; omega)
  have z1 : frz (.lst ((dn ++ menuL one P59).map .leaf)) = .list (dn ++ menuL one P59) := frz_lvs _
  have z2 : frz (.lst ((dn ++ menuL one P59 ++ tx).map .leaf)) = .list (dn ++ menuL one P59 ++ tx) := frz_lvs _
  have z3 : frz (.lst (tx.map .leaf)) = .list tx := frz_lvs _
  have hS0 : Things 60 (.lst ((dn ++ menuL one P59 ++ tx ++ [PyData.str S8, .str S9]).map .leaf)) (dn ++ menuL one P59 ++ tx ++ [PyData.str S8, .str S9]) := ⟨frz_lvs _, by simp [hml]; omega, fun x hx => by
    rcases List.mem_append.mp hx with hx | hx
    · rcases List.mem_append.mp hx with hx | hx
      · rcases List.mem_append.mp hx with hx | hx
        · exact n3 x hx
        · exact (hmn.2.2 x hx).mono (by omega) (by omega)
      · exact dtx x hx
    · simp only [List.mem_cons, List.not_mem_nil, or_false] at hx
      rcases hx with rfl | rfl
      · exact d8
      · exact d9⟩
  generalize dn ++ menuL one P59 ++ tx ++ [PyData.str S8, .str S9] = all at *
  have g2 : evS W lw_b0_s2 [none, some t1, x2, some (.leaf one), some (MT one P59), x5, x6, x7, x8, x9, x10, x11] = .ok .nx [none, some t2, x2, some (.leaf one), some (.leaf (.list (menuL one P59))), some (.lst (all.map .leaf)), none, x7, x8, x9, x10, x11] := by
    unfold lw_b0_s2
    generalize IL.C.comp [6] (.nm 6) (.rng1 (.val (.int 9) .nil)) .no (.call "_law_text" (.lend 1 .nil)) = cc at *
    generalize MT one P59 = M1 at *
    generalize T.lst ((dn ++ menuL one P59).map .leaf) = T1 at *
    generalize T.lst ((dn ++ menuL one P59 ++ tx).map .leaf) = T2 at *
    generalize dn ++ menuL one P59 ++ tx = L2 at *
    generalize dn ++ menuL one P59 = L1 at *
    generalize menuL one P59 = ml at *
    generalize T.lst (tx.map .leaf) = T3 at *
    generalize T.lst (all.map .leaf) = T4 at *
    simp [evS, evC, evCs, Bop.d, hn, lens, kn, n1, fm, A1, z1, hcc, z3, A2, z2, q8, q9, A3]
  generalize hmlg : menuL one P59 = ml at *
  obtain ⟨e4, q4, t4, S4, ds4, y6, y8, f4, hS4, rfl⟩ : ∃ e4, evS W lw_b0_s3 [none, some t2, x2, some (.leaf one), some (.leaf (.list ml)), some (.lst (all.map .leaf)), none, x7, x8, x9, x10, x11] = .ok .nx e4 ∧ ∃ t4 S4 ds4 y6 y8, FeedOk cells (k + 105 + 40 * 4) t4 ∧ Things 68 S4 ds4 ∧ e4 = [none, some t4, x2, some (.leaf one), some (.leaf (.list ml)), some S4, y6, x7, y8, x9, x10, x11] := by
    let Inv : Nat → En → Prop := fun i e => ∃ t4 S4 ds4 y6 y8, FeedOk cells (k + 105 + 40 * i) t4 ∧ Things (60 + 2 * i) S4 ds4 ∧ e = [none, some t4, x2, some (.leaf one), some (.leaf (.list ml)), some S4, y6, x7, y8, x9, x10, x11]
    obtain ⟨e', q1, q2⟩ := gFor_inv (bd := evTg W (.nm 6)) (b := evSs W lw_b0_b3_r0) Inv (rangeL 0 4) 0 _ ⟨t2, _, _, none, x8, f2.mono (by omega), hS0, rfl⟩ (by
      rintro i d e hi ⟨t5, S5, ds5, y6, y8, f5, hS5, rfl⟩
      have hil : i < 4 := by
        have := (List.getElem?_eq_some_iff.mp hi).1
        simpa [rangeL] using this
      obtain ⟨t', S', ds', z8, f', hS', q⟩ := bend_ok hs ss cells hone l59 (k := k + 105 + 40 * (0 + i)) (by omega) f5 hS5 (by omega) x2 (some (.leaf d)) x7 y8 x9 x10 x11
      rw [hmlg] at q
      refine ⟨_, ?_, t', S', ds', some (.leaf d), z8, by rw [show k + 105 + 40 * (0 + i + 1) = k + 105 + 40 * (0 + i) + 40 by omega]; exact f', by rw [show 60 + 2 * (0 + i + 1) = 60 + 2 * (0 + i) + 2 by omega]; exact hS', rfl⟩
      rw [← q]
      simp [evTg])
    refine ⟨e', ?_, by simpa [Inv, rangeL] using q2⟩
    have hi : evI W lw_b0_i3 [none, some t2, x2, some (.leaf one), some (.leaf (.list ml)), some (.lst (all.map .leaf)), none, x7, x8, x9, x10, x11] = .ok (rangeL 0 4) [none, some t2, x2, some (.leaf one), some (.leaf (.list ml)), some (.lst (all.map .leaf)), none, x7, x8, x9, x10, x11] := by
      simp [lw_b0_i3, evI, gRng, evC, evCs, rng1, show far 4 = true from by decide]
    simp only [lw_b0_s3_eq, evS]
    rw [ap_bnd, hi]
    exact q1
  obtain ⟨u1, u2, u3⟩ := hS4
  obtain ⟨e5, q5, y5, y7, y9, y10, y11, rfl⟩ : ∃ e5, evS W lw_b0_s4 [none, some t4, x2, some (.leaf one), some (.leaf (.list ml)), some S4, y6, x7, y8, x9, x10, x11] = .ok .nx e5 ∧ ∃ y5 y7 y9 y10 y11, e5 = [none, some t4, x2, some (.leaf one), some (.leaf (.list ml)), y5, y6, y7, y8, y9, y10, y11] := by
    let Inv : Nat → En → Prop := fun _ e => ∃ y5 y7 y9 y10 y11, e = [none, some t4, x2, some (.leaf one), some (.leaf (.list ml)), y5, y6, y7, y8, y9, y10, y11]
    obtain ⟨e', q1, q2⟩ := gFor_inv (bd := evTg W (.nm 7)) (b := evSs W lw_b0_b4_r0) Inv ds4 0 _ ⟨some (.leaf (.list ds4)), x7, x9, x10, x11, rfl⟩ (by
      rintro i d e hi ⟨y5, y7, y9, y10, y11, rfl⟩
      have hmem : d ∈ ds4 := List.mem_of_getElem? hi
      obtain ⟨z9, z10, z11, q⟩ := look_ok h1 h2 h3 h4 h5 h6 s1 s2 s3 s4 s5 s6 (u3 d hmem) none (some t4) x2 (some (.leaf one)) (some (.leaf (.list ml))) y5 y6 y8 y9 y10 y11
      refine ⟨_, ?_, y5, some (.leaf d), z9, z10, z11, rfl⟩
      rw [← q]
      simp [evTg])
    refine ⟨e', ?_, q2⟩
    have hi : evI W lw_b0_i4 [none, some t4, x2, some (.leaf one), some (.leaf (.list ml)), some S4, y6, x7, y8, x9, x10, x11] = .ok ds4 [none, some t4, x2, some (.leaf one), some (.leaf (.list ml)), some (.leaf (.list ds4)), y6, x7, y8, x9, x10, x11] := by
      simp [lw_b0_i4, evI, evC, u1]
    simp only [lw_b0_s4_eq, evS]
    rw [ap_bnd, hi]
    exact q1
  refine ⟨t4, some (.leaf one), some (.leaf (.list ml)), y5, y6, y7, y8, y9, y10, y11, f4.mono (by omega), ?_⟩
  rw [step (c := lw_b0_r0) rfl g0, step (c := lw_b0_r1) rfl g1, step (c := lw_b0_r2) rfl g2, step (c := lw_b0_r3) rfl q4, step (c := lw_b0_r4) rfl q5]
  rfl
theorem law_run {W : Wd} (K : Wk W) (cells : List Int) : ∃ e', evSs W c_law ((List.replicate n_law.length none).set 1 (some (feedT cells))) = .ok (.rt (.leaf (.bool true))) e' := by
  have hf0 : FeedOk cells 0 (feedT cells) := ⟨0, 0, 0, rfl, by omega, by omega, by omega, by omega⟩
  let Inv : Nat → En → Prop := fun i e => ∃ t x2 x3 x4 x5 x6 x7 x8 x9 x10 x11, FeedOk cells (i * 300) t ∧ e = [none, some t, x2, x3, x4, x5, x6, x7, x8, x9, x10, x11]
  obtain ⟨e', h1, h2⟩ := gFor_inv (bd := evTg W (.nm 2)) (b := evSs W lw_b0_r0) Inv (rangeL 0 4) 0 _ ⟨feedT cells, none, none, none, none, none, none, none, none, none, none, hf0, rfl⟩ (by
    rintro i d e hi ⟨t, x2, x3, x4, x5, x6, x7, x8, x9, x10, x11, ht, rfl⟩
    have hil : i < 4 := by
      have := (List.getElem?_eq_some_iff.mp hi).1
      simpa [rangeL] using this
    obtain ⟨t', y3, y4, y5, y6, y7, y8, y9, y10, y11, f, h⟩ := turn_ok K cells ((0 + i) * 300) t (by omega) ht (some (.leaf d)) x3 x4 x5 x6 x7 x8 x9 x10 x11
    refine ⟨_, ?_, t', some (.leaf d), y3, y4, y5, y6, y7, y8, y9, y10, y11, f.mono (by omega), rfl⟩
    rw [← h]
    simp [evTg])
  refine ⟨e', ?_⟩
  rw [lw_eq]
  have hi : evI W lw_i0 [none, some (feedT cells), none, none, none, none, none, none, none, none, none, none] = .ok (rangeL 0 4) [none, some (feedT cells), none, none, none, none, none, none, none, none, none, none] := by
    simp [lw_i0, evI, gRng, evC, evCs, rng1, show far 4 = true from by decide]
  have g0 : evS W lw_s0 [none, some (feedT cells), none, none, none, none, none, none, none, none, none, none] = .ok .nx e' := by
    simp only [lw_s0_eq, evS]
    rw [ap_bnd, hi]
    exact h1
  show evSs W lw_r0 [none, some (feedT cells), none, none, none, none, none, none, none, none, none, none] = _
  rw [step (c := lw_r0) rfl g0]
  rfl
end Fc

namespace Fc
open PySem PySem.Spec PyProof.Rows L2 IL
def topS (i : Nat) : Stmt := PySem.Challenge.pw_framecourt_k01_numbers_words_fractions_b.main.body.getD i (.Pass ⟨0, 0, 0, 0⟩)
theorem sc_is_number : FnScope n_is_number ["thing"] (defScope (topS 3)) := ⟨rfl, rfl, rfl, by decide +kernel, rfl, by decide +kernel, by decide +kernel⟩
theorem ck_is_number : chkSs n_is_number [] (defScope (topS 3)) c_is_number (defBody (topS 3)) = true := by decide +kernel
theorem sc_are_numbers : FnScope n_are_numbers ["thing", "many"] (defScope (topS 4)) := ⟨rfl, rfl, rfl, by decide +kernel, rfl, by decide +kernel, by decide +kernel⟩
theorem ck_are_numbers : chkSs n_are_numbers [] (defScope (topS 4)) c_are_numbers (defBody (topS 4)) = true := by decide +kernel
theorem sc_is_word : FnScope n_is_word ["thing"] (defScope (topS 5)) := ⟨rfl, rfl, rfl, by decide +kernel, rfl, by decide +kernel, by decide +kernel⟩
theorem ck_is_word : chkSs n_is_word [] (defScope (topS 5)) c_is_word (defBody (topS 5)) = true := by decide +kernel
theorem sc_common_divisor : FnScope n_common_divisor ["one", "other"] (defScope (topS 7)) := ⟨rfl, rfl, rfl, by decide +kernel, rfl, by decide +kernel, by decide +kernel⟩
theorem ck_common_divisor : chkSs n_common_divisor [] (defScope (topS 7)) c_common_divisor (defBody (topS 7)) = true := by decide +kernel
theorem sc_is_fraction : FnScope n_is_fraction ["thing"] (defScope (topS 8)) := ⟨rfl, rfl, rfl, by decide +kernel, rfl, by decide +kernel, by decide +kernel⟩
theorem ck_is_fraction : chkSs n_is_fraction [] (defScope (topS 8)) c_is_fraction (defBody (topS 8)) = true := by decide +kernel
theorem sc__law_feed : FnScope ["script"] ["script"] (defScope (topS 10)) := ⟨rfl, rfl, rfl, by decide +kernel, rfl, by decide +kernel, by decide +kernel⟩
theorem sc__law_draw : FnScope n__law_draw ["feed", "many"] (defScope (topS 11)) := ⟨rfl, rfl, rfl, by decide +kernel, rfl, by decide +kernel, by decide +kernel⟩
theorem ck__law_draw : chkSs n__law_draw [0] (defScope (topS 11)) c__law_draw (defBody (topS 11)) = true := by decide +kernel
theorem sc__law_spoilt : FnScope n__law_spoilt ["feed", "thing", "menu"] (defScope (topS 12)) := ⟨rfl, rfl, rfl, by decide +kernel, rfl, by decide +kernel, by decide +kernel⟩
theorem ck__law_spoilt : chkSs n__law_spoilt [0] (defScope (topS 12)) c__law_spoilt (defBody (topS 12)) = true := by decide +kernel
theorem sc__law_divisor : FnScope n__law_divisor ["one", "other"] (defScope (topS 13)) := ⟨rfl, rfl, rfl, by decide +kernel, rfl, by decide +kernel, by decide +kernel⟩
theorem ck__law_divisor : chkSs n__law_divisor [] (defScope (topS 13)) c__law_divisor (defBody (topS 13)) = true := by decide +kernel
theorem sc__law_made : FnScope n__law_made ["a", "b"] (defScope (topS 14)) := ⟨rfl, rfl, rfl, by decide +kernel, rfl, by decide +kernel, by decide +kernel⟩
theorem ck__law_made : chkSs n__law_made [] (defScope (topS 14)) c__law_made (defBody (topS 14)) = true := by decide +kernel
theorem sc__law_fraction : FnScope n__law_fraction ["feed"] (defScope (topS 15)) := ⟨rfl, rfl, rfl, by decide +kernel, rfl, by decide +kernel, by decide +kernel⟩
theorem ck__law_fraction : chkSs n__law_fraction [0] (defScope (topS 15)) c__law_fraction (defBody (topS 15)) = true := by decide +kernel
theorem sc__law_is_number : FnScope n__law_is_number ["thing"] (defScope (topS 16)) := ⟨rfl, rfl, rfl, by decide +kernel, rfl, by decide +kernel, by decide +kernel⟩
theorem ck__law_is_number : chkSs n__law_is_number [] (defScope (topS 16)) c__law_is_number (defBody (topS 16)) = true := by decide +kernel
theorem sc__law_is_fraction : FnScope n__law_is_fraction ["thing"] (defScope (topS 17)) := ⟨rfl, rfl, rfl, by decide +kernel, rfl, by decide +kernel, by decide +kernel⟩
theorem ck__law_is_fraction : chkSs n__law_is_fraction [] (defScope (topS 17)) c__law_is_fraction (defBody (topS 17)) = true := by decide +kernel
theorem sc__law_is_word : FnScope n__law_is_word ["thing"] (defScope (topS 18)) := ⟨rfl, rfl, rfl, by decide +kernel, rfl, by decide +kernel, by decide +kernel⟩
theorem ck__law_is_word : chkSs n__law_is_word [] (defScope (topS 18)) c__law_is_word (defBody (topS 18)) = true := by decide +kernel
theorem sc__law_text : FnScope n__law_text ["feed"] (defScope (topS 19)) := ⟨rfl, rfl, rfl, by decide +kernel, rfl, by decide +kernel, by decide +kernel⟩
theorem ck__law_text : chkSs n__law_text [0] (defScope (topS 19)) c__law_text (defBody (topS 19)) = true := by decide +kernel
theorem sc__law_near : FnScope n__law_near ["one"] (defScope (topS 20)) := ⟨rfl, rfl, rfl, by decide +kernel, rfl, by decide +kernel, by decide +kernel⟩
theorem ck__law_near : chkSs n__law_near [] (defScope (topS 20)) c__law_near (defBody (topS 20)) = true := by decide +kernel
theorem sc_law : FnScope n_law ["script"] (defScope (topS 21)) := ⟨rfl, rfl, rfl, by decide +kernel, rfl, by decide +kernel, by decide +kernel⟩
theorem ck_law : chkSs n_law [] (defScope (topS 21)) c_law (defBody (topS 21)).tail = true := by decide +kernel
end Fc

namespace Fc
open PySem PySem.Spec PyProof.Rows L2 IL
def g_LETTERS : D := .str "abcdefghijklmnopqrstuvwxyz"
def g_MOST_LETTERS : D := .int 8
structure Facts (K : PySem.W.Frag) (mg : Str → Option Value) : Prop where
  blt : ∀ x ∈ bltNames, mg x = none
  f_is_number : Df K mg "is_number" (topS 3) n_is_number ["thing"]
  f_are_numbers : Df K mg "are_numbers" (topS 4) n_are_numbers ["thing", "many"]
  f_is_word : Df K mg "is_word" (topS 5) n_is_word ["thing"]
  f_common_divisor : Df K mg "common_divisor" (topS 7) n_common_divisor ["one", "other"]
  f_is_fraction : Df K mg "is_fraction" (topS 8) n_is_fraction ["thing"]
  f__law_feed : Df K mg "_law_feed" (topS 10) ["script"] ["script"]
  f__law_draw : Df K mg "_law_draw" (topS 11) n__law_draw ["feed", "many"]
  f__law_spoilt : Df K mg "_law_spoilt" (topS 12) n__law_spoilt ["feed", "thing", "menu"]
  f__law_divisor : Df K mg "_law_divisor" (topS 13) n__law_divisor ["one", "other"]
  f__law_made : Df K mg "_law_made" (topS 14) n__law_made ["a", "b"]
  f__law_fraction : Df K mg "_law_fraction" (topS 15) n__law_fraction ["feed"]
  f__law_is_number : Df K mg "_law_is_number" (topS 16) n__law_is_number ["thing"]
  f__law_is_fraction : Df K mg "_law_is_fraction" (topS 17) n__law_is_fraction ["thing"]
  f__law_is_word : Df K mg "_law_is_word" (topS 18) n__law_is_word ["thing"]
  f__law_text : Df K mg "_law_text" (topS 19) n__law_text ["feed"]
  f__law_near : Df K mg "_law_near" (topS 20) n__law_near ["one"]
  f_law : ∃ f fd, Fun K "law" "law" (topS 21) f fd ∧ mg "law" = some (.ref f) ∧ ∀ (s : Shared) (u : Value), BindsTo s fd ⟨[u], []⟩ [("script", u)]
  g_LETTERS : ∃ v u, mg "LETTERS" = some u ∧ RelV v u ∧ ∀ J H, RD K J H v g_LETTERS
  g_MOST_LETTERS : ∃ v u, mg "MOST_LETTERS" = some u ∧ RelV v u ∧ ∀ J H, RD K J H v g_MOST_LETTERS
theorem facts_mk {K : PySem.W.Frag} {h : Heap} {mg : Str → Option Value} (X : K.In h) (G : h.Ns mainGlobals mg)
  {p_is_number : Addr} {od_is_number an_is_number : Option Addr} {sl_is_number : Array (Option Value)} {oc_is_number kV_is_number dc_is_number pm_is_number cd_is_number ct_is_number : Value}
  {p_are_numbers : Addr} {od_are_numbers an_are_numbers : Option Addr} {sl_are_numbers : Array (Option Value)} {oc_are_numbers kV_are_numbers dc_are_numbers pm_are_numbers cd_are_numbers ct_are_numbers : Value}
  {p_is_word : Addr} {od_is_word an_is_word : Option Addr} {sl_is_word : Array (Option Value)} {oc_is_word kV_is_word dc_is_word pm_is_word cd_is_word ct_is_word : Value}
  {p_common_divisor : Addr} {od_common_divisor an_common_divisor : Option Addr} {sl_common_divisor : Array (Option Value)} {oc_common_divisor kV_common_divisor dc_common_divisor pm_common_divisor cd_common_divisor ct_common_divisor : Value}
  {p_is_fraction : Addr} {od_is_fraction an_is_fraction : Option Addr} {sl_is_fraction : Array (Option Value)} {oc_is_fraction kV_is_fraction dc_is_fraction pm_is_fraction cd_is_fraction ct_is_fraction : Value}
  {p__law_feed : Addr} {od__law_feed an__law_feed : Option Addr} {sl__law_feed : Array (Option Value)} {oc__law_feed kV__law_feed dc__law_feed pm__law_feed cd__law_feed ct__law_feed : Value}
  {p__law_draw : Addr} {od__law_draw an__law_draw : Option Addr} {sl__law_draw : Array (Option Value)} {oc__law_draw kV__law_draw dc__law_draw pm__law_draw cd__law_draw ct__law_draw : Value}
  {p__law_spoilt : Addr} {od__law_spoilt an__law_spoilt : Option Addr} {sl__law_spoilt : Array (Option Value)} {oc__law_spoilt kV__law_spoilt dc__law_spoilt pm__law_spoilt cd__law_spoilt ct__law_spoilt : Value}
  {p__law_divisor : Addr} {od__law_divisor an__law_divisor : Option Addr} {sl__law_divisor : Array (Option Value)} {oc__law_divisor kV__law_divisor dc__law_divisor pm__law_divisor cd__law_divisor ct__law_divisor : Value}
  {p__law_made : Addr} {od__law_made an__law_made : Option Addr} {sl__law_made : Array (Option Value)} {oc__law_made kV__law_made dc__law_made pm__law_made cd__law_made ct__law_made : Value}
  {p__law_fraction : Addr} {od__law_fraction an__law_fraction : Option Addr} {sl__law_fraction : Array (Option Value)} {oc__law_fraction kV__law_fraction dc__law_fraction pm__law_fraction cd__law_fraction ct__law_fraction : Value}
  {p__law_is_number : Addr} {od__law_is_number an__law_is_number : Option Addr} {sl__law_is_number : Array (Option Value)} {oc__law_is_number kV__law_is_number dc__law_is_number pm__law_is_number cd__law_is_number ct__law_is_number : Value}
  {p__law_is_fraction : Addr} {od__law_is_fraction an__law_is_fraction : Option Addr} {sl__law_is_fraction : Array (Option Value)} {oc__law_is_fraction kV__law_is_fraction dc__law_is_fraction pm__law_is_fraction cd__law_is_fraction ct__law_is_fraction : Value}
  {p__law_is_word : Addr} {od__law_is_word an__law_is_word : Option Addr} {sl__law_is_word : Array (Option Value)} {oc__law_is_word kV__law_is_word dc__law_is_word pm__law_is_word cd__law_is_word ct__law_is_word : Value}
  {p__law_text : Addr} {od__law_text an__law_text : Option Addr} {sl__law_text : Array (Option Value)} {oc__law_text kV__law_text dc__law_text pm__law_text cd__law_text ct__law_text : Value}
  {p__law_near : Addr} {od__law_near an__law_near : Option Addr} {sl__law_near : Array (Option Value)} {oc__law_near kV__law_near dc__law_near pm__law_near cd__law_near ct__law_near : Value}
  {p_law : Addr} {od_law an_law : Option Addr} {sl_law : Array (Option Value)} {oc_law kV_law dc_law pm_law cd_law ct_law : Value}
  {t_LETTERS_0 : Tok}
  {t_MOST_LETTERS_0 : Tok}
  (a_is_number : PySem.W.nsIn K mainGlobals "is_number" = some (some (.ref p_is_number)))
  (l_is_number : K.lookup p_is_number = some ⟨oc_is_number, od_is_number, .func (PySem.W.fnOf "is_number" "is_number" (defArgs (topS 3)) (defBody (topS 3)) (defScope (topS 3)) .none kV_is_number dc_is_number pm_is_number an_is_number cd_is_number ct_is_number), sl_is_number⟩)
  (c_is_number : PySem.W.codeIn K cd_is_number "is_number" = true)
  (k_is_number : PySem.W.keepIn K (.ref p_is_number) = true)
  (a_are_numbers : PySem.W.nsIn K mainGlobals "are_numbers" = some (some (.ref p_are_numbers)))
  (l_are_numbers : K.lookup p_are_numbers = some ⟨oc_are_numbers, od_are_numbers, .func (PySem.W.fnOf "are_numbers" "are_numbers" (defArgs (topS 4)) (defBody (topS 4)) (defScope (topS 4)) .none kV_are_numbers dc_are_numbers pm_are_numbers an_are_numbers cd_are_numbers ct_are_numbers), sl_are_numbers⟩)
  (c_are_numbers : PySem.W.codeIn K cd_are_numbers "are_numbers" = true)
  (k_are_numbers : PySem.W.keepIn K (.ref p_are_numbers) = true)
  (a_is_word : PySem.W.nsIn K mainGlobals "is_word" = some (some (.ref p_is_word)))
  (l_is_word : K.lookup p_is_word = some ⟨oc_is_word, od_is_word, .func (PySem.W.fnOf "is_word" "is_word" (defArgs (topS 5)) (defBody (topS 5)) (defScope (topS 5)) .none kV_is_word dc_is_word pm_is_word an_is_word cd_is_word ct_is_word), sl_is_word⟩)
  (c_is_word : PySem.W.codeIn K cd_is_word "is_word" = true)
  (k_is_word : PySem.W.keepIn K (.ref p_is_word) = true)
  (a_common_divisor : PySem.W.nsIn K mainGlobals "common_divisor" = some (some (.ref p_common_divisor)))
  (l_common_divisor : K.lookup p_common_divisor = some ⟨oc_common_divisor, od_common_divisor, .func (PySem.W.fnOf "common_divisor" "common_divisor" (defArgs (topS 7)) (defBody (topS 7)) (defScope (topS 7)) .none kV_common_divisor dc_common_divisor pm_common_divisor an_common_divisor cd_common_divisor ct_common_divisor), sl_common_divisor⟩)
  (c_common_divisor : PySem.W.codeIn K cd_common_divisor "common_divisor" = true)
  (k_common_divisor : PySem.W.keepIn K (.ref p_common_divisor) = true)
  (a_is_fraction : PySem.W.nsIn K mainGlobals "is_fraction" = some (some (.ref p_is_fraction)))
  (l_is_fraction : K.lookup p_is_fraction = some ⟨oc_is_fraction, od_is_fraction, .func (PySem.W.fnOf "is_fraction" "is_fraction" (defArgs (topS 8)) (defBody (topS 8)) (defScope (topS 8)) .none kV_is_fraction dc_is_fraction pm_is_fraction an_is_fraction cd_is_fraction ct_is_fraction), sl_is_fraction⟩)
  (c_is_fraction : PySem.W.codeIn K cd_is_fraction "is_fraction" = true)
  (k_is_fraction : PySem.W.keepIn K (.ref p_is_fraction) = true)
  (a__law_feed : PySem.W.nsIn K mainGlobals "_law_feed" = some (some (.ref p__law_feed)))
  (l__law_feed : K.lookup p__law_feed = some ⟨oc__law_feed, od__law_feed, .func (PySem.W.fnOf "_law_feed" "_law_feed" (defArgs (topS 10)) (defBody (topS 10)) (defScope (topS 10)) .none kV__law_feed dc__law_feed pm__law_feed an__law_feed cd__law_feed ct__law_feed), sl__law_feed⟩)
  (c__law_feed : PySem.W.codeIn K cd__law_feed "_law_feed" = true)
  (k__law_feed : PySem.W.keepIn K (.ref p__law_feed) = true)
  (a__law_draw : PySem.W.nsIn K mainGlobals "_law_draw" = some (some (.ref p__law_draw)))
  (l__law_draw : K.lookup p__law_draw = some ⟨oc__law_draw, od__law_draw, .func (PySem.W.fnOf "_law_draw" "_law_draw" (defArgs (topS 11)) (defBody (topS 11)) (defScope (topS 11)) .none kV__law_draw dc__law_draw pm__law_draw an__law_draw cd__law_draw ct__law_draw), sl__law_draw⟩)
  (c__law_draw : PySem.W.codeIn K cd__law_draw "_law_draw" = true)
  (k__law_draw : PySem.W.keepIn K (.ref p__law_draw) = true)
  (a__law_spoilt : PySem.W.nsIn K mainGlobals "_law_spoilt" = some (some (.ref p__law_spoilt)))
  (l__law_spoilt : K.lookup p__law_spoilt = some ⟨oc__law_spoilt, od__law_spoilt, .func (PySem.W.fnOf "_law_spoilt" "_law_spoilt" (defArgs (topS 12)) (defBody (topS 12)) (defScope (topS 12)) .none kV__law_spoilt dc__law_spoilt pm__law_spoilt an__law_spoilt cd__law_spoilt ct__law_spoilt), sl__law_spoilt⟩)
  (c__law_spoilt : PySem.W.codeIn K cd__law_spoilt "_law_spoilt" = true)
  (k__law_spoilt : PySem.W.keepIn K (.ref p__law_spoilt) = true)
  (a__law_divisor : PySem.W.nsIn K mainGlobals "_law_divisor" = some (some (.ref p__law_divisor)))
  (l__law_divisor : K.lookup p__law_divisor = some ⟨oc__law_divisor, od__law_divisor, .func (PySem.W.fnOf "_law_divisor" "_law_divisor" (defArgs (topS 13)) (defBody (topS 13)) (defScope (topS 13)) .none kV__law_divisor dc__law_divisor pm__law_divisor an__law_divisor cd__law_divisor ct__law_divisor), sl__law_divisor⟩)
  (c__law_divisor : PySem.W.codeIn K cd__law_divisor "_law_divisor" = true)
  (k__law_divisor : PySem.W.keepIn K (.ref p__law_divisor) = true)
  (a__law_made : PySem.W.nsIn K mainGlobals "_law_made" = some (some (.ref p__law_made)))
  (l__law_made : K.lookup p__law_made = some ⟨oc__law_made, od__law_made, .func (PySem.W.fnOf "_law_made" "_law_made" (defArgs (topS 14)) (defBody (topS 14)) (defScope (topS 14)) .none kV__law_made dc__law_made pm__law_made an__law_made cd__law_made ct__law_made), sl__law_made⟩)
  (c__law_made : PySem.W.codeIn K cd__law_made "_law_made" = true)
  (k__law_made : PySem.W.keepIn K (.ref p__law_made) = true)
  (a__law_fraction : PySem.W.nsIn K mainGlobals "_law_fraction" = some (some (.ref p__law_fraction)))
  (l__law_fraction : K.lookup p__law_fraction = some ⟨oc__law_fraction, od__law_fraction, .func (PySem.W.fnOf "_law_fraction" "_law_fraction" (defArgs (topS 15)) (defBody (topS 15)) (defScope (topS 15)) .none kV__law_fraction dc__law_fraction pm__law_fraction an__law_fraction cd__law_fraction ct__law_fraction), sl__law_fraction⟩)
  (c__law_fraction : PySem.W.codeIn K cd__law_fraction "_law_fraction" = true)
  (k__law_fraction : PySem.W.keepIn K (.ref p__law_fraction) = true)
  (a__law_is_number : PySem.W.nsIn K mainGlobals "_law_is_number" = some (some (.ref p__law_is_number)))
  (l__law_is_number : K.lookup p__law_is_number = some ⟨oc__law_is_number, od__law_is_number, .func (PySem.W.fnOf "_law_is_number" "_law_is_number" (defArgs (topS 16)) (defBody (topS 16)) (defScope (topS 16)) .none kV__law_is_number dc__law_is_number pm__law_is_number an__law_is_number cd__law_is_number ct__law_is_number), sl__law_is_number⟩)
  (c__law_is_number : PySem.W.codeIn K cd__law_is_number "_law_is_number" = true)
  (k__law_is_number : PySem.W.keepIn K (.ref p__law_is_number) = true)
  (a__law_is_fraction : PySem.W.nsIn K mainGlobals "_law_is_fraction" = some (some (.ref p__law_is_fraction)))
  (l__law_is_fraction : K.lookup p__law_is_fraction = some ⟨oc__law_is_fraction, od__law_is_fraction, .func (PySem.W.fnOf "_law_is_fraction" "_law_is_fraction" (defArgs (topS 17)) (defBody (topS 17)) (defScope (topS 17)) .none kV__law_is_fraction dc__law_is_fraction pm__law_is_fraction an__law_is_fraction cd__law_is_fraction ct__law_is_fraction), sl__law_is_fraction⟩)
  (c__law_is_fraction : PySem.W.codeIn K cd__law_is_fraction "_law_is_fraction" = true)
  (k__law_is_fraction : PySem.W.keepIn K (.ref p__law_is_fraction) = true)
  (a__law_is_word : PySem.W.nsIn K mainGlobals "_law_is_word" = some (some (.ref p__law_is_word)))
  (l__law_is_word : K.lookup p__law_is_word = some ⟨oc__law_is_word, od__law_is_word, .func (PySem.W.fnOf "_law_is_word" "_law_is_word" (defArgs (topS 18)) (defBody (topS 18)) (defScope (topS 18)) .none kV__law_is_word dc__law_is_word pm__law_is_word an__law_is_word cd__law_is_word ct__law_is_word), sl__law_is_word⟩)
  (c__law_is_word : PySem.W.codeIn K cd__law_is_word "_law_is_word" = true)
  (k__law_is_word : PySem.W.keepIn K (.ref p__law_is_word) = true)
  (a__law_text : PySem.W.nsIn K mainGlobals "_law_text" = some (some (.ref p__law_text)))
  (l__law_text : K.lookup p__law_text = some ⟨oc__law_text, od__law_text, .func (PySem.W.fnOf "_law_text" "_law_text" (defArgs (topS 19)) (defBody (topS 19)) (defScope (topS 19)) .none kV__law_text dc__law_text pm__law_text an__law_text cd__law_text ct__law_text), sl__law_text⟩)
  (c__law_text : PySem.W.codeIn K cd__law_text "_law_text" = true)
  (k__law_text : PySem.W.keepIn K (.ref p__law_text) = true)
  (a__law_near : PySem.W.nsIn K mainGlobals "_law_near" = some (some (.ref p__law_near)))
  (l__law_near : K.lookup p__law_near = some ⟨oc__law_near, od__law_near, .func (PySem.W.fnOf "_law_near" "_law_near" (defArgs (topS 20)) (defBody (topS 20)) (defScope (topS 20)) .none kV__law_near dc__law_near pm__law_near an__law_near cd__law_near ct__law_near), sl__law_near⟩)
  (c__law_near : PySem.W.codeIn K cd__law_near "_law_near" = true)
  (k__law_near : PySem.W.keepIn K (.ref p__law_near) = true)
  (a_law : PySem.W.nsIn K mainGlobals "law" = some (some (.ref p_law)))
  (l_law : K.lookup p_law = some ⟨oc_law, od_law, .func (PySem.W.fnOf "law" "law" (defArgs (topS 21)) (defBody (topS 21)) (defScope (topS 21)) .none kV_law dc_law pm_law an_law cd_law ct_law), sl_law⟩)
  (c_law : PySem.W.codeIn K cd_law "law" = true)
  (k_law : PySem.W.keepIn K (.ref p_law) = true)
  (b_LETTERS : PySem.W.nsIn K mainGlobals "LETTERS" = some (some (.str "abcdefghijklmnopqrstuvwxyz" t_LETTERS_0)))
  (b_MOST_LETTERS : PySem.W.nsIn K mainGlobals "MOST_LETTERS" = some (some (.int 8 t_MOST_LETTERS_0)))
  (z_len : PySem.W.nsIn K mainGlobals "len" = some none)
  (z_abs : PySem.W.nsIn K mainGlobals "abs" = some none)
  (z_list : PySem.W.nsIn K mainGlobals "list" = some none)
  (z_tuple : PySem.W.nsIn K mainGlobals "tuple" = some none)
  (z_all : PySem.W.nsIn K mainGlobals "all" = some none)
  (z_any : PySem.W.nsIn K mainGlobals "any" = some none)
  (z_sum : PySem.W.nsIn K mainGlobals "sum" = some none)
  (z_max : PySem.W.nsIn K mainGlobals "max" = some none)
  (z_min : PySem.W.nsIn K mainGlobals "min" = some none)
  (z_repr : PySem.W.nsIn K mainGlobals "repr" = some none)
  (z_isinstance : PySem.W.nsIn K mainGlobals "isinstance" = some none)
  (z_int : PySem.W.nsIn K mainGlobals "int" = some none)
  (z_bool : PySem.W.nsIn K mainGlobals "bool" = some none)
  (z_str : PySem.W.nsIn K mainGlobals "str" = some none)
  (z_dict : PySem.W.nsIn K mainGlobals "dict" = some none)
  (z_range : PySem.W.nsIn K mainGlobals "range" = some none)
  (z_zip : PySem.W.nsIn K mainGlobals "zip" = some none)
  (z_enumerate : PySem.W.nsIn K mainGlobals "enumerate" = some none) : Facts K mg where
  blt := fun x hx => by
    simp only [bltNames, List.mem_cons, List.not_mem_nil, or_false] at hx
    rcases hx with rfl | rfl | rfl | rfl | rfl | rfl | rfl | rfl | rfl | rfl | rfl | rfl | rfl | rfl | rfl | rfl | rfl | rfl
    · exact PySem.W.mg_none_of X G z_len
    · exact PySem.W.mg_none_of X G z_abs
    · exact PySem.W.mg_none_of X G z_list
    · exact PySem.W.mg_none_of X G z_tuple
    · exact PySem.W.mg_none_of X G z_all
    · exact PySem.W.mg_none_of X G z_any
    · exact PySem.W.mg_none_of X G z_sum
    · exact PySem.W.mg_none_of X G z_max
    · exact PySem.W.mg_none_of X G z_min
    · exact PySem.W.mg_none_of X G z_repr
    · exact PySem.W.mg_none_of X G z_isinstance
    · exact PySem.W.mg_none_of X G z_int
    · exact PySem.W.mg_none_of X G z_bool
    · exact PySem.W.mg_none_of X G z_str
    · exact PySem.W.mg_none_of X G z_dict
    · exact PySem.W.mg_none_of X G z_range
    · exact PySem.W.mg_none_of X G z_zip
    · exact PySem.W.mg_none_of X G z_enumerate
  f_is_number := ⟨⟨_, _, fun_mk l_is_number c_is_number k_is_number, PySem.W.mg_of X G a_is_number, (fun_mk l_is_number c_is_number k_is_number).binds fun _ _ _ _ _ _ us hl => match us, hl with | [_], _ => rfl⟩, sc_is_number⟩
  f_are_numbers := ⟨⟨_, _, fun_mk l_are_numbers c_are_numbers k_are_numbers, PySem.W.mg_of X G a_are_numbers, (fun_mk l_are_numbers c_are_numbers k_are_numbers).binds fun _ _ _ _ _ _ us hl => match us, hl with | [_, _], _ => rfl⟩, sc_are_numbers⟩
  f_is_word := ⟨⟨_, _, fun_mk l_is_word c_is_word k_is_word, PySem.W.mg_of X G a_is_word, (fun_mk l_is_word c_is_word k_is_word).binds fun _ _ _ _ _ _ us hl => match us, hl with | [_], _ => rfl⟩, sc_is_word⟩
  f_common_divisor := ⟨⟨_, _, fun_mk l_common_divisor c_common_divisor k_common_divisor, PySem.W.mg_of X G a_common_divisor, (fun_mk l_common_divisor c_common_divisor k_common_divisor).binds fun _ _ _ _ _ _ us hl => match us, hl with | [_, _], _ => rfl⟩, sc_common_divisor⟩
  f_is_fraction := ⟨⟨_, _, fun_mk l_is_fraction c_is_fraction k_is_fraction, PySem.W.mg_of X G a_is_fraction, (fun_mk l_is_fraction c_is_fraction k_is_fraction).binds fun _ _ _ _ _ _ us hl => match us, hl with | [_], _ => rfl⟩, sc_is_fraction⟩
  f__law_feed := ⟨⟨_, _, fun_mk l__law_feed c__law_feed k__law_feed, PySem.W.mg_of X G a__law_feed, (fun_mk l__law_feed c__law_feed k__law_feed).binds fun _ _ _ _ _ _ us hl => match us, hl with | [_], _ => rfl⟩, sc__law_feed⟩
  f__law_draw := ⟨⟨_, _, fun_mk l__law_draw c__law_draw k__law_draw, PySem.W.mg_of X G a__law_draw, (fun_mk l__law_draw c__law_draw k__law_draw).binds fun _ _ _ _ _ _ us hl => match us, hl with | [_, _], _ => rfl⟩, sc__law_draw⟩
  f__law_spoilt := ⟨⟨_, _, fun_mk l__law_spoilt c__law_spoilt k__law_spoilt, PySem.W.mg_of X G a__law_spoilt, (fun_mk l__law_spoilt c__law_spoilt k__law_spoilt).binds fun _ _ _ _ _ _ us hl => match us, hl with | [_, _, _], _ => rfl⟩, sc__law_spoilt⟩
  f__law_divisor := ⟨⟨_, _, fun_mk l__law_divisor c__law_divisor k__law_divisor, PySem.W.mg_of X G a__law_divisor, (fun_mk l__law_divisor c__law_divisor k__law_divisor).binds fun _ _ _ _ _ _ us hl => match us, hl with | [_, _], _ => rfl⟩, sc__law_divisor⟩
  f__law_made := ⟨⟨_, _, fun_mk l__law_made c__law_made k__law_made, PySem.W.mg_of X G a__law_made, (fun_mk l__law_made c__law_made k__law_made).binds fun _ _ _ _ _ _ us hl => match us, hl with | [_, _], _ => rfl⟩, sc__law_made⟩
  f__law_fraction := ⟨⟨_, _, fun_mk l__law_fraction c__law_fraction k__law_fraction, PySem.W.mg_of X G a__law_fraction, (fun_mk l__law_fraction c__law_fraction k__law_fraction).binds fun _ _ _ _ _ _ us hl => match us, hl with | [_], _ => rfl⟩, sc__law_fraction⟩
  f__law_is_number := ⟨⟨_, _, fun_mk l__law_is_number c__law_is_number k__law_is_number, PySem.W.mg_of X G a__law_is_number, (fun_mk l__law_is_number c__law_is_number k__law_is_number).binds fun _ _ _ _ _ _ us hl => match us, hl with | [_], _ => rfl⟩, sc__law_is_number⟩
  f__law_is_fraction := ⟨⟨_, _, fun_mk l__law_is_fraction c__law_is_fraction k__law_is_fraction, PySem.W.mg_of X G a__law_is_fraction, (fun_mk l__law_is_fraction c__law_is_fraction k__law_is_fraction).binds fun _ _ _ _ _ _ us hl => match us, hl with | [_], _ => rfl⟩, sc__law_is_fraction⟩
  f__law_is_word := ⟨⟨_, _, fun_mk l__law_is_word c__law_is_word k__law_is_word, PySem.W.mg_of X G a__law_is_word, (fun_mk l__law_is_word c__law_is_word k__law_is_word).binds fun _ _ _ _ _ _ us hl => match us, hl with | [_], _ => rfl⟩, sc__law_is_word⟩
  f__law_text := ⟨⟨_, _, fun_mk l__law_text c__law_text k__law_text, PySem.W.mg_of X G a__law_text, (fun_mk l__law_text c__law_text k__law_text).binds fun _ _ _ _ _ _ us hl => match us, hl with | [_], _ => rfl⟩, sc__law_text⟩
  f__law_near := ⟨⟨_, _, fun_mk l__law_near c__law_near k__law_near, PySem.W.mg_of X G a__law_near, (fun_mk l__law_near c__law_near k__law_near).binds fun _ _ _ _ _ _ us hl => match us, hl with | [_], _ => rfl⟩, sc__law_near⟩
  f_law := ⟨_, _, fun_mk l_law c_law k_law, PySem.W.mg_of X G a_law, fun s v => .of_eq rfl⟩
  g_LETTERS := ⟨(.str "abcdefghijklmnopqrstuvwxyz"), _, PySem.W.mg_of X G b_LETTERS, (rv_str _ _), fun J H => RD.str _⟩
  g_MOST_LETTERS := ⟨(.int 8), _, PySem.W.mg_of X G b_MOST_LETTERS, (rv_int _ _), fun J H => RD.int _⟩
def W0 : Wd := { fn := fun _ => none, glb := fun x => if x = "LETTERS" then some (.str lettersS) else if x = "MOST_LETTERS" then some (.int 8) else none }
def F_is_number : FSem := runM n_is_number.length 1 [] (evSs W0 c_is_number)
def W1 : Wd := W0.add "is_number" ⟨1, [], F_is_number⟩
def F_are_numbers : FSem := runM n_are_numbers.length 2 [] (evSs W1 c_are_numbers)
def W2 : Wd := W1.add "are_numbers" ⟨2, [], F_are_numbers⟩
def F_is_word : FSem := runM n_is_word.length 1 [] (evSs W2 c_is_word)
def W3 : Wd := W2.add "is_word" ⟨1, [], F_is_word⟩
def W4 : Wd := W3.add "common_divisor" ⟨2, [], pureF 2 gGcd⟩
def F_is_fraction : FSem := runM n_is_fraction.length 1 [] (evSs W4 c_is_fraction)
def W5 : Wd := W4.add "is_fraction" ⟨1, [], F_is_fraction⟩
def F__law_draw : FSem := runM n__law_draw.length 2 [0] (evSs W5 c__law_draw)
def W6 : Wd := W5.add "_law_draw" ⟨2, [0], F__law_draw⟩
def W7 : Wd := W6.add "_law_spoilt" ⟨3, [0], fSpoil W6 8⟩
def F__law_divisor : FSem := runM n__law_divisor.length 2 [] (evSs W7 c__law_divisor)
def W8 : Wd := W7.add "_law_divisor" ⟨2, [], F__law_divisor⟩
def F__law_made : FSem := runM n__law_made.length 2 [] (evSs W8 c__law_made)
def W9 : Wd := W8.add "_law_made" ⟨2, [], F__law_made⟩
def F__law_fraction : FSem := runM n__law_fraction.length 1 [0] (evSs W9 c__law_fraction)
def W10 : Wd := W9.add "_law_fraction" ⟨1, [0], F__law_fraction⟩
def F__law_is_number : FSem := runM n__law_is_number.length 1 [] (evSs W10 c__law_is_number)
def W11 : Wd := W10.add "_law_is_number" ⟨1, [], F__law_is_number⟩
def F__law_is_fraction : FSem := runM n__law_is_fraction.length 1 [] (evSs W11 c__law_is_fraction)
def W12 : Wd := W11.add "_law_is_fraction" ⟨1, [], F__law_is_fraction⟩
def F__law_is_word : FSem := runM n__law_is_word.length 1 [] (evSs W12 c__law_is_word)
def W13 : Wd := W12.add "_law_is_word" ⟨1, [], F__law_is_word⟩
def F__law_text : FSem := runM n__law_text.length 1 [0] (evSs W13 c__law_text)
def W14 : Wd := W13.add "_law_text" ⟨1, [0], F__law_text⟩
def F__law_near : FSem := runM n__law_near.length 1 [] (evSs W14 c__law_near)
def W15 : Wd := W14.add "_law_near" ⟨1, [], F__law_near⟩
section
variable {P : Program} {w : World} {K : PySem.W.Frag} {mg : Str → Option Value}
theorem tab0 (Fa : Facts K mg) {base : Heap} : Tab P w K mg base 0 W0 := ⟨Fa.blt, fun _ _ h => (nomatch h), (fun x d h => by
  unfold W0 at h
  simp only at h
  split at h
  · rename_i e
    subst e
    cases h
    exact Fa.g_LETTERS
  · split at h
    · rename_i e
      subst e
      cases h
      exact Fa.g_MOST_LETTERS
    · cases h), rfl⟩
theorem tabN (Fa : Facts K mg) {base : Heap} : Tab P w K mg base 22 W15 := by
  have t0 : Tab P w K mg base 0 W0 := tab0 Fa
  have t1 : Tab P w K mg base 1 W1 := t0.add Fa.f_is_number ck_is_number rfl (F := F_is_number) (fun _ _ _ h => h)
  have t2 : Tab P w K mg base 2 W2 := t1.add Fa.f_are_numbers ck_are_numbers rfl (F := F_are_numbers) (fun _ _ _ h => h)
  have t3 : Tab P w K mg base 3 W3 := t2.add Fa.f_is_word ck_is_word rfl (F := F_is_word) (fun _ _ _ h => h)
  have t4 : Tab P w K mg base 4 W4 := t3.add Fa.f_common_divisor ck_common_divisor rfl (ok_common_divisor W3)
  have t5 : Tab P w K mg base 5 W5 := t4.add Fa.f_is_fraction ck_is_fraction rfl (F := F_is_fraction) (fun _ _ _ h => h)
  have t6 : Tab P w K mg base 6 W6 := t5.add Fa.f__law_draw ck__law_draw rfl (F := F__law_draw) (fun _ _ _ h => h)
  have t7 : Tab P w K mg base 14 W7 := Tab.recur t6 Fa.f__law_spoilt ck__law_spoilt rfl (F := fSpoil W6) (fun _ => rfl) (fun _ _ _ _ h => h) 8
  have t8 : Tab P w K mg base 15 W8 := t7.add Fa.f__law_divisor ck__law_divisor rfl (F := F__law_divisor) (fun _ _ _ h => h)
  have t9 : Tab P w K mg base 16 W9 := t8.add Fa.f__law_made ck__law_made rfl (F := F__law_made) (fun _ _ _ h => h)
  have t10 : Tab P w K mg base 17 W10 := t9.add Fa.f__law_fraction ck__law_fraction rfl (F := F__law_fraction) (fun _ _ _ h => h)
  have t11 : Tab P w K mg base 18 W11 := t10.add Fa.f__law_is_number ck__law_is_number rfl (F := F__law_is_number) (fun _ _ _ h => h)
  have t12 : Tab P w K mg base 19 W12 := t11.add Fa.f__law_is_fraction ck__law_is_fraction rfl (F := F__law_is_fraction) (fun _ _ _ h => h)
  have t13 : Tab P w K mg base 20 W13 := t12.add Fa.f__law_is_word ck__law_is_word rfl (F := F__law_is_word) (fun _ _ _ h => h)
  have t14 : Tab P w K mg base 21 W14 := t13.add Fa.f__law_text ck__law_text rfl (F := F__law_text) (fun _ _ _ h => h)
  have t15 : Tab P w K mg base 22 W15 := t14.add Fa.f__law_near ck__law_near rfl (F := F__law_near) (fun _ _ _ h => h)
  exact t15
end
theorem q_number : SpNum F_is_number := run_is_number (W := W0)
theorem q_numbers : SpNums F_are_numbers := run_are_numbers (W := W1) rfl q_number
theorem q_word : SpB wordB F_is_word := run_is_word (W := W2) rfl rfl
theorem q_frac : SpB fracB F_is_fraction := run_is_fraction (W := W4) rfl q_numbers rfl
theorem q_draw : SpDraw F__law_draw := run_draw (W := W5)
theorem q_spoil : SpSpoil 8 (fSpoil W6 8) := spoil_all rfl q_draw 8
theorem q_div : SpDiv F__law_divisor := run_divisor (W := W7)
theorem q_made : SpMade F__law_made := run_made (W := W8) rfl q_div
theorem q_fraction : SpFrac F__law_fraction := run_fraction (W := W9) rfl rfl q_draw q_made
theorem q_lnum : SpNum F__law_is_number := run_law_is_number (W := W10)
theorem q_lfrac : SpB fracB F__law_is_fraction := run_law_is_fraction (W := W11) rfl q_lnum rfl q_div
theorem q_lword : SpB wordB F__law_is_word := run_law_is_word (W := W12)
theorem q_text : SpText F__law_text := run_text (W := W13) rfl q_draw
theorem q_near : SpNear F__law_near := run_near (W := W14)
theorem wk : Wk W15 := ⟨⟨_, rfl, q_number⟩, ⟨_, rfl, q_word⟩, ⟨_, rfl, q_frac⟩, ⟨_, rfl, q_lnum⟩, ⟨_, rfl, q_lword⟩, ⟨_, rfl, q_lfrac⟩, ⟨_, rfl, q_fraction⟩, ⟨_, rfl, q_text⟩, ⟨_, rfl, q_near⟩, ⟨_, rfl, q_spoil⟩⟩
theorem law_main {P : Program} {w : World} {K : PySem.W.Frag} {mg : Str → Option Value} {fa : Addr} (Fa : Facts K mg) (hfa : mg "law" = some (.ref fa)) :
    ∃ fd : FuncData, (∀ (s : Shared) (u : Value), BindsTo s fd ⟨[u], []⟩ [("script", u)]) ∧ ∀ base : Heap, K.In base → base.Ns mainGlobals mg → FnG P w K mg base CX0 26 fa fd ["script"] (spLawG K) := by
  obtain ⟨f, fd, Fu, hmg, hb⟩ := Fa.f_law
  cases hfa.symm.trans hmg
  refine ⟨fd, hb, fun base _ _ => ?_⟩
  obtain ⟨ff, ffd, Ff, hfm, hfb⟩ := Fa.f__law_feed.fn
  have G := feed_ok (P := P) (w := w) (mg := mg) (base := base) (k := 0) Ff sc__law_feed (by exact visB_vis (by decide +kernel)) (by decide +kernel) (by rfl)
  exact (law_ok (i := 1) (fe := "_law_feed") (y := "feed") (tabN Fa) Fu sc_law (G.mono (by decide)) hfm Ff.kp hfb (by rfl) (by rfl) (by rfl) (by first | exact .inl (by decide +kernel) | exact .inr (by decide +kernel)) (by decide +kernel) (by decide +kernel) (by decide +kernel) (by decide +kernel) ck_law fun cells _ => law_run wk cells).mono (by decide)
end Fc

open PySem PySem.W PyProof.Rows
set_option maxHeartbeats 0 in
theorem PySem.Challenge.cw_framecourt_k01_numbers_words_fractions_b_holds : PySem.Challenge.rw_framecourt_k01_numbers_words_fractions_b.Holds := by
  w_on; o_law; k_head; (case hw => w_witness2)
  k_fill
  refine IL.walkG (l := PySem.Challenge.rw_framecourt_k01_numbers_words_fractions_b) (n := 63) (k := 26) (x := "script") (sp := fun w => IL.spLawG _) rfl (by decide) rfl ⟨rfl, by decide, by decide⟩ (fun w h Y => PySem.W.kIn_of Y) ?F (fun w H a ns hl hS => ⟨a, ns, rfl, hS, hl, fun _ => rfl⟩)
  case F =>
    intro w mg fa h KX G hmg
    refine' Fc.law_main (Fc.facts_mk KX G ?a_is_number ?l_is_number ?c_is_number ?k_is_number ?a_are_numbers ?l_are_numbers ?c_are_numbers ?k_are_numbers ?a_is_word ?l_is_word ?c_is_word ?k_is_word ?a_common_divisor ?l_common_divisor ?c_common_divisor ?k_common_divisor ?a_is_fraction ?l_is_fraction ?c_is_fraction ?k_is_fraction ?a__law_feed ?l__law_feed ?c__law_feed ?k__law_feed ?a__law_draw ?l__law_draw ?c__law_draw ?k__law_draw ?a__law_spoilt ?l__law_spoilt ?c__law_spoilt ?k__law_spoilt ?a__law_divisor ?l__law_divisor ?c__law_divisor ?k__law_divisor ?a__law_made ?l__law_made ?c__law_made ?k__law_made ?a__law_fraction ?l__law_fraction ?c__law_fraction ?k__law_fraction ?a__law_is_number ?l__law_is_number ?c__law_is_number ?k__law_is_number ?a__law_is_fraction ?l__law_is_fraction ?c__law_is_fraction ?k__law_is_fraction ?a__law_is_word ?l__law_is_word ?c__law_is_word ?k__law_is_word ?a__law_text ?l__law_text ?c__law_text ?k__law_text ?a__law_near ?l__law_near ?c__law_near ?k__law_near ?a_law ?l_law ?c_law ?k_law ?b_LETTERS ?b_MOST_LETTERS ?z_len ?z_abs ?z_list ?z_tuple ?z_all ?z_any ?z_sum ?z_max ?z_min ?z_repr ?z_isinstance ?z_int ?z_bool ?z_str ?z_dict ?z_range ?z_zip ?z_enumerate) hmg
    (case a_is_number => k_is); (case l_is_number => k_is); (case c_is_number => k_is); (case k_is_number => k_is); (case a_are_numbers => k_is); (case l_are_numbers => k_is); (case c_are_numbers => k_is); (case k_are_numbers => k_is); (case a_is_word => k_is); (case l_is_word => k_is); (case c_is_word => k_is); (case k_is_word => k_is); (case a_common_divisor => k_is); (case l_common_divisor => k_is); (case c_common_divisor => k_is); (case k_common_divisor => k_is); (case a_is_fraction => k_is); (case l_is_fraction => k_is); (case c_is_fraction => k_is); (case k_is_fraction => k_is); (case a__law_feed => k_is); (case l__law_feed => k_is); (case c__law_feed => k_is); (case k__law_feed => k_is); (case a__law_draw => k_is); (case l__law_draw => k_is); (case c__law_draw => k_is); (case k__law_draw => k_is); (case a__law_spoilt => k_is); (case l__law_spoilt => k_is); (case c__law_spoilt => k_is); (case k__law_spoilt => k_is); (case a__law_divisor => k_is); (case l__law_divisor => k_is); (case c__law_divisor => k_is); (case k__law_divisor => k_is); (case a__law_made => k_is); (case l__law_made => k_is); (case c__law_made => k_is); (case k__law_made => k_is); (case a__law_fraction => k_is); (case l__law_fraction => k_is); (case c__law_fraction => k_is); (case k__law_fraction => k_is); (case a__law_is_number => k_is); (case l__law_is_number => k_is); (case c__law_is_number => k_is); (case k__law_is_number => k_is); (case a__law_is_fraction => k_is); (case l__law_is_fraction => k_is); (case c__law_is_fraction => k_is); (case k__law_is_fraction => k_is); (case a__law_is_word => k_is); (case l__law_is_word => k_is); (case c__law_is_word => k_is); (case k__law_is_word => k_is); (case a__law_text => k_is); (case l__law_text => k_is); (case c__law_text => k_is); (case k__law_text => k_is); (case a__law_near => k_is); (case l__law_near => k_is); (case c__law_near => k_is); (case k__law_near => k_is); (case a_law => k_is); (case l_law => k_is); (case c_law => k_is); (case k_law => k_is); (case b_LETTERS => k_is); (case b_MOST_LETTERS => k_is); (case z_len => k_is); (case z_abs => k_is); (case z_list => k_is); (case z_tuple => k_is); (case z_all => k_is); (case z_any => k_is); (case z_sum => k_is); (case z_max => k_is); (case z_min => k_is); (case z_repr => k_is); (case z_isinstance => k_is); (case z_int => k_is); (case z_bool => k_is); (case z_str => k_is); (case z_dict => k_is); (case z_range => k_is); (case z_zip => k_is); (case z_enumerate => k_is)


