import PyProof.Rows.All
import HandS.ForMost
import HandS.IsInst
import HandS.TupAny
import HandS.TupMul
import HandS.Zip
import HandS.Wide
import HandS.Deep
import HandS.Flow
import PyProof.ReprReads
import HandS.Style
import HandS.NoneIn
import HandS.Walk
import HandS.Rev
import HandS.SetFor
import HandS.Conv
import HandS.Sort
import PyProof.CollectIter
import PyProof.WalksMore
import HandS.Dict
import HandS.EndBits
import PySem.Challenge.RW_framecourt_k20_trees_and_scenes_by_kind
set_option Elab.async false
set_option linter.all false
set_option maxRecDepth 100000
set_option maxHeartbeats 4000000
set_option exponentiation.threshold 2000
namespace IL
open PySem PySem.Spec PyProof.Rows L2

/-! own trees over data: a leaf is data that stays as it is, an inner node is an object that one holder alone has -/
abbrev D := PyData
inductive T where
  | leaf (d : D)
  | lst (ts : List T)
  | tup (ts : List T)
  | dct (kvs : List (Key × T))
instance : Inhabited T := ⟨.leaf .none⟩
def kD : Key → D
  | .inl i => .int i
  | .inr x => .str x
mutual
def frz : T → D
  | .leaf d => d
  | .lst ts => .list (frzs ts)
  | .tup ts => .tuple (frzs ts)
  | .dct kvs => .dict (frzk kvs)
def frzs : List T → List D
  | [] => []
  | t :: ts => frz t :: frzs ts
def frzk : List (Key × T) → List (D × D)
  | [] => []
  | (k, t) :: r => (kD k, frz t) :: frzk r
end
theorem frzs_map (ts : List T) : frzs ts = ts.map frz := by
  induction ts with
  | nil => rfl
  | cons t ts ih => simp [frzs, ih]

/-! ### a tuple that stands: marked, or of the written part -/
def PT2 (K : PySem.W.Frag) (J : Addr → Prop) (H : Hp) (a : Addr) (xs : List V) : Prop := (J a ∧ H a = some (.tup xs)) ∨ SqT K (fun _ => none) a xs
section
variable {K : PySem.W.Frag} {J J' : Addr → Prop} {H H' : Hp} {a : Addr} {xs : List V}
theorem PT2.sq (h : PT2 K J H a xs) : SqT K H a xs := by
  rcases h with ⟨_, h⟩ | h
  · exact .inl (.inl h)
  · rcases h with (h | ⟨_, h⟩) | h
    · cases h
    · cases h
    · exact .inr h
theorem PT2.mono (h : PT2 K J H a xs) (hj : ∀ b, J b → J' b) (hk : ∀ b o, J b → H b = some o → H' b = some o) : PT2 K J' H' a xs := by
  rcases h with ⟨j, h⟩ | h
  · exact .inl ⟨hj _ j, hk _ _ j h⟩
  · exact .inr h
end

mutual
/-- v is the data d, and stays so while what J marks stays -/
inductive RD (K : PySem.W.Frag) (J : Addr → Prop) (H : Hp) : V → D → Prop
  | non : RD K J H .non .none
  | bl (b : Bool) : RD K J H (.bl b) (.bool b)
  | int (i : Int) : RD K J H (.int i) (.int i)
  | str (x : Str) : RD K J H (.str x) (.str x)
  | lst {a : Addr} {xs : List V} {ds : List D} : J a → H a = some (.lst xs) → RDs K J H xs ds → RD K J H (.ref a) (.list ds)
  | tup {a : Addr} {xs : List V} {ds : List D} : PT2 K J H a xs → RDs K J H xs ds → RD K J H (.ref a) (.tuple ds)
  | dct {a : Addr} {kvs : List (Key × V)} {ds : List (D × D)} : J a → H a = some (.dK kvs) → RDk K J H kvs ds → RD K J H (.ref a) (.dict ds)
inductive RDs (K : PySem.W.Frag) (J : Addr → Prop) (H : Hp) : List V → List D → Prop
  | nil : RDs K J H [] []
  | cons {v : V} {vs : List V} {d : D} {ds : List D} : RD K J H v d → RDs K J H vs ds → RDs K J H (v :: vs) (d :: ds)
inductive RDk (K : PySem.W.Frag) (J : Addr → Prop) (H : Hp) : List (Key × V) → List (D × D) → Prop
  | nil : RDk K J H [] []
  | cons {k : Key} {v : V} {vs : List (Key × V)} {d : D} {ds : List (D × D)} : RD K J H v d → RDk K J H vs ds → RDk K J H ((k, v) :: vs) ((kD k, d) :: ds)
end
mutual
/-- v is the own tree t, its objects at fp -/
inductive RT (K : PySem.W.Frag) (J : Addr → Prop) (H : Hp) : V → T → List Addr → Prop
  | leaf {v : V} {d : D} : RD K J H v d → RT K J H v (.leaf d) []
  | lst {a : Addr} {xs : List V} {ts : List T} {fp : List Addr} : H a = some (.lst xs) → RTs K J H xs ts fp → RT K J H (.ref a) (.lst ts) (a :: fp)
  | tup {a : Addr} {xs : List V} {ts : List T} {fp : List Addr} : H a = some (.tup xs) → RTs K J H xs ts fp → RT K J H (.ref a) (.tup ts) (a :: fp)
  | dct {a : Addr} {kvs : List (Key × V)} {ts : List (Key × T)} {fp : List Addr} : H a = some (.dK kvs) → RTk K J H kvs ts fp → RT K J H (.ref a) (.dct ts) (a :: fp)
inductive RTs (K : PySem.W.Frag) (J : Addr → Prop) (H : Hp) : List V → List T → List Addr → Prop
  | nil : RTs K J H [] [] []
  | cons {v : V} {vs : List V} {t : T} {ts : List T} {f g : List Addr} : RT K J H v t f → RTs K J H vs ts g → RTs K J H (v :: vs) (t :: ts) (f ++ g)
inductive RTk (K : PySem.W.Frag) (J : Addr → Prop) (H : Hp) : List (Key × V) → List (Key × T) → List Addr → Prop
  | nil : RTk K J H [] [] []
  | cons {k : Key} {v : V} {vs : List (Key × V)} {t : T} {ts : List (Key × T)} {f g : List Addr} : RT K J H v t f → RTk K J H vs ts g → RTk K J H ((k, v) :: vs) ((k, t) :: ts) (f ++ g)
end
section
variable {K : PySem.W.Frag} {J J' : Addr → Prop} {H H' : Hp}
mutual
theorem RD.mono (hj : ∀ b, J b → J' b) (hk : ∀ b o, J b → H b = some o → H' b = some o) : ∀ {v : V} {d : D}, RD K J H v d → RD K J' H' v d
  | _, _, .non => .non
  | _, _, .bl b => .bl b
  | _, _, .int i => .int i
  | _, _, .str x => .str x
  | _, _, .lst j p r => .lst (hj _ j) (hk _ _ j p) (RDs.mono hj hk r)
  | _, _, .tup p r => .tup (p.mono hj hk) (RDs.mono hj hk r)
  | _, _, .dct j p r => .dct (hj _ j) (hk _ _ j p) (RDk.mono hj hk r)
theorem RDs.mono (hj : ∀ b, J b → J' b) (hk : ∀ b o, J b → H b = some o → H' b = some o) : ∀ {v : List V} {d : List D}, RDs K J H v d → RDs K J' H' v d
  | _, _, .nil => .nil
  | _, _, .cons r s => .cons (RD.mono hj hk r) (RDs.mono hj hk s)
theorem RDk.mono (hj : ∀ b, J b → J' b) (hk : ∀ b o, J b → H b = some o → H' b = some o) : ∀ {v : List (Key × V)} {d : List (D × D)}, RDk K J H v d → RDk K J' H' v d
  | _, _, .nil => .nil
  | _, _, .cons r s => .cons (RD.mono hj hk r) (RDk.mono hj hk s)
end
mutual
theorem RT.mono (hj : ∀ b, J b → J' b) (hk : ∀ b o, J b → H b = some o → H' b = some o) : ∀ {v : V} {t : T} {fp : List Addr}, RT K J H v t fp → (∀ b o, b ∈ fp → H b = some o → H' b = some o) → RT K J' H' v t fp
  | _, _, _, .leaf r, _ => .leaf (r.mono hj hk)
  | _, _, _, .lst p r, h => .lst (h _ _ List.mem_cons_self p) (RTs.mono hj hk r fun b o hb => h b o (List.mem_cons_of_mem _ hb))
  | _, _, _, .tup p r, h => .tup (h _ _ List.mem_cons_self p) (RTs.mono hj hk r fun b o hb => h b o (List.mem_cons_of_mem _ hb))
  | _, _, _, .dct p r, h => .dct (h _ _ List.mem_cons_self p) (RTk.mono hj hk r fun b o hb => h b o (List.mem_cons_of_mem _ hb))
theorem RTs.mono (hj : ∀ b, J b → J' b) (hk : ∀ b o, J b → H b = some o → H' b = some o) : ∀ {v : List V} {t : List T} {fp : List Addr}, RTs K J H v t fp → (∀ b o, b ∈ fp → H b = some o → H' b = some o) → RTs K J' H' v t fp
  | _, _, _, .nil, _ => .nil
  | _, _, _, .cons r s, h => .cons (RT.mono hj hk r fun b o hb => h b o (List.mem_append_left _ hb)) (RTs.mono hj hk s fun b o hb => h b o (List.mem_append_right _ hb))
theorem RTk.mono (hj : ∀ b, J b → J' b) (hk : ∀ b o, J b → H b = some o → H' b = some o) : ∀ {v : List (Key × V)} {t : List (Key × T)} {fp : List Addr}, RTk K J H v t fp → (∀ b o, b ∈ fp → H b = some o → H' b = some o) → RTk K J' H' v t fp
  | _, _, _, .nil, _ => .nil
  | _, _, _, .cons r s, h => .cons (RT.mono hj hk r fun b o hb => h b o (List.mem_append_left _ hb)) (RTk.mono hj hk s fun b o hb => h b o (List.mem_append_right _ hb))
end
mutual
theorem RT.dom : ∀ {v : V} {t : T} {fp : List Addr}, RT K J H v t fp → ∀ b ∈ fp, H b ≠ none
  | _, _, _, .leaf r, b, h => by cases h
  | _, _, _, .lst p r, b, h => by
    rcases List.mem_cons.mp h with rfl | h
    · rw [p]; exact fun z => nomatch z
    · exact RTs.dom r b h
  | _, _, _, .tup p r, b, h => by
    rcases List.mem_cons.mp h with rfl | h
    · rw [p]; exact fun z => nomatch z
    · exact RTs.dom r b h
  | _, _, _, .dct p r, b, h => by
    rcases List.mem_cons.mp h with rfl | h
    · rw [p]; exact fun z => nomatch z
    · exact RTk.dom r b h
theorem RTs.dom : ∀ {v : List V} {t : List T} {fp : List Addr}, RTs K J H v t fp → ∀ b ∈ fp, H b ≠ none
  | _, _, _, .nil, b, h => by cases h
  | _, _, _, .cons r s, b, h => by
    rcases List.mem_append.mp h with h | h
    · exact RT.dom r b h
    · exact RTs.dom s b h
theorem RTk.dom : ∀ {v : List (Key × V)} {t : List (Key × T)} {fp : List Addr}, RTk K J H v t fp → ∀ b ∈ fp, H b ≠ none
  | _, _, _, .nil, b, h => by cases h
  | _, _, _, .cons r s, b, h => by
    rcases List.mem_append.mp h with h | h
    · exact RT.dom r b h
    · exact RTk.dom s b h
end
mutual
/-- an own tree given up: data -/
theorem RT.frz : ∀ {v : V} {t : T} {fp : List Addr}, RT K J H v t fp → (∀ b, J b → J' b) → (∀ b ∈ fp, J' b) → RD K J' H v (frz t)
  | _, _, _, .leaf r, hj, _ => r.mono hj fun _ _ _ e => e
  | _, _, _, .lst p r, hj, h => .lst (h _ List.mem_cons_self) p (RTs.frz r hj fun b hb => h b (List.mem_cons_of_mem _ hb))
  | _, _, _, .tup p r, hj, h => .tup (.inl ⟨h _ List.mem_cons_self, p⟩) (RTs.frz r hj fun b hb => h b (List.mem_cons_of_mem _ hb))
  | _, _, _, .dct p r, hj, h => .dct (h _ List.mem_cons_self) p (RTk.frz r hj fun b hb => h b (List.mem_cons_of_mem _ hb))
theorem RTs.frz : ∀ {v : List V} {t : List T} {fp : List Addr}, RTs K J H v t fp → (∀ b, J b → J' b) → (∀ b ∈ fp, J' b) → RDs K J' H v (frzs t)
  | _, _, _, .nil, _, _ => .nil
  | _, _, _, .cons r s, hj, h => .cons (RT.frz r hj fun b hb => h b (List.mem_append_left _ hb)) (RTs.frz s hj fun b hb => h b (List.mem_append_right _ hb))
theorem RTk.frz : ∀ {v : List (Key × V)} {t : List (Key × T)} {fp : List Addr}, RTk K J H v t fp → (∀ b, J b → J' b) → (∀ b ∈ fp, J' b) → RDk K J' H v (frzk t)
  | _, _, _, .nil, _, _ => .nil
  | _, _, _, .cons r s, hj, h => .cons (RT.frz r hj fun b hb => h b (List.mem_append_left _ hb)) (RTk.frz s hj fun b hb => h b (List.mem_append_right _ hb))
end
mutual
/-- as the library's data -/
theorem RD.dp : ∀ {v : V} {d : D}, RD K J H v d → d.canLay0 = true → Dp K H v d
  | _, _, .non, _ => .non
  | _, _, .bl b, _ => .bl b
  | _, _, .int i, _ => .int i
  | _, _, .str x, _ => .str x
  | _, _, .lst _ p r, h => .lst (.inl (.inl p)) (RDs.dp r (by simpa [PyData.canLay0] using h))
  | _, _, .tup p r, h => .tup p.sq (RDs.dp r (by simpa [PyData.canLay0] using h))
  | _, _, .dct j p r, h => by simp [PyData.canLay0] at h
theorem RDs.dp : ∀ {v : List V} {d : List D}, RDs K J H v d → PyData.canLayAll0 d = true → DpAll K H v d
  | _, _, .nil, _ => .nil
  | _, _, .cons r s, h => by
    simp only [PyData.canLayAll0, Bool.and_eq_true] at h
    exact .cons (r.dp h.1) (RDs.dp s h.2)
end
theorem RDs.length : ∀ {v : List V} {d : List D}, RDs K J H v d → v.length = d.length
  | _, _, .nil => rfl
  | _, _, .cons _ s => by simp [RDs.length s]
theorem RDs.get : ∀ {v : List V} {d : List D} {i : Nat} {x : D}, RDs K J H v d → d[i]? = some x → ∃ y, v[i]? = some y ∧ RD K J H y x
  | _, _, _, _, .nil, e => by simp at e
  | _, _, 0, x, .cons r s, e => by
    simp at e; subst e; exact ⟨_, by simp, r⟩
  | _, _, i + 1, x, .cons r s, e => by
    obtain ⟨y, h1, h2⟩ := RDs.get (i := i) s (by simpa using e)
    exact ⟨y, by simpa using h1, h2⟩
theorem RDs.append : ∀ {v : List V} {d : List D} {v2 : List V} {d2 : List D}, RDs K J H v d → RDs K J H v2 d2 → RDs K J H (v ++ v2) (d ++ d2)
  | _, _, _, _, .nil, h => h
  | _, _, _, _, .cons r s, h => .cons r (RDs.append s h)
theorem RDs.take : ∀ {v : List V} {d : List D} (n : Nat), RDs K J H v d → RDs K J H (v.take n) (d.take n)
  | _, _, 0, _ => .nil
  | _, _, _ + 1, .nil => .nil
  | _, _, n + 1, .cons r s => .cons r (RDs.take n s)
theorem RDs.drop : ∀ {v : List V} {d : List D} (n : Nat), RDs K J H v d → RDs K J H (v.drop n) (d.drop n)
  | _, _, 0, h => h
  | _, _, _ + 1, .nil => .nil
  | _, _, n + 1, .cons r s => RDs.drop n s
theorem RDs.rev {v : List V} {d : List D} (h : RDs K J H v d) : RDs K J H v.reverse d.reverse := by
  have go : ∀ (v : List V) (d : List D), RDs K J H v d → RDs K J H v.reverse d.reverse := by
    intro v
    induction v with
    | nil => intro d h; cases h; exact .nil
    | cons a v ih =>
      intro d h
      cases h with
      | cons r s => simp only [List.reverse_cons]; exact (ih _ s).append (.cons r .nil)
  exact go v d h
theorem RTs.length : ∀ {v : List V} {d : List T} {fp : List Addr}, RTs K J H v d fp → v.length = d.length
  | _, _, _, .nil => rfl
  | _, _, _, .cons _ s => by simp [RTs.length s]
theorem RTs.append : ∀ {v : List V} {d : List T} {f : List Addr} {v2 : List V} {d2 : List T} {f2 : List Addr}, RTs K J H v d f → RTs K J H v2 d2 f2 → RTs K J H (v ++ v2) (d ++ d2) (f ++ f2)
  | _, _, _, _, _, _, .nil, h => h
  | _, _, _, _, _, _, .cons r s, h => by
    simp only [List.cons_append, List.append_assoc]
    exact .cons r (RTs.append s h)
theorem RTs.get : ∀ {v : List V} {d : List T} {f : List Addr} {i : Nat} {x : T}, RTs K J H v d f → d[i]? = some x → ∃ y g, v[i]? = some y ∧ RT K J H y x g ∧ ∀ b ∈ g, b ∈ f
  | _, _, _, _, _, .nil, e => by simp at e
  | _, _, _, 0, x, .cons (f := f) r s, e => by
    simp at e; subst e; exact ⟨_, f, by simp, r, fun b hb => List.mem_append_left _ hb⟩
  | _, _, _, i + 1, x, .cons r s, e => by
    obtain ⟨y, g, h1, h2, h3⟩ := RTs.get (i := i) s (by simpa using e)
    exact ⟨y, g, by simpa using h1, h2, fun b hb => List.mem_append_right _ (h3 b hb)⟩
theorem RTs.leaves : ∀ {v : List V} {d : List D}, RDs K J H v d → RTs K J H v (d.map T.leaf) []
  | _, _, .nil => .nil
  | _, _, .cons r s => by
    have h := RTs.cons (.leaf r) (RTs.leaves s)
    simpa using h
end

/-! ### the slots -/
abbrev En := List (Option T)
inductive RE (K : PySem.W.Frag) (J : Addr → Prop) (H : Hp) : L2.St → En → List Addr → Prop
  | nil : RE K J H [] [] []
  | out {x : Option V} {σ : L2.St} {e : En} {f : List Addr} : RE K J H σ e f → RE K J H (x :: σ) (none :: e) f
  | held {v : V} {t : T} {σ : L2.St} {e : En} {f g : List Addr} : RT K J H v t f → RE K J H σ e g → RE K J H (some v :: σ) (some t :: e) (f ++ g)
/-- from J, H with F ours to J', H' with F' ours -/
structure Tr (J : Addr → Prop) (H : Hp) (F : List Addr) (J' : Addr → Prop) (H' : Hp) (F' : List Addr) : Prop where
  keep : ∀ b o, H b = some o → b ∉ F → H' b = some o
  dom : ∀ b, H b ≠ none → H' b ≠ none
  jj : ∀ b, J b → J' b
  fnew : ∀ b ∈ F', b ∈ F ∨ H b = none
  jnew : ∀ b, J' b → J b ∨ b ∈ F ∨ H b = none
/-- an own tree beside F -/
structure Own (K : PySem.W.Frag) (J : Addr → Prop) (H : Hp) (F : List Addr) (v : V) (t : T) (fp : List Addr) : Prop where
  rt : RT K J H v t fp
  nd : (F ++ fp).Nodup
  jf : ∀ a ∈ fp, ¬ J a
structure Owns (K : PySem.W.Frag) (J : Addr → Prop) (H : Hp) (F : List Addr) (vs : List V) (ts : List T) (fp : List Addr) : Prop where
  rt : RTs K J H vs ts fp
  nd : (F ++ fp).Nodup
  jf : ∀ a ∈ fp, ¬ J a
/-- a body's state -/
structure SR (K : PySem.W.Frag) (pn : List (Nat × V)) (σ : L2.St) (H : Hp) (e : En) (J : Addr → Prop) (F : List Addr) : Prop where
  re : RE K J H σ e F
  nd : F.Nodup
  jf : ∀ a ∈ F, ¬ J a
  jd : ∀ a, J a → H a ≠ none
  pin : ∀ p ∈ pn, σ[p.1]? = some (some p.2)
section
variable {K : PySem.W.Frag} {J J' J1 J2 : Addr → Prop} {H H' H1 H2 : Hp} {F F' F1 F2 G : List Addr}
theorem Tr.refl : Tr J H F J H F := ⟨fun _ _ e _ => e, fun _ e => e, fun _ e => e, fun _ e => .inl e, fun _ e => .inl e⟩
theorem Tr.sub (h : ∀ b ∈ F', b ∈ F) : Tr J H F J H F' := ⟨fun _ _ e _ => e, fun _ e => e, fun _ e => e, fun b e => .inl (h b e), fun _ e => .inl e⟩
theorem Tr.trans (a : Tr J H F J1 H1 F1) (b : Tr J1 H1 F1 J2 H2 F2) : Tr J H F J2 H2 F2 where
  keep := fun c o e n => b.keep c o (a.keep c o e n) fun z => by
    rcases a.fnew c z with z | z
    · exact n z
    · rw [e] at z; cases z
  dom := fun c e => b.dom c (a.dom c e)
  jj := fun c e => b.jj c (a.jj c e)
  fnew := fun c z => by
    rcases b.fnew c z with z | z
    · exact a.fnew c z
    · right
      by_cases q : H c = none
      · exact q
      · exact absurd z (a.dom c q)
  jnew := fun c z => by
    rcases b.jnew c z with z | z | z
    · exact a.jnew c z
    · rcases a.fnew c z with z | z
      · exact .inr (.inl z)
      · exact .inr (.inr z)
    · by_cases q : H c = none
      · exact .inr (.inr q)
      · exact absurd z (a.dom c q)
theorem Tr.wide (a : Tr J H F J1 H1 F1) (b : ∀ c ∈ F, c ∈ G) (d : ∀ c ∈ F2, c ∈ F1) : Tr J H G J1 H1 F2 :=
  ⟨fun c o e n => a.keep c o e fun z => n (b c z), a.dom, a.jj, fun c z => (a.fnew c (d c z)).imp (b c) id, fun c z => (a.jnew c z).imp id (Or.imp (b c) id)⟩
/-- with G held aside -/
theorem Tr.aside (b : Tr J H F J' H' F') : Tr J H (F ++ G) J' H' (F' ++ G) :=
  ⟨fun c o e n => b.keep c o e fun z => n (List.mem_append_left _ z), b.dom, b.jj, fun c z => by
    rcases List.mem_append.mp z with z | z
    · exact (b.fnew c z).imp (List.mem_append_left _) id
    · exact .inl (List.mem_append_right _ z), fun c z => (b.jnew c z).imp id (Or.imp (List.mem_append_left _) id)⟩
theorem RD.step {v : V} {d : D} (r : RD K J H v d) (tr : Tr J H F J' H' F') (jf : ∀ a ∈ F, ¬ J a) : RD K J' H' v d :=
  r.mono tr.jj fun b o j e => tr.keep b o e fun z => jf b z j
theorem RDs.step {v : List V} {d : List D} (r : RDs K J H v d) (tr : Tr J H F J' H' F') (jf : ∀ a ∈ F, ¬ J a) : RDs K J' H' v d :=
  r.mono tr.jj fun b o j e => tr.keep b o e fun z => jf b z j
theorem aside_nd {fp : List Addr} (nd : (F ++ fp).Nodup) (tr : Tr J H F J' H' F') (hd : ∀ b ∈ fp, H b ≠ none) (nd' : F'.Nodup) : (F' ++ fp).Nodup := by
  rw [List.nodup_append] at nd ⊢
  refine ⟨nd', nd.2.1, fun a ha b hb e => ?_⟩
  subst e
  rcases tr.fnew a ha with z | z
  · exact nd.2.2 a z a hb rfl
  · exact hd a hb z
theorem not_both {fp : List Addr} {a : Addr} (nd : (F ++ fp).Nodup) (h1 : a ∈ fp) : a ∉ F := fun h => (List.nodup_append.mp nd).2.2 a h a h1 rfl
theorem Owns.step {vs : List V} {ts : List T} {fp : List Addr} (o : Owns K J H F vs ts fp) (tr : Tr J H F J' H' F') (jf : ∀ a ∈ F, ¬ J a) (nd' : F'.Nodup) : Owns K J' H' F' vs ts fp where
  rt := o.rt.mono tr.jj (fun b u j e => tr.keep b u e fun z => jf b z j) fun b u hb e => tr.keep b u e (not_both o.nd hb)
  nd := aside_nd o.nd tr (RTs.dom o.rt) nd'
  jf := fun a ha z => by
    rcases tr.jnew a z with z | z | z
    · exact o.jf a ha z
    · exact not_both o.nd ha z
    · exact RTs.dom o.rt a ha z
theorem Own.step {v : V} {t : T} {fp : List Addr} (o : Own K J H F v t fp) (tr : Tr J H F J' H' F') (jf : ∀ a ∈ F, ¬ J a) (nd' : F'.Nodup) : Own K J' H' F' v t fp where
  rt := o.rt.mono tr.jj (fun b u j e => tr.keep b u e fun z => jf b z j) fun b u hb e => tr.keep b u e (not_both o.nd hb)
  nd := aside_nd o.nd tr (RT.dom o.rt) nd'
  jf := fun a ha z => by
    rcases tr.jnew a z with z | z | z
    · exact o.jf a ha z
    · exact not_both o.nd ha z
    · exact RT.dom o.rt a ha z
theorem RE.length {σ : L2.St} {e : En} (r : RE K J H σ e F) : σ.length = e.length := by
  induction r with
  | nil => rfl
  | out _ ih => simp [ih]
  | held _ _ ih => simp [ih]
theorem RE.dom {σ : L2.St} {e : En} (r : RE K J H σ e F) : ∀ b ∈ F, H b ≠ none := by
  induction r with
  | nil => intro b hb; cases hb
  | out _ ih => exact ih
  | held r _ ih =>
    intro b hb
    rcases List.mem_append.mp hb with h | h
    · exact RT.dom r b h
    · exact ih b h
theorem RE.mono {σ : L2.St} {e : En} (r : RE K J H σ e F) (hj : ∀ b, J b → J' b) (hk : ∀ b o, J b → H b = some o → H' b = some o) (hf : ∀ b o, b ∈ F → H b = some o → H' b = some o) : RE K J' H' σ e F := by
  induction r with
  | nil => exact .nil
  | out _ ih => exact .out (ih hf)
  | held r _ ih => exact .held (r.mono hj hk fun b o hb => hf b o (List.mem_append_left _ hb)) (ih fun b o hb => hf b o (List.mem_append_right _ hb))
theorem RE.take {σ : L2.St} {e : En} (r : RE K J H σ e F) : ∀ {i : Nat} {t : T}, e[i]? = some (some t) → ∃ v fp F', σ[i]? = some (some v) ∧ RT K J H v t fp ∧ F.Perm (F' ++ fp) ∧ RE K J H σ (e.set i none) F' := by
  induction r with
  | nil => intro i t h; simp at h
  | out r ih =>
    intro i t h
    cases i with
    | zero => simp at h
    | succ i =>
      obtain ⟨v, fp, F', h1, h2, h3, h4⟩ := ih (i := i) (by simpa using h)
      exact ⟨v, fp, F', by simpa using h1, h2, h3, .out h4⟩
  | held q r ih =>
    rename_i v0 t0 σ0 e0 f g
    intro i t h
    cases i with
    | zero =>
      simp at h; subst h
      exact ⟨v0, f, g, rfl, q, List.perm_append_comm, .out r⟩
    | succ i =>
      obtain ⟨v, fp, F', h1, h2, h3, h4⟩ := ih (i := i) (by simpa using h)
      refine ⟨v, fp, f ++ F', by simpa using h1, h2, ?_, .held q h4⟩
      rw [List.append_assoc]
      exact List.Perm.append_left f h3
theorem RE.put {σ : L2.St} {e : En} (r : RE K J H σ e F) : ∀ {i : Nat} {t : T} {v : V} {fp : List Addr}, e[i]? = some none → σ[i]? = some (some v) → RT K J H v t fp → ∃ F', F'.Perm (F ++ fp) ∧ RE K J H σ (e.set i (some t)) F' := by
  induction r with
  | nil => intro i t v fp h; simp at h
  | out r ih =>
    intro i t v fp h h2 q
    cases i with
    | zero =>
      simp at h2; subst h2
      exact ⟨_, List.perm_append_comm, .held q r⟩
    | succ i =>
      obtain ⟨F', h1, h3⟩ := ih (i := i) (by simpa using h) (by simpa using h2) q
      exact ⟨F', h1, .out h3⟩
  | held q0 r ih =>
    rename_i v0 t0 σ0 e0 f g
    intro i t v fp h h2 q
    cases i with
    | zero => simp at h
    | succ i =>
      obtain ⟨F', h1, h3⟩ := ih (i := i) (by simpa using h) (by simpa using h2) q
      refine ⟨f ++ F', ?_, .held q0 h3⟩
      rw [List.append_assoc]
      exact List.Perm.append_left f h1
/-- a slot given up, its value forgotten -/
theorem RE.clear {σ : L2.St} {e : En} (r : RE K J H σ e F) : ∀ (i : Nat) (x : Option V), ∃ F' g, F.Perm (F' ++ g) ∧ RE K J H (σ.set i x) (e.set i none) F' := by
  induction r with
  | nil => intro i x; exact ⟨[], [], List.Perm.refl _, .nil⟩
  | out r ih =>
    intro i x
    cases i with
    | zero => exact ⟨_, [], by simp, .out r⟩
    | succ i =>
      obtain ⟨F', g, h1, h2⟩ := ih i x
      exact ⟨F', g, h1, .out h2⟩
  | held q0 r ih =>
    rename_i v0 t0 σ0 e0 f g0
    intro i x
    cases i with
    | zero => exact ⟨g0, f, List.perm_append_comm, .out r⟩
    | succ i =>
      obtain ⟨F', g, h1, h2⟩ := ih i x
      refine ⟨f ++ F', g, ?_, .held q0 h2⟩
      rw [List.append_assoc]
      exact List.Perm.append_left f h1
variable {pn : List (Nat × V)} {σ : L2.St} {e : En}
theorem nd_left {A B : List Addr} (h : (A ++ B).Nodup) : A.Nodup := (List.nodup_append.mp h).1
theorem SR.take (s : SR K pn σ H e J F) {i : Nat} {t : T} (h : e[i]? = some (some t)) :
    ∃ v fp F', σ[i]? = some (some v) ∧ Own K J H F' v t fp ∧ SR K pn σ H (e.set i none) J F' ∧ F.Perm (F' ++ fp) := by
  obtain ⟨v, fp, F', h1, h2, h3, h4⟩ := s.re.take h
  have nd := h3.nodup_iff.mp s.nd
  exact ⟨v, fp, F', h1, ⟨h2, nd, fun a ha => s.jf a (h3.mem_iff.mpr (List.mem_append_right _ ha))⟩, ⟨h4, nd_left nd, fun a ha => s.jf a (h3.mem_iff.mpr (List.mem_append_left _ ha)), s.jd, s.pin⟩, h3⟩
theorem SR.put (s : SR K pn σ H e J F) {i : Nat} {t : T} {v : V} {fp : List Addr} (h : e[i]? = some none) (hv : σ[i]? = some (some v)) (o : Own K J H F v t fp) :
    ∃ F', SR K pn σ H (e.set i (some t)) J F' ∧ F'.Perm (F ++ fp) := by
  obtain ⟨F', h1, h2⟩ := s.re.put h hv o.rt
  refine ⟨F', ⟨h2, h1.nodup_iff.mpr o.nd, fun a ha => ?_, s.jd, s.pin⟩, h1⟩
  rcases List.mem_append.mp (h1.mem_iff.mp ha) with z | z
  · exact s.jf a z
  · exact o.jf a z
theorem SR.clear (s : SR K pn σ H e J F) (i : Nat) (x : Option V) (hp : ∀ p ∈ pn, p.1 ≠ i) :
    ∃ F', SR K pn (σ.set i x) H (e.set i none) J F' ∧ ∀ b ∈ F', b ∈ F := by
  obtain ⟨F', g, h1, h2⟩ := s.re.clear i x
  refine ⟨F', ⟨h2, nd_left (h1.nodup_iff.mp s.nd), fun a ha => s.jf a (h1.mem_iff.mpr (List.mem_append_left _ ha)), s.jd, fun p hp' => ?_⟩, fun b hb => h1.mem_iff.mpr (List.mem_append_left _ hb)⟩
  rw [List.getElem?_set_ne (fun z => hp p hp' z.symm)]
  exact s.pin p hp'
/-- a slot stored -/
theorem SR.set (s : SR K pn σ H e J F) {i : Nat} {t : T} {v : V} {fp : List Addr} (hi : i < e.length) (hp : ∀ p ∈ pn, p.1 ≠ i) (o : Own K J H F v t fp) :
    ∃ F', SR K pn (σ.set i (some v)) H (e.set i (some t)) J F' ∧ ∀ b ∈ F', b ∈ F ++ fp := by
  obtain ⟨F1, s1, h1⟩ := s.clear i (some v) hp
  have hs : σ.length = e.length := s.re.length
  have o1 : Own K J H F1 v t fp := ⟨o.rt, by
    have nd := o.nd
    rw [List.nodup_append] at nd ⊢
    exact ⟨s1.nd, nd.2.1, fun a ha b hb => nd.2.2 a (h1 a ha) b hb⟩, o.jf⟩
  obtain ⟨F', s2, h2⟩ := s1.put (i := i) (t := t) (v := v) (fp := fp) (by simp [hi]) (by simp [hs, hi]) o1
  rw [List.set_set] at s2
  refine ⟨F', s2, fun b hb => ?_⟩
  rcases List.mem_append.mp (h2.mem_iff.mp hb) with z | z
  · exact List.mem_append_left _ (h1 b z)
  · exact List.mem_append_right _ z
/-- the state carried along, the slots as they are -/
theorem SR.step (s : SR K pn σ H e J F) (hj : ∀ b, J b → J' b) (hk : ∀ b o, (J b ∨ b ∈ F) → H b = some o → H' b = some o) (jd : ∀ a, J' a → H' a ≠ none) (jf : ∀ a ∈ F, ¬ J' a) : SR K pn σ H' e J' F :=
  ⟨s.re.mono hj (fun b o j => hk b o (.inl j)) (fun b o j => hk b o (.inr j)), s.nd, jf, jd, s.pin⟩
/-- an own tree beside is given up -/
theorem SR.give (s : SR K pn σ H e J F) {v : V} {t : T} {fp : List Addr} (o : Own K J H F v t fp) :
    SR K pn σ H e (fun b => J b ∨ b ∈ fp) F ∧ RD K (fun b => J b ∨ b ∈ fp) H v (IL.frz t) ∧ Tr J H (F ++ fp) (fun b => J b ∨ b ∈ fp) H F := by
  refine ⟨s.step (fun _ j => .inl j) (fun _ _ _ q => q) (fun a z => ?_) (fun a ha z => ?_), o.rt.frz (fun _ j => .inl j) fun _ h => .inr h, ⟨fun _ _ q _ => q, fun _ q => q, fun _ j => .inl j, fun b hb => .inl (List.mem_append_left _ hb), fun b z => ?_⟩⟩
  · rcases z with z | z
    · exact s.jd a z
    · exact RT.dom o.rt a z
  · rcases z with z | z
    · exact s.jf a ha z
    · exact not_both o.nd z ha
  · rcases z with z | z
    · exact .inl z
    · exact .inr (.inl (List.mem_append_right _ z))
/-- a new object, ours -/
theorem SR.laid (s : SR K pn σ H e J F) {p : Addr} {o : HO} (hp : H p = none) : SR K pn σ (upd H p o) e J F ∧ Tr J H F J (upd H p o) (F ++ [p]) ∧ p ∉ F ∧ ¬ J p := by
  have ne : ∀ b u, H b = some u → upd H p o b = some u := fun b u e => by rw [upd_ne (ne_of_none e hp)]; exact e
  have hj : ¬ J p := fun z => s.jd p z hp
  have hF : p ∉ F := fun z => s.re.dom p z hp
  have dm : ∀ b, H b ≠ none → upd H p o b ≠ none := fun b q => by
    by_cases hb : b = p
    · subst hb; rw [upd_same]; exact fun z => nomatch z
    · rw [upd_ne hb]; exact q
  refine ⟨s.step (fun _ j => j) (fun b u _ q => ne b u q) (fun a z => dm a (s.jd a z)) s.jf, ⟨fun b u q _ => ne b u q, dm, fun _ j => j, fun b hb => ?_, fun b z => .inl z⟩, hF, hj⟩
  rcases List.mem_append.mp hb with z | z
  · exact .inl z
  · simp at z; subst z; exact .inr hp
end
end IL

namespace IL
open PySem PySem.Spec PyProof.Rows L2

/-! ### runs over slots -/
structure Xn where
  cls : Str
  args : List D
inductive Res (α : Type) where
  | bad
  | ok (a : α) (e : En)
  | exc (x : Xn) (e : En)
abbrev M (α : Type) := En → Res α
def ret {α : Type} (a : α) : M α := fun e => .ok a e
def bad {α : Type} : M α := fun _ => .bad
def bnd {α β : Type} (f : M α) (g : α → M β) : M β := fun e => match f e with
  | .ok a e' => g a e'
  | .bad => .bad
  | .exc x e' => .exc x e'
def opt {α : Type} (o : Option α) : M α := match o with
  | some a => ret a
  | none => bad
theorem bnd_ok {α β : Type} {f : M α} {g : α → M β} {e e2 : En} {b : β} (h : bnd f g e = .ok b e2) : ∃ a e1, f e = .ok a e1 ∧ g a e1 = .ok b e2 := by
  unfold bnd at h
  split at h
  · exact ⟨_, _, by assumption, h⟩
  · cases h
  · cases h
theorem opt_ok {α : Type} {o : Option α} {e e2 : En} {b : α} (h : opt o e = .ok b e2) : o = some b ∧ e2 = e := by
  unfold opt at h
  split at h
  · cases h; exact ⟨rfl, rfl⟩
  · cases h

/-- what comes of values alone: new objects, the rest as it was -/
structure New (K : PySem.W.Frag) (J : Addr → Prop) (H : Hp) (J' : Addr → Prop) (H' : Hp) (v : V) (t : T) (fp : List Addr) : Prop where
  rt : RT K J' H' v t fp
  nd : fp.Nodup
  fr : ∀ a ∈ fp, H a = none ∧ ¬ J' a
  keep : ∀ b o, H b = some o → H' b = some o
  jj : ∀ b, J b → J' b
  jnew : ∀ b, J' b → J b ∨ H b = none
  jd : ∀ b, J' b → H' b ≠ none
section
variable {K : PySem.W.Frag} {J J' : Addr → Prop} {H H' : Hp} {F : List Addr} {pn : List (Nat × V)} {σ : L2.St} {e : En} {v : V} {t : T} {d : D} {fp : List Addr}
theorem New.same (r : RD K J H v d) (jd : ∀ b, J b → H b ≠ none) : New K J H J H v (.leaf d) [] :=
  ⟨.leaf r, .nil, fun _ h => (nomatch h), fun _ _ e => e, fun _ e => e, fun _ e => .inl e, jd⟩
theorem New.sr (n : New K J H J' H' v t fp) (s : SR K pn σ H e J F) : SR K pn σ H' e J' F ∧ Own K J' H' F v t fp ∧ Tr J H F J' H' (F ++ fp) := by
  have dm : ∀ b, H b ≠ none → H' b ≠ none := fun b q => by
    cases q' : H b with
    | none => exact absurd q' q
    | some o => rw [n.keep b o q']; exact fun z => nomatch z
  refine ⟨s.step n.jj (fun b o _ q => n.keep b o q) n.jd (fun a ha z => ?_), ⟨n.rt, ?_, fun a ha => (n.fr a ha).2⟩, ⟨fun b o q _ => n.keep b o q, dm, n.jj, fun b hb => ?_, fun b z => ?_⟩⟩
  · rcases n.jnew a z with z | z
    · exact s.jf a ha z
    · exact s.re.dom a ha z
  · rw [List.nodup_append]
    refine ⟨s.nd, n.nd, fun a ha b hb z => ?_⟩
    subst z
    exact s.re.dom a ha (n.fr a hb).1
  · rcases List.mem_append.mp hb with z | z
    · exact .inl z
    · exact .inr (n.fr b z).1
  · rcases n.jnew b z with z | z
    · exact .inl z
    · exact .inr (.inr z)
/-- a new list of our own, of data -/
theorem New.list {xs : List V} {ds : List D} {p : Addr} (r : RDs K J H xs ds) (jd : ∀ b, J b → H b ≠ none) (hp : H p = none) : New K J H J (upd H p (.lst xs)) (.ref p) (.lst (ds.map T.leaf)) [p] := by
  have keep : ∀ b o, H b = some o → upd H p (.lst xs) b = some o := fun b o e => by rw [upd_ne (ne_of_none e hp)]; exact e
  refine ⟨?_, by simp, fun a ha => ?_, keep, fun _ e => e, fun _ e => .inl e, fun b z => ?_⟩
  · have h := RTs.leaves (r.mono (J' := J) (H' := upd H p (.lst xs)) (fun _ e => e) fun b o _ e => keep b o e)
    exact .lst upd_same h
  · simp at ha; subst ha
    exact ⟨hp, fun z => jd _ z hp⟩
  · cases q : H b with
    | none => exact absurd q (jd b z)
    | some o => rw [keep b o q]; exact fun z => nomatch z
/-- a new tuple, of data: it stays -/
theorem New.tuple {xs : List V} {ds : List D} {p : Addr} (r : RDs K J H xs ds) (jd : ∀ b, J b → H b ≠ none) (hp : H p = none) : New K J H (fun b => J b ∨ b = p) (upd H p (.tup xs)) (.ref p) (.leaf (.tuple ds)) [] := by
  have keep : ∀ b o, H b = some o → upd H p (.tup xs) b = some o := fun b o e => by rw [upd_ne (ne_of_none e hp)]; exact e
  refine ⟨.leaf (.tup (.inl ⟨.inr rfl, upd_same⟩) (r.mono (fun _ e => .inl e) fun b o _ e => keep b o e)), .nil, fun _ h => (nomatch h), keep, fun _ e => .inl e, fun b z => ?_, fun b z => ?_⟩
  · rcases z with z | z
    · exact .inl z
    · subst z; exact .inr hp
  · rcases z with z | z
    · cases q : H b with
      | none => exact absurd q (jd b z)
      | some o => rw [keep b o q]; exact fun z => nomatch z
    · subst z; rw [upd_same]; exact fun z => nomatch z
end

/-! ### readings -/
section
variable (K : PySem.W.Frag) (pn : List (Nat × V))
def rdE (f : M T) : TE := fun σ H Q => ∃ e J F, SR K pn σ H e J F ∧ ∃ t e', f e = .ok t e' ∧ ∀ v H' J' F' fp, SR K pn σ H' e' J' F' → Own K J' H' F' v t fp → Tr J H F J' H' (F' ++ fp) → Q v H'
def rdD (f : M D) : TE := fun σ H Q => ∃ e J F, SR K pn σ H e J F ∧ ∃ t e', f e = .ok t e' ∧ ∀ v H' J' F', SR K pn σ H' e' J' F' → RD K J' H' v t → Tr J H F J' H' F' → Q v H'
def rdEs (f : M (List T)) : TA := fun σ H Q => ∃ e J F, SR K pn σ H e J F ∧ ∃ t e', f e = .ok t e' ∧ ∀ v H' J' F' fp, SR K pn σ H' e' J' F' → Owns K J' H' F' v t fp → Tr J H F J' H' (F' ++ fp) → Q v H'
def rdDs (f : M (List D)) : TA := fun σ H Q => ∃ e J F, SR K pn σ H e J F ∧ ∃ t e', f e = .ok t e' ∧ ∀ v H' J' F', SR K pn σ H' e' J' F' → RDs K J' H' v t → Tr J H F J' H' F' → Q v H'
end
theorem PE.weak {X : Cx} {e : Expr} {t t' : TE} (h : PE X e t) (w : ∀ σ H Q, t' σ H Q → t σ H Q) : PE X e t' := ⟨fun pins s σ H Q I q => h.run pins s σ H Q I (w σ H Q q)⟩
theorem PA.weak {X : Cx} {e : List Expr} {t t' : TA} (h : PA X e t) (w : ∀ σ H Q, t' σ H Q → t σ H Q) : PA X e t' := ⟨fun pos pins s σ H Q I q => h.run pos pins s σ H Q I (w σ H Q q)⟩
theorem PT.weak {X : Cx} {e : Expr} {t t' : TT} (h : PT X e t) (w : ∀ σ H Q, t' σ H Q → t σ H Q) : PT X e t' := ⟨fun pins s σ H Q I q => h.run pins s σ H Q I (w σ H Q q)⟩
theorem PS.weak {X : Cx} {e : Stmt} {t t' : TS} (h : PS X e t) (w : ∀ (D : Ends) (σ : L2.St) (H : Hp), t' D σ H → t D σ H) : PS X e t' := ⟨fun pins s σ H D I q => h.run pins s σ H D I (w D σ H q)⟩
theorem PSs.weak {X : Cx} {e : List Stmt} {t t' : TS} (h : PSs X e t) (w : ∀ (D : Ends) (σ : L2.St) (H : Hp), t' D σ H → t D σ H) : PSs X e t' := ⟨fun pins s σ H D I q => h.run pins s σ H D I (w D σ H q)⟩

def lf (f : M D) : M T := bnd f fun d => ret (.leaf d)
def fz (f : M T) : M D := bnd f fun t => ret (frz t)
def fzs (f : M (List T)) : M (List D) := bnd f fun t => ret (frzs t)
section
variable {X : Cx} {pn : List (Nat × V)} {a b c : Expr} {pos : Pos}
theorem pe_lf {f : M D} (h : PE X a (rdD X.K pn f)) : PE X a (rdE X.K pn (lf f)) := PE.weak h fun σ H Q ⟨e, J, F, s, t, e', h, q⟩ => by
  obtain ⟨d, e1, h1, h2⟩ := bnd_ok h
  cases h2
  exact ⟨e, J, F, s, d, e', h1, fun v H' J' F' s' r tr => q v H' J' F' [] s' ⟨.leaf r, by simpa using s'.nd, fun _ z => nomatch z⟩ (by simpa using tr)⟩
theorem pe_fz {f : M T} (h : PE X a (rdE X.K pn f)) : PE X a (rdD X.K pn (fz f)) := PE.weak h fun σ H Q ⟨e, J, F, s, t, e', h, q⟩ => by
  obtain ⟨d, e1, h1, h2⟩ := bnd_ok h
  cases h2
  refine ⟨e, J, F, s, d, e', h1, fun v H' J' F' fp s' o tr => ?_⟩
  obtain ⟨g1, g2, g3⟩ := s'.give o
  exact q v H' _ F' g1 g2 (tr.trans g3)
/-- constants -/
theorem pe_const' {v : V} {d : D} (h : PE X a (tC v)) (hv : ∀ J H, RD X.K J H v d) : PE X a (rdD X.K pn (ret d)) := PE.weak h fun σ H Q ⟨e, J, F, s, t, e', h, q⟩ => by
  cases h
  exact q v H J F s (hv _ _) .refl
/-- a name's value, given up -/
def gVar (i : Nat) : M D := fun e => match e[i]? with
  | some (some t) => .ok (frz t) (e.set i (some (.leaf (frz t))))
  | _ => .bad
theorem take_freeze {K : PySem.W.Frag} {σ : L2.St} {H : Hp} {e : En} {J : Addr → Prop} {F : List Addr} {i : Nat} {t : T} (s : SR K pn σ H e J F) (h : e[i]? = some (some t)) :
    ∃ v J' F', σ[i]? = some (some v) ∧ SR K pn σ H (e.set i (some (.leaf (frz t)))) J' F' ∧ RD K J' H v (frz t) ∧ Tr J H F J' H F' := by
  obtain ⟨v, fp, F1, hv, o, s1, pm⟩ := s.take h
  obtain ⟨g1, g2, g3⟩ := s1.give o
  have hi : i < e.length := (List.getElem?_eq_some_iff.mp h).1
  obtain ⟨F2, s2, h2⟩ := g1.put (i := i) (t := .leaf (frz t)) (v := v) (fp := []) (by simp [hi]) hv ⟨.leaf g2, by simpa using g1.nd, fun _ z => nomatch z⟩
  rw [List.set_set] at s2
  refine ⟨v, _, F2, hv, s2, g2, ?_⟩
  have t0 : Tr J H F J H (F1 ++ fp) := Tr.sub fun b hb => pm.mem_iff.mpr hb
  have t1 := t0.trans g3
  exact t1.trans (Tr.sub fun b hb => by simpa using h2.mem_iff.mp hb)
theorem pe_var' {i : Nat} (h : PE X a (tVar i)) : PE X a (rdD X.K pn (gVar i)) := PE.weak h fun σ H Q ⟨e, J, F, s, t, e', h, q⟩ => by
  unfold gVar at h
  split at h
  · rename_i t0 h0
    cases h
    obtain ⟨v, J', F', hv, s', r, tr⟩ := take_freeze s h0
    exact ⟨v, hv, q v H J' F' s' r tr⟩
  · cases h

/-! ### operators by values -/
def OpS (X : Cx) (f : Value → Value → Sem Value) (g : D → D → Option T) : Prop :=
  ∃ r, OpR X f r ∧ ∀ x y t, g x y = some t → ∀ (J : Addr → Prop) (H : Hp) (v u : V), (∀ b, J b → H b ≠ none) → RD X.K J H v x → RD X.K J H u y → ∀ Q : VK, (∀ w H' J' fp, New X.K J H J' H' w t fp → Q w H') → r v u H Q
def orr {α : Type} (a b : Option α) : Option α := match a with
  | some t => some t
  | none => b
theorem OpS.or {f : Value → Value → Sem Value} {g g' : D → D → Option T} (h : OpS X f g) (h' : OpS X f g') : OpS X f (fun x y => orr (g x y) (g' x y)) := by
  obtain ⟨r, h1, h2⟩ := h
  obtain ⟨r', h1', h2'⟩ := h'
  refine ⟨fun x y H Q => r x y H Q ∨ r' x y H Q, fun pins s σ H x y v u Q I rx ry q => ?_, fun x y t e J H v u jd rx ry Q q => ?_⟩
  · rcases q with q | q
    · exact h1 pins s σ H x y v u Q I rx ry q
    · exact h1' pins s σ H x y v u Q I rx ry q
  · cases e1 : g x y with
    | none =>
      simp only [e1, orr] at e
      exact .inr (h2' x y t e J H v u jd rx ry Q q)
    | some t' =>
      simp only [e1, orr] at e
      exact .inl (h2 x y t (by rw [e1]; exact e) J H v u jd rx ry Q q)
def gBin (g : D → D → Option T) (fa fb : M D) : M T := bnd fa fun x => bnd fb fun y => opt (g x y)
theorem tOp_rd {r : R2} {g : D → D → Option T} (hg : ∀ x y t, g x y = some t → ∀ (J : Addr → Prop) (H : Hp) (v u : V), (∀ b, J b → H b ≠ none) → RD X.K J H v x → RD X.K J H u y → ∀ Q : VK, (∀ w H' J' fp, New X.K J H J' H' w t fp → Q w H') → r v u H Q)
    {fa fb : M D} {σ : L2.St} {H : Hp} {Q : VK} (h : rdE X.K pn (gBin g fa fb) σ H Q) : tOp r (rdD X.K pn fa) (rdD X.K pn fb) σ H Q := by
  obtain ⟨e, J, F, s, t, e', h, q⟩ := h
  obtain ⟨x, e1, h1, h⟩ := bnd_ok h
  obtain ⟨y, e2, h2, h⟩ := bnd_ok h
  obtain ⟨h3, rfl⟩ := opt_ok h
  refine ⟨e, J, F, s, x, e1, h1, fun v H1 J1 F1 s1 r1 tr1 => ?_⟩
  refine ⟨e1, J1, F1, s1, y, e', h2, fun u H2 J2 F2 s2 r2 tr2 => ?_⟩
  refine hg x y t h3 J2 H2 v u s2.jd (r1.step tr2 s1.jf) r2 Q fun w H' J' fp n => ?_
  obtain ⟨s3, o3, tr3⟩ := n.sr s2
  exact q w H' J' F2 fp s3 o3 ((tr1.trans tr2).trans tr3)
theorem pe_bin' {op : Operator} {g : D → D → Option T} {fa fb : M D} (ho : OpS X (binaryOp op) g) (ha : PE X a (rdD X.K pn fa)) (hb : PE X b (rdD X.K pn fb)) : PE X (.BinOp a op b pos) (rdE X.K pn (gBin g fa fb)) := by
  obtain ⟨r, h1, h2⟩ := ho
  exact PE.weak (pe_op h1 ha hb) fun σ H Q q => tOp_rd h2 q
theorem pe_cmp' {op : CmpOp} {g : D → D → Option T} {fa fb : M D} (ho : OpS X (compareOp op) g) (ha : PE X a (rdD X.K pn fa)) (hb : PE X b (rdD X.K pn fb)) (hm : behindInMarks op b = false) : PE X (.Compare a [op] [b] pos) (rdE X.K pn (gBin g fa fb)) := by
  obtain ⟨r, h1, h2⟩ := ho
  exact PE.weak (pe_cmpR h1 ha hb hm) fun σ H Q q => tOp_rd h2 q

/-- truth of a value that is True or False -/
def asB (t : T) : Option Bool := match t with
  | .leaf (.bool b) => some b
  | _ => none
theorem asB_some {t : T} {b : Bool} (h : asB t = some b) : t = .leaf (.bool b) := by
  unfold asB at h
  split at h
  · cases h; rfl
  · cases h
theorem own_bool {K : PySem.W.Frag} {J : Addr → Prop} {H : Hp} {F : List Addr} {v : V} {b : Bool} {fp : List Addr} (o : Own K J H F v (.leaf (.bool b)) fp) : v = .bl b ∧ fp = [] := by
  have h := o.rt
  cases h with
  | leaf r => cases r; exact ⟨rfl, rfl⟩
def gAnd (f g : M T) : M T := bnd f fun t => bnd (opt (asB t)) fun b => if b then g else ret (.leaf (.bool false))
def gOr (f g : M T) : M T := bnd f fun t => bnd (opt (asB t)) fun b => if b then ret (.leaf (.bool true)) else g
def gNot (f : M T) : M T := bnd f fun t => bnd (opt (asB t)) fun b => ret (.leaf (.bool (!b)))
def gIf (f g k : M T) : M T := bnd f fun t => bnd (opt (asB t)) fun b => if b then g else k
theorem own_leaf_bl {K : PySem.W.Frag} {J : Addr → Prop} {H : Hp} {F : List Addr} {b : Bool} (nd : F.Nodup) : Own K J H F (.bl b) (.leaf (.bool b)) [] := ⟨.leaf (.bl b), by simpa using nd, fun _ z => nomatch z⟩
theorem pe_and' {f g : M T} {rest : List Expr} (ha : PE X a (rdE X.K pn f)) (hb : PE X (.BoolOp .And (b :: rest) pos) (rdE X.K pn g)) : PE X (.BoolOp .And (a :: b :: rest) pos) (rdE X.K pn (gAnd f g)) :=
  PE.weak (pe_and ha hb) fun σ H Q ⟨e, J, F, s, t, e', h, q⟩ => by
    obtain ⟨x, e1, h1, h⟩ := bnd_ok h
    obtain ⟨k, e2, h2, h4⟩ := bnd_ok h
    obtain ⟨h3, rfl⟩ := opt_ok h2
    have hx := asB_some h3
    subst hx
    refine ⟨e, J, F, s, _, _, h1, fun v H1 J1 F1 fp s1 o1 tr1 => ?_⟩
    obtain ⟨rfl, rfl⟩ := own_bool o1
    simp only [List.append_nil] at tr1
    refine ⟨k, rfl, ?_⟩
    cases k with
    | true =>
      rw [if_pos rfl] at h4 ⊢
      exact ⟨_, J1, F1, s1, t, e', h4, fun v H' J' F' fp s' o' tr' => q v H' J' F' fp s' o' (tr1.trans tr')⟩
    | false =>
      rw [if_neg Bool.false_ne_true] at h4 ⊢
      cases h4
      exact q _ H1 J1 F1 [] s1 (own_leaf_bl s1.nd) (by simpa using tr1)
theorem pe_or' {f g : M T} {rest : List Expr} (ha : PE X a (rdE X.K pn f)) (hb : PE X (.BoolOp .Or (b :: rest) pos) (rdE X.K pn g)) : PE X (.BoolOp .Or (a :: b :: rest) pos) (rdE X.K pn (gOr f g)) :=
  PE.weak (pe_or ha hb) fun σ H Q ⟨e, J, F, s, t, e', h, q⟩ => by
    obtain ⟨x, e1, h1, h⟩ := bnd_ok h
    obtain ⟨k, e2, h2, h4⟩ := bnd_ok h
    obtain ⟨h3, rfl⟩ := opt_ok h2
    have hx := asB_some h3
    subst hx
    refine ⟨e, J, F, s, _, _, h1, fun v H1 J1 F1 fp s1 o1 tr1 => ?_⟩
    obtain ⟨rfl, rfl⟩ := own_bool o1
    simp only [List.append_nil] at tr1
    refine ⟨k, rfl, ?_⟩
    cases k with
    | false =>
      rw [if_neg Bool.false_ne_true] at h4 ⊢
      exact ⟨_, J1, F1, s1, t, e', h4, fun v H' J' F' fp s' o' tr' => q v H' J' F' fp s' o' (tr1.trans tr')⟩
    | true =>
      rw [if_pos rfl] at h4 ⊢
      cases h4
      exact q _ H1 J1 F1 [] s1 (own_leaf_bl s1.nd) (by simpa using tr1)
theorem pe_not' {f : M T} (ha : PE X a (rdE X.K pn f)) : PE X (.UnaryOp .Not a pos) (rdE X.K pn (gNot f)) :=
  PE.weak (pe_not ha) fun σ H Q ⟨e, J, F, s, t, e', h, q⟩ => by
    obtain ⟨x, e1, h1, h⟩ := bnd_ok h
    obtain ⟨k, e2, h2, h4⟩ := bnd_ok h
    obtain ⟨h3, rfl⟩ := opt_ok h2
    have hx := asB_some h3
    subst hx
    cases h4
    refine ⟨e, J, F, s, _, _, h1, fun v H1 J1 F1 fp s1 o1 tr1 => ?_⟩
    obtain ⟨rfl, rfl⟩ := own_bool o1
    simp only [List.append_nil] at tr1
    exact ⟨k, rfl, q _ H1 J1 F1 [] s1 (own_leaf_bl s1.nd) (by simpa using tr1)⟩
/-- a test -/
def rdT (K : PySem.W.Frag) (pn : List (Nat × V)) (f : M Bool) : TT := fun σ H Q => ∃ e J F, SR K pn σ H e J F ∧ ∃ b e', f e = .ok b e' ∧ ∀ H' J' F', SR K pn σ H' e' J' F' → Tr J H F J' H' F' → Q b H'
def tst (f : M T) : M Bool := bnd f fun t => opt (asB t)
theorem rdT_of {f : M T} {σ : L2.St} {H : Hp} {Q : Bool → Hp → Prop} (h : rdT X.K pn (tst f) σ H Q) : rdE X.K pn f σ H (fun x H1 => ∃ k, x = .bl k ∧ Q k H1) := by
  obtain ⟨e, J, F, s, t, e', h, q⟩ := h
  obtain ⟨x, e1, h1, h⟩ := bnd_ok h
  obtain ⟨h3, rfl⟩ := opt_ok h
  have hx := asB_some h3
  subst hx
  refine ⟨e, J, F, s, _, _, h1, fun v H1 J1 F1 fp s1 o1 tr1 => ?_⟩
  obtain ⟨rfl, rfl⟩ := own_bool o1
  simp only [List.append_nil] at tr1
  exact ⟨t, rfl, q H1 J1 F1 s1 tr1⟩
def notIf : Expr → Bool
  | .IfExp .. => false
  | _ => true
/-- an expression does what f says, as a value and as a test -/
def nstar : Expr → Bool
  | .Starred .. => false
  | _ => true
structure IE (X : Cx) (pn : List (Nat × V)) (e : Expr) (f : M T) : Prop where
  pe : PE X e (rdE X.K pn f)
  pt : notIf e = true → PT X e (rdT X.K pn (tst f))
  ns : nstar e = true
theorem ie_mk {f : M T} (h : PE X a (rdE X.K pn f)) (hs : nstar a = true := by rfl) (he : ∀ whole, isTrue a X.env whole = (do let v ← whole; standAt a.pos; holding [v] (truthy v)) := by intro _; rfl) : IE X pn a f :=
  ⟨h, fun _ => PT.weak (pt_val h he) fun σ H Q q => rdT_of q, hs⟩
theorem pw_of {op : BoolOp} {vs : List Expr} {t : TT} (h : PT X (.BoolOp op vs pos) t) : PW X (.BoolOp op vs pos) t := ⟨fun _ pins s σ H Q I q => h.run pins s σ H Q I q⟩
def cond {α : Type} (f : M Bool) (g k : M α) : M α := bnd f fun b => if b then g else k
theorem pe_ite' {f : M Bool} {g k : M T} (hc : PT X c (rdT X.K pn f)) (ha : PE X a (rdE X.K pn g)) (hb : PE X b (rdE X.K pn k)) : PE X (.IfExp c a b pos) (rdE X.K pn (cond f g k)) :=
  PE.weak (pe_ifExp hc ha hb) fun σ H Q ⟨e, J, F, s, t, e', h, q⟩ => by
    obtain ⟨x, e1, h1, h⟩ := bnd_ok h
    refine ⟨e, J, F, s, _, _, h1, fun H1 J1 F1 s1 tr1 => ?_⟩
    cases x with
    | false =>
      rw [if_neg Bool.false_ne_true] at h ⊢
      exact ⟨_, J1, F1, s1, t, e', h, fun v H' J' F' fp s' o' tr' => q v H' J' F' fp s' o' (tr1.trans tr')⟩
    | true =>
      rw [if_pos rfl] at h ⊢
      exact ⟨_, J1, F1, s1, t, e', h, fun v H' J' F' fp s' o' tr' => q v H' J' F' fp s' o' (tr1.trans tr')⟩
/-- a < b < c -/
def gChain (g g' : D → D → Option T) (fa fb fc : M D) : M T := bnd fa fun x => bnd fb fun y => bnd (opt (g x y)) fun t => bnd (opt (asB t)) fun b => if b then bnd fc fun z => opt (g' y z) else ret (.leaf (.bool false))
abbrev RuleD (X : Cx) (r : R2) (g : D → D → Option T) : Prop := ∀ x y t, g x y = some t → ∀ (J : Addr → Prop) (H : Hp) (v u : V), (∀ b, J b → H b ≠ none) → RD X.K J H v x → RD X.K J H u y → ∀ Q : VK, (∀ w H' J' fp, New X.K J H J' H' w t fp → Q w H') → r v u H Q
theorem tChain_rd {r r' : R2} {g g' : D → D → Option T} (h2 : RuleD X r g) (h2' : RuleD X r' g') {fa fb fc : M D} {σ : L2.St} {H : Hp} {Q : VK} (h : rdE X.K pn (gChain g g' fa fb fc) σ H Q) :
    tChain r r' (rdD X.K pn fa) (rdD X.K pn fb) (rdD X.K pn fc) σ H Q := by
  obtain ⟨e, J, F, s, t, e', h, q⟩ := h
  obtain ⟨x, e1, k1, m1⟩ := bnd_ok h
  obtain ⟨y, e2, k2, m2⟩ := bnd_ok m1
  obtain ⟨t1, e3, k3, m3⟩ := bnd_ok m2
  obtain ⟨k3', rfl⟩ := opt_ok k3
  obtain ⟨k, e4, k4, h4⟩ := bnd_ok m3
  obtain ⟨k4', rfl⟩ := opt_ok k4
  have hx := asB_some k4'
  subst hx
  refine ⟨e, J, F, s, x, e1, k1, fun v H1 J1 F1 s1 r1 tr1 => ?_⟩
  refine ⟨e1, J1, F1, s1, y, _, k2, fun u H2 J2 F2 s2 r2 tr2 => ?_⟩
  refine h2 x y _ k3' J2 H2 v u s2.jd (r1.step tr2 s1.jf) r2 _ fun w H' J' fp n => ?_
  obtain ⟨s3, o3, tr3⟩ := n.sr s2
  obtain ⟨rfl, rfl⟩ := own_bool o3
  simp only [List.append_nil] at tr3
  refine ⟨k, rfl, ?_⟩
  have tr : Tr J H F J' H' F2 := (tr1.trans tr2).trans tr3
  cases k with
  | false =>
    rw [if_neg Bool.false_ne_true] at h4 ⊢
    cases h4
    exact q _ H' J' F2 [] s3 (own_leaf_bl s3.nd) (by simpa using tr)
  | true =>
    rw [if_pos rfl] at h4 ⊢
    obtain ⟨z, e5, k5, h5⟩ := bnd_ok h4
    obtain ⟨k6, rfl⟩ := opt_ok h5
    refine ⟨_, J', F2, s3, z, _, k5, fun u' H3 J3 F3 s4 r4 tr4 => ?_⟩
    refine h2' y z t k6 J3 H3 u u' s4.jd ((r2.step tr3 s2.jf).step tr4 s3.jf) r4 Q fun w H'' J'' fp n => ?_
    obtain ⟨s5, o5, tr5⟩ := n.sr s4
    exact q w H'' J'' F3 fp s5 o5 ((tr.trans tr4).trans tr5)
theorem pe_chain' {op op' : CmpOp} {g g' : D → D → Option T} {fa fb fc : M D} (ho : OpS X (compareOp op) g) (ho' : OpS X (compareOp op') g') (ha : PE X a (rdD X.K pn fa)) (hb : PE X b (rdD X.K pn fb)) (hc : PE X c (rdD X.K pn fc)) (hm : lastMarks [op, op'] [b, c] = false) :
    IE X pn (.Compare a [op, op'] [b, c] pos) (gChain g g' fa fb fc) := by
  obtain ⟨r, h1, h2⟩ := ho
  obtain ⟨r', h1', h2'⟩ := ho'
  exact ⟨PE.weak (pe_chain h1 h1' ha hb hc hm) fun σ H Q q => tChain_rd h2 h2' q, fun _ => PT.weak (pt_chain h1 h1' ha hb hc hm) fun σ H Q q => by
    have := rdT_of q
    exact tChain_rd h2 h2' this, rfl⟩
theorem ie_cmp {op : CmpOp} {g : D → D → Option T} {fa fb : M D} (ho : OpS X (compareOp op) g) (ha : PE X a (rdD X.K pn fa)) (hb : PE X b (rdD X.K pn fb)) (hm : behindInMarks op b = false) : IE X pn (.Compare a [op] [b] pos) (gBin g fa fb) := by
  obtain ⟨r, h1, h2⟩ := ho
  exact ⟨PE.weak (pe_cmpR h1 ha hb hm) fun σ H Q q => tOp_rd h2 q, fun _ => PT.weak (pt_cmpR h1 ha hb hm) fun σ H Q q => tOp_rd h2 (rdT_of q), rfl⟩
theorem ie_bin {op : Operator} {g : D → D → Option T} {fa fb : M D} (ho : OpS X (binaryOp op) g) (ha : PE X a (rdD X.K pn fa)) (hb : PE X b (rdD X.K pn fb)) : IE X pn (.BinOp a op b pos) (gBin g fa fb) := ie_mk (pe_bin' ho ha hb)
theorem ie_ite {f g k : M T} (hc : IE X pn c f) (hn : notIf c = true) (ha : IE X pn a g) (hb : IE X pn b k) : IE X pn (.IfExp c a b pos) (cond (tst f) g k) := ⟨pe_ite' (hc.pt hn) ha.pe hb.pe, fun z => (by cases z), rfl⟩
theorem ie_one {op : BoolOp} {f : M T} (ha : IE X pn a f) (hn : notIf a = true) : IE X pn (.BoolOp op [a] pos) f := ⟨pe_one ha.pe, fun _ => by
  cases op with
  | And => exact (pw_and1 (ha.pt hn)).pt
  | Or => exact (pw_or1 (ha.pt hn)).pt, rfl⟩
theorem ie_and {f g : M T} {rest : List Expr} (ha : IE X pn a f) (hn : notIf a = true) (hb : IE X pn (.BoolOp .And (b :: rest) pos) g) : IE X pn (.BoolOp .And (a :: b :: rest) pos) (gAnd f g) :=
  ⟨pe_and' ha.pe hb.pe, fun _ => PT.weak (pw_and (ha.pt hn) (pw_of (hb.pt rfl))).pt fun σ H Q q => by
    obtain ⟨e, J, F, s, t, e', h, q⟩ := q
    obtain ⟨x, e1, h1, h2⟩ := bnd_ok h
    obtain ⟨y, e2, h3, h4⟩ := bnd_ok h1
    obtain ⟨k, e3, h5, h6⟩ := bnd_ok h4
    refine ⟨e, J, F, s, k, e3, by unfold tst bnd; rw [h3]; exact h5, fun H1 J1 F1 s1 tr1 => ?_⟩
    cases k with
    | true =>
      rw [if_pos rfl] at h6 ⊢
      exact ⟨e3, J1, F1, s1, t, e', by unfold tst bnd; rw [h6]; exact h2, fun H' J' F' s' tr' => q H' J' F' s' (tr1.trans tr')⟩
    | false =>
      rw [if_neg Bool.false_ne_true] at h6 ⊢
      cases h6
      obtain ⟨h7, rfl⟩ := opt_ok h2
      cases h7
      exact q H1 J1 F1 s1 tr1, rfl⟩
theorem ie_or {f g : M T} {rest : List Expr} (ha : IE X pn a f) (hn : notIf a = true) (hb : IE X pn (.BoolOp .Or (b :: rest) pos) g) : IE X pn (.BoolOp .Or (a :: b :: rest) pos) (gOr f g) :=
  ⟨pe_or' ha.pe hb.pe, fun _ => PT.weak (pw_or (ha.pt hn) (pw_of (hb.pt rfl))).pt fun σ H Q q => by
    obtain ⟨e, J, F, s, t, e', h, q⟩ := q
    obtain ⟨x, e1, h1, h2⟩ := bnd_ok h
    obtain ⟨y, e2, h3, h4⟩ := bnd_ok h1
    obtain ⟨k, e3, h5, h6⟩ := bnd_ok h4
    refine ⟨e, J, F, s, k, e3, by unfold tst bnd; rw [h3]; exact h5, fun H1 J1 F1 s1 tr1 => ?_⟩
    cases k with
    | false =>
      rw [if_neg Bool.false_ne_true] at h6 ⊢
      exact ⟨e3, J1, F1, s1, t, e', by unfold tst bnd; rw [h6]; exact h2, fun H' J' F' s' tr' => q H' J' F' s' (tr1.trans tr')⟩
    | true =>
      rw [if_pos rfl] at h6 ⊢
      cases h6
      obtain ⟨h7, rfl⟩ := opt_ok h2
      cases h7
      exact q H1 J1 F1 s1 tr1, rfl⟩
theorem ie_not {f : M T} (ha : IE X pn a f) (hn : notIf a = true) : IE X pn (.UnaryOp .Not a pos) (gNot f) :=
  ⟨pe_not' ha.pe, fun _ => PT.weak (pt_not (ha.pt hn)) fun σ H Q q => by
    obtain ⟨e, J, F, s, t, e', h, q⟩ := q
    obtain ⟨x, e1, h1, h2⟩ := bnd_ok h
    obtain ⟨y, e2, h3, h4⟩ := bnd_ok h1
    obtain ⟨k, e3, h5, h6⟩ := bnd_ok h4
    cases h6
    obtain ⟨h7, rfl⟩ := opt_ok h2
    cases h7
    exact ⟨e, J, F, s, k, _, by unfold tst bnd; rw [h3]; exact h5, fun H1 J1 F1 s1 tr1 => q H1 J1 F1 s1 tr1⟩, rfl⟩
end
end IL

namespace IL
open PySem PySem.Spec PyProof.Rows L2

/-! ### argument lists, displays -/
def consM (f : M T) (g : M (List T)) : M (List T) := bnd f fun t => bnd g fun ts => ret (t :: ts)
def most : Nat := 100000
theorem most_le {n : Nat} (h : n ≤ most) : n ≤ sizeLine := Nat.le_trans h (by decide)
theorem most_lt {n : Nat} (h : n ≤ most) : n < sizeLine := Nat.lt_of_le_of_lt h (by decide)
section
variable {X : Cx} {pn : List (Nat × V)} {a b c : Expr} {pos : Pos} {es : List Expr}
theorem star_of {e : Expr} (h : nstar e = true) (es : List Expr) (env : PySem.Env) : starEach (e :: es) env = (false, eval e env) :: starEach es env := by
  cases e <;> first | rfl | cases h
theorem pa_nil' : PA X [] (rdEs X.K pn (ret [])) := PA.weak pa_nil fun σ H Q ⟨e, J, F, s, t, e', h, q⟩ => by
  cases h
  exact q [] H J F [] s ⟨.nil, by simpa using s.nd, fun _ z => nomatch z⟩ (by simpa using Tr.refl)
theorem pa_cons' {f : M T} {g : M (List T)} (ha : PE X a (rdE X.K pn f)) (hn : nstar a = true) (hb : PA X es (rdEs X.K pn g)) : PA X (a :: es) (rdEs X.K pn (consM f g)) :=
  PA.weak (pa_cons ha hb (star_of hn es X.env)) fun σ H Q ⟨e, J, F, s, t, e', h, q⟩ => by
    obtain ⟨x, e1, h1, h2⟩ := bnd_ok h
    obtain ⟨xs, e2, h3, h4⟩ := bnd_ok h2
    cases h4
    refine ⟨e, J, F, s, x, e1, h1, fun v H1 J1 F1 fp1 s1 o1 tr1 => ?_⟩
    refine ⟨e1, J1, F1, s1, xs, _, h3, fun vs H2 J2 F2 fp2 s2 o2 tr2 => ?_⟩
    have o1' := o1.step (F' := F2) ⟨tr2.keep, tr2.dom, tr2.jj, fun b hb => tr2.fnew b (List.mem_append_left _ hb), tr2.jnew⟩ s1.jf s2.nd
    have hsep : ∀ b ∈ fp1, b ∉ fp2 := fun b h1 h2 => by
      rcases tr2.fnew b (List.mem_append_right _ h2) with z | z
      · exact not_both o1.nd h1 z
      · exact RT.dom o1.rt b h1 z
    refine q (v :: vs) H2 J2 F2 (fp1 ++ fp2) s2 ⟨.cons o1'.rt o2.rt, ?_, fun b hb => ?_⟩ ?_
    · have n1 := o1'.nd
      have n2 := o2.nd
      rw [List.nodup_append] at n1 n2 ⊢
      refine ⟨n2.1, List.nodup_append.mpr ⟨n1.2.1, n2.2.1, fun x hx y hy z => hsep x hx (z ▸ hy)⟩, fun x hx y hy z => ?_⟩
      rcases List.mem_append.mp hy with hy | hy
      · exact n1.2.2 x hx y hy z
      · exact n2.2.2 x hx y hy z
    · rcases List.mem_append.mp hb with hb | hb
      · exact o1'.jf b hb
      · exact o2.jf b hb
    · refine ⟨fun b o hb hF => tr2.keep b o (tr1.keep b o hb hF) fun z => ?_, fun b z => tr2.dom b (tr1.dom b z), fun b z => tr2.jj b (tr1.jj b z), fun b z => ?_, fun b z => ?_⟩
      · rcases tr1.fnew b (List.mem_append_left _ z) with z | z
        · exact hF z
        · rw [hb] at z; cases z
      · have go : b ∈ F2 ∨ b ∈ fp2 → b ∈ F ∨ H b = none := fun z => by
          rcases tr2.fnew b (List.mem_append.mpr z) with z | z
          · exact tr1.fnew b (List.mem_append_left _ z)
          · right
            cases q' : H b with
            | none => rfl
            | some o => exact absurd z (tr1.dom b (by rw [q']; exact fun z => nomatch z))
        rcases List.mem_append.mp z with z | z
        · exact go (.inl z)
        · rcases List.mem_append.mp z with z | z
          · exact tr1.fnew b (List.mem_append_right _ z)
          · exact go (.inr z)
      · rcases tr2.jnew b z with z | z | z
        · exact tr1.jnew b z
        · exact .inr (tr1.fnew b (List.mem_append_left _ z))
        · right; right
          cases q' : H b with
          | none => rfl
          | some o => exact absurd z (tr1.dom b (by rw [q']; exact fun z => nomatch z))
/-- arguments given up -/
theorem SR.gives {K : PySem.W.Frag} {σ : L2.St} {H : Hp} {e : En} {J : Addr → Prop} {F : List Addr} (s : SR K pn σ H e J F) {vs : List V} {ts : List T} {fp : List Addr} (o : Owns K J H F vs ts fp) :
    SR K pn σ H e (fun b => J b ∨ b ∈ fp) F ∧ RDs K (fun b => J b ∨ b ∈ fp) H vs (frzs ts) ∧ Tr J H (F ++ fp) (fun b => J b ∨ b ∈ fp) H F := by
  refine ⟨s.step (fun _ j => .inl j) (fun _ _ _ q => q) (fun a z => ?_) (fun a ha z => ?_), o.rt.frz (fun _ j => .inl j) fun _ h => .inr h, ⟨fun _ _ q _ => q, fun _ q => q, fun _ j => .inl j, fun b hb => .inl (List.mem_append_left _ hb), fun b z => ?_⟩⟩
  · rcases z with z | z
    · exact s.jd a z
    · exact RTs.dom o.rt a z
  · rcases z with z | z
    · exact s.jf a ha z
    · exact not_both o.nd z ha
  · rcases z with z | z
    · exact .inl z
    · exact .inr (.inl (List.mem_append_right _ z))
theorem pa_fzs {f : M (List T)} (h : PA X es (rdEs X.K pn f)) : PA X es (rdDs X.K pn (fzs f)) := PA.weak h fun σ H Q ⟨e, J, F, s, t, e', h, q⟩ => by
  obtain ⟨d, e1, h1, h2⟩ := bnd_ok h
  cases h2
  refine ⟨e, J, F, s, d, e', h1, fun v H' J' F' fp s' o tr => ?_⟩
  obtain ⟨g1, g2, g3⟩ := s'.gives o
  exact q v H' _ F' g1 g2 (tr.trans g3)
/-- a new node over own trees -/
theorem SR.node {K : PySem.W.Frag} {σ : L2.St} {H : Hp} {e : En} {J : Addr → Prop} {F : List Addr} (s : SR K pn σ H e J F) {vs : List V} {ts : List T} {fp : List Addr} (o : Owns K J H F vs ts fp) {p : Addr} (hp : H p = none) (u : HO) :
    SR K pn σ (upd H p u) e J F ∧ RTs K J (upd H p u) vs ts fp ∧ (F ++ (p :: fp)).Nodup ∧ (∀ a ∈ p :: fp, ¬ J a) ∧ Tr J H (F ++ fp) J (upd H p u) (F ++ (p :: fp)) := by
  obtain ⟨s1, tr, nF, nJ⟩ := s.laid (o := u) hp
  have hpf : p ∉ fp := fun z => RTs.dom o.rt p z hp
  have keep : ∀ b w, H b = some w → upd H p u b = some w := fun b w e => by rw [upd_ne (ne_of_none e hp)]; exact e
  refine ⟨s1, o.rt.mono (fun _ j => j) (fun b w _ q => keep b w q) (fun b w _ q => keep b w q), ?_, fun a ha => ?_, ⟨fun b w q _ => keep b w q, tr.dom, fun _ j => j, fun b hb => ?_, fun b z => .inl z⟩⟩
  · have nd := o.nd
    rw [List.nodup_append] at nd ⊢
    refine ⟨nd.1, List.nodup_cons.mpr ⟨hpf, nd.2.1⟩, fun x hx y hy z => ?_⟩
    rcases List.mem_cons.mp hy with rfl | hy
    · exact nF (z ▸ hx)
    · exact nd.2.2 x hx y hy z
  · rcases List.mem_cons.mp ha with rfl | ha
    · exact nJ
    · exact o.jf a ha
  · rcases List.mem_append.mp hb with z | z
    · exact .inl (List.mem_append_left _ z)
    · rcases List.mem_cons.mp z with rfl | z
      · exact .inr hp
      · exact .inl (List.mem_append_right _ z)
def leaves : List T → Option (List D)
  | [] => some []
  | .leaf d :: r => match leaves r with
    | some ds => some (d :: ds)
    | none => none
  | _ :: _ => none
theorem leaves_some {K : PySem.W.Frag} {J : Addr → Prop} {H : Hp} : ∀ {ts : List T} {vs : List V} {fp : List Addr} {ds : List D}, leaves ts = some ds → RTs K J H vs ts fp → RDs K J H vs ds ∧ fp = []
  | [], _, _, _, h, .nil => by cases h; exact ⟨.nil, rfl⟩
  | t :: ts, _, _, _, h, .cons r q => by
    cases t with
    | leaf d =>
      unfold leaves at h
      split at h
      · rename_i ds' h'
        cases h
        obtain ⟨h1, rfl⟩ := leaves_some h' q
        cases r with
        | leaf r => exact ⟨.cons r h1, rfl⟩
      · cases h
    | lst _ => cases h
    | tup _ => cases h
    | dct _ => cases h
def mkTup (ts : List T) : T := match leaves ts with
  | some ds => .leaf (.tuple ds)
  | none => .tup ts
def gTup (f : M (List T)) : M T := bnd f fun ts => if ts.length ≤ most then ret (mkTup ts) else bad
def gLst (f : M (List T)) : M T := bnd f fun ts => if ts.length ≤ most then ret (.lst ts) else bad
theorem ie_tup {f : M (List T)} {k : Nat} (h : PA X es (rdEs X.K pn f)) : IE X pn (.Tuple es k pos) (gTup f) := ie_mk (PE.weak (pe_tup h) fun σ H Q ⟨e, J, F, s, t, e', h, q⟩ => by
  obtain ⟨ts, e1, h1, h2⟩ := bnd_ok h
  by_cases hm : ts.length ≤ most
  · rw [if_pos hm] at h2
    cases h2
    refine ⟨e, J, F, s, ts, _, h1, fun vs H1 J1 F1 fp s1 o1 tr1 => ⟨by rw [o1.rt.length]; exact most_le hm, fun p hp => ?_⟩⟩
    cases hl : leaves ts with
    | some ds =>
      obtain ⟨r, rfl⟩ := leaves_some hl o1.rt
      simp only [mkTup, hl] at q
      have n := New.tuple (p := p) r s1.jd hp
      obtain ⟨s2, o2, tr2⟩ := n.sr s1
      simp only [List.append_nil] at tr1
      exact q _ _ _ F1 [] s2 o2 (tr1.trans tr2)
    | none =>
      simp only [mkTup, hl] at q
      obtain ⟨s2, r2, nd2, jf2, tr2⟩ := s1.node o1 hp (.tup vs)
      exact q _ _ J1 F1 (p :: fp) s2 ⟨.tup upd_same r2, nd2, jf2⟩ (tr1.trans tr2)
  · rw [if_neg hm] at h2
    cases h2)
theorem ie_lst {f : M (List T)} (h : PA X es (rdEs X.K pn f)) : IE X pn (.List es pos) (gLst f) := ie_mk (PE.weak (pe_lst h) fun σ H Q ⟨e, J, F, s, t, e', h, q⟩ => by
  obtain ⟨ts, e1, h1, h2⟩ := bnd_ok h
  by_cases hm : ts.length ≤ most
  · rw [if_pos hm] at h2
    cases h2
    refine ⟨e, J, F, s, ts, _, h1, fun vs H1 J1 F1 fp s1 o1 tr1 => ⟨by rw [o1.rt.length]; exact most_le hm, fun p hp => ?_⟩⟩
    obtain ⟨s2, r2, nd2, jf2, tr2⟩ := s1.node o1 hp (.lst vs)
    exact q _ _ J1 F1 (p :: fp) s2 ⟨.lst upd_same r2, nd2, jf2⟩ (tr1.trans tr2)
  · rw [if_neg hm] at h2
    cases h2)

/-! ### subscripts -/
theorem plain_of {e : Expr} (h : (match e with | .Slice .. => false | _ => true) = true) : PlainIx e := by
  intro o i
  cases e <;> first | rfl | cases h
def isPlain : Expr → Bool
  | .Slice .. => false
  | _ => true
theorem plain_of' {e : Expr} (h : isPlain e = true) : PlainIx e := by
  intro o i
  cases e <;> first | rfl | cases h
def strAt (z : Str) (i : Int) : Option D := if z.length ≤ most then (atI z.cps.toList i).map fun c => .str ⟨#[c]⟩ else none
def ixD : D → D → Option D
  | .list ds, .int i => atI ds i
  | .tuple ds, .int i => atI ds i
  | .str z, .int i => strAt z i
  | _, _ => none
theorem RDs.atI {K : PySem.W.Frag} {J : Addr → Prop} {H : Hp} {vs : List V} {ds : List D} {i : Int} {d : D} (r : RDs K J H vs ds) (h : L2.atI ds i = some d) : ∃ v, L2.atI vs i = some v ∧ RD K J H v d := by
  unfold L2.atI at h ⊢
  rw [r.length]
  cases hx : ixN ds.length i with
  | none => rw [hx] at h; cases h
  | some j =>
    rw [hx] at h
    obtain ⟨v, h1, h2⟩ := r.get (i := j) h
    exact ⟨v, h1, h2⟩
theorem IxR.or {r r' : R2} (h : IxR X r) (h' : IxR X r') : IxR X (fun x y H Q => r x y H Q ∨ r' x y H Q) := by
  intro va sl pins s σ H x y v u Q I rx ry q hs
  rcases q with q | q
  · exact h va sl pins s σ H x y v u Q I rx ry q hs
  · exact h' va sl pins s σ H x y v u Q I rx ry q hs
abbrev rIxAll (K : PySem.W.Frag) : R2 := fun x y H Q => rIxL K x y H Q ∨ (rIxT K x y H Q ∨ rIxS x y H Q)
theorem ix_all : IxR X (rIxAll X.K) := IxR.or ix_list (IxR.or ix_tup ix_str)
theorem ixD_rule {K : PySem.W.Frag} {x y d : D} (h : ixD x y = some d) {J : Addr → Prop} {H : Hp} {v u : V} (rx : RD K J H v x) (ry : RD K J H u y) {Q : VK} (q : ∀ w, RD K J H w d → Q w H) : rIxAll K v u H Q := by
  unfold ixD at h
  split at h
  · cases ry
    cases rx with
    | lst j p r =>
      obtain ⟨w, h1, h2⟩ := r.atI h
      exact .inl ⟨_, _, _, w, rfl, rfl, .inl (.inl p), h1, q w h2⟩
  · cases ry
    cases rx with
    | tup p r =>
      obtain ⟨w, h1, h2⟩ := r.atI h
      exact .inr (.inl ⟨_, _, _, w, rfl, rfl, p.sq, h1, q w h2⟩)
  · cases ry
    cases rx
    rename_i z i
    unfold strAt at h
    split at h
    · rename_i hz
      cases ha : L2.atI z.cps.toList i with
      | none => rw [ha] at h; cases h
      | some c =>
        rw [ha] at h
        cases h
        exact .inr (.inr ⟨_, _, c, rfl, rfl, most_le hz, ha, q _ (.str _)⟩)
    · cases h
  · cases h
def gIx (fa fb : M D) : M D := bnd fa fun x => bnd fb fun y => opt (ixD x y)
theorem ie_ix {fa fb : M D} (ha : PE X a (rdD X.K pn fa)) (hb : PE X b (rdD X.K pn fb)) (hs : isPlain b = true) : IE X pn (.Subscript a b pos) (lf (gIx fa fb)) :=
  ie_mk (pe_lf (PE.weak (pe_ix ix_all ha hb (plain_of' hs)) fun σ H Q ⟨e, J, F, s, t, e', h, q⟩ => by
    obtain ⟨x, e1, h1, h2⟩ := bnd_ok h
    obtain ⟨y, e2, h3, h4⟩ := bnd_ok h2
    obtain ⟨h5, rfl⟩ := opt_ok h4
    refine ⟨e, J, F, s, x, e1, h1, fun v H1 J1 F1 s1 r1 tr1 => ?_⟩
    refine ⟨e1, J1, F1, s1, y, _, h3, fun u H2 J2 F2 s2 r2 tr2 => ?_⟩
    exact ixD_rule h5 (r1.step tr2 s1.jf) r2 fun w rw => q w H2 J2 F2 s2 rw (tr1.trans tr2)))
/-- an item of an own list at a name: the item is data -/
def tIx : T → D → Option D
  | .leaf x, y => ixD x y
  | .lst ts, .int i => match atI ts i with
    | some (.leaf d) => some d
    | _ => none
  | .tup ts, .int i => match atI ts i with
    | some (.leaf d) => some d
    | _ => none
  | _, _ => none
def held (i : Nat) : M Unit := fun e => match e[i]? with
  | some (some _) => .ok () e
  | _ => .bad
def peek {α : Type} (i : Nat) (g : T → Option α) : M α := fun e => match e[i]? with
  | some (some t) => opt (g t) e
  | _ => .bad
theorem held_ok {i : Nat} {e e2 : En} {u : Unit} (h : held i e = .ok u e2) : e2 = e ∧ ∃ t, e[i]? = some (some t) := by
  unfold held at h
  split at h
  · cases h; exact ⟨rfl, _, by assumption⟩
  · cases h
theorem peek_ok {α : Type} {i : Nat} {g : T → Option α} {e e2 : En} {u : α} (h : peek i g e = .ok u e2) : e2 = e ∧ ∃ t, e[i]? = some (some t) ∧ g t = some u := by
  unfold peek at h
  split at h
  · obtain ⟨h1, rfl⟩ := opt_ok h; exact ⟨rfl, _, by assumption, h1⟩
  · cases h
theorem SR.at {K : PySem.W.Frag} {σ : L2.St} {H : Hp} {e : En} {J : Addr → Prop} {F : List Addr} (s : SR K pn σ H e J F) {i : Nat} {t : T} (h : e[i]? = some (some t)) : ∃ v fp, σ[i]? = some (some v) ∧ RT K J H v t fp := by
  obtain ⟨v, fp, F', h1, o, _, _⟩ := s.take h
  exact ⟨v, fp, h1, o.rt⟩
def gVix (i : Nat) (fb : M D) : M D := bnd (held i) fun _ => bnd fb fun y => peek i fun t => tIx t y
theorem RTs.atI {K : PySem.W.Frag} {J : Addr → Prop} {H : Hp} {vs : List V} {ts : List T} {fp : List Addr} {i : Int} {t : T} (r : RTs K J H vs ts fp) (h : L2.atI ts i = some t) : ∃ v g, L2.atI vs i = some v ∧ RT K J H v t g ∧ ∀ b ∈ g, b ∈ fp := by
  unfold L2.atI at h ⊢
  rw [r.length]
  cases hx : ixN ts.length i with
  | none => rw [hx] at h; cases h
  | some j =>
    rw [hx] at h
    obtain ⟨v, g, h1, h2, h3⟩ := r.get (i := j) h
    exact ⟨v, g, h1, h2, h3⟩
theorem tIx_rule {K : PySem.W.Frag} {t : T} {y d : D} (h : tIx t y = some d) {J : Addr → Prop} {H : Hp} {v u : V} {fp : List Addr} (rx : RT K J H v t fp) (ry : RD K J H u y) {Q : VK} (q : ∀ w, RD K J H w d → Q w H) : rIxAll K v u H Q := by
  unfold tIx at h
  split at h
  · cases rx with
    | leaf r => exact ixD_rule h r ry q
  · split at h
    · rename_i d' h'
      cases h
      cases ry
      cases rx with
      | lst p r =>
        obtain ⟨w, g, h1, h2, _⟩ := r.atI h'
        cases h2 with
        | leaf h2 => exact .inl ⟨_, _, _, w, rfl, rfl, .inl (.inl p), h1, q w h2⟩
    · cases h
  · split at h
    · rename_i d' h'
      cases h
      cases ry
      cases rx with
      | tup p r =>
        obtain ⟨w, g, h1, h2, _⟩ := r.atI h'
        cases h2 with
        | leaf h2 => exact .inr (.inl ⟨_, _, _, w, rfl, rfl, .inl (.inl p), h1, q w h2⟩)
    · cases h
  · cases h
theorem ie_vix {i : Nat} {fb : M D} (ha : PE X a (tVar i)) (hb : PE X b (rdD X.K pn fb)) (hs : isPlain b = true) : IE X pn (.Subscript a b pos) (lf (gVix i fb)) :=
  ie_mk (pe_lf (PE.weak (pe_ix ix_all ha hb (plain_of' hs)) fun σ H Q ⟨e, J, F, s, t, e', h, q⟩ => by
    obtain ⟨_, e0, h1, h2⟩ := bnd_ok h
    obtain ⟨rfl, t0, h0⟩ := held_ok h1
    obtain ⟨y, e1, h3, h4⟩ := bnd_ok h2
    obtain ⟨rfl, x, hx, h5⟩ := peek_ok h4
    obtain ⟨v, fp0, hv, _⟩ := s.at h0
    refine ⟨v, hv, _, J, F, s, y, _, h3, fun u H2 J2 F2 s2 r2 tr2 => ?_⟩
    obtain ⟨v', fp, hv', rt⟩ := s2.at hx
    rw [hv] at hv'
    cases hv'
    exact tIx_rule h5 rt r2 fun w rw => q w H2 J2 F2 s2 rw tr2))

/-! ### slices -/
def cutD (xs : List D) (lo hi : Option Int) : List D := (xs.drop (HT.sIx xs.length 0 lo)).take (HT.sIx xs.length xs.length hi - HT.sIx xs.length 0 lo)
theorem RDs.cut {K : PySem.W.Frag} {J : Addr → Prop} {H : Hp} {vs : List V} {ds : List D} (r : RDs K J H vs ds) (lo hi : Option Int) : RDs K J H (cutV vs lo hi) (cutD ds lo hi) := by
  unfold cutV cutD
  rw [r.length]
  exact (r.drop _).take _
def slD (x : D) (lo hi : Option Int) : Option T := match x with
  | .list ds => some (.lst ((cutD ds lo hi).map .leaf))
  | .tuple ds => some (.leaf (.tuple (cutD ds lo hi)))
  | .str z => if z.length ≤ most then some (.leaf (.str (cutS z lo hi))) else none
  | _ => none
abbrev rSlAll (K : PySem.W.Frag) : V → Option Int → Option Int → Hp → VK → Prop := fun x lo hi H Q => rSlL K x lo hi H Q ∨ (rSlA K x lo hi H Q ∨ rSlS x lo hi H Q)
theorem sl_all : SlR X (rSlAll X.K) := SlR.or sl_list (SlR.or sl_tupA sl_str)
theorem cut_whole (ds : List D) (lo hi : Option Int) (h : HT.sIx ds.length 0 lo = 0 ∧ HT.sIx ds.length ds.length hi = ds.length) : cutD ds lo hi = ds := by
  unfold cutD
  rw [h.1, h.2]
  simp
theorem slD_rule {K : PySem.W.Frag} {x : D} {t : T} {lo hi : Option Int} (h : slD x lo hi = some t) {J : Addr → Prop} {H : Hp} {v : V} (jd : ∀ b, J b → H b ≠ none) (rx : RD K J H v x) {Q : VK} (q : ∀ w H' J' fp, New K J H J' H' w t fp → Q w H') : rSlAll K v lo hi H Q := by
  unfold slD at h
  split at h
  · cases h
    cases rx with
    | lst j p r => exact .inl ⟨_, _, rfl, .inl (.inl p), fun a ha => q _ _ _ _ (New.list (r.cut lo hi) jd ha)⟩
  · cases h
    cases rx with
    | tup p r =>
      refine .inr (.inl ⟨_, _, rfl, p.sq, fun hw => ?_, fun hw a ha => q _ _ _ _ (New.tuple (r.cut lo hi) jd ha)⟩)
      rw [r.length] at hw
      rw [cut_whole _ lo hi hw] at q
      exact q _ _ _ _ (New.same (.tup p r) jd)
  · cases rx
    split at h
    · rename_i hz
      cases h
      exact .inr (.inr ⟨_, rfl, most_le hz, q _ _ _ _ (New.same (.str _) jd)⟩)
    · cases h
  · cases h
/-- a slice's end: left out, or an int -/
def rdO (K : PySem.W.Frag) (pn : List (Nat × V)) (f : M (Option Int)) : TO := fun σ H Q => ∃ e J F, SR K pn σ H e J F ∧ ∃ t e', f e = .ok t e' ∧ ∀ H' J' F', SR K pn σ H' e' J' F' → Tr J H F J' H' F' → Q t H'
theorem PO.weak {e : Option Expr} {t t' : TO} (h : PO X e t) (w : ∀ (σ : L2.St) (H : Hp) (Q : Option Int → Hp → Prop), t' σ H Q → t σ H Q) : PO X e t' := ⟨fun pins s σ H Q I q => h.run pins s σ H Q I (w σ H Q q)⟩
def asI (d : D) : Option Int := match d with
  | .int i => some i
  | _ => none
theorem asI_some {d : D} {i : Int} (h : asI d = some i) : d = .int i := by
  unfold asI at h
  split at h
  · cases h; rfl
  · cases h
theorem RD.int_inv {K : PySem.W.Frag} {J : Addr → Prop} {H : Hp} {v : V} {i : Int} (r : RD K J H v (.int i)) : v = .int i := by cases r; rfl
def gPart (f : M D) : M (Option Int) := bnd f fun d => bnd (opt (asI d)) fun i => ret (some i)
theorem po_none' : PO X none (rdO X.K pn (ret none)) := PO.weak po_none fun σ H Q ⟨e, J, F, s, t, e', h, q⟩ => by
  cases h
  exact q H J F s .refl
theorem po_some' {f : M D} (ha : PE X a (rdD X.K pn f)) : PO X (some a) (rdO X.K pn (gPart f)) := PO.weak (po_some ha) fun σ H Q ⟨e, J, F, s, t, e', h, q⟩ => by
  obtain ⟨x, e1, h1, h2⟩ := bnd_ok h
  obtain ⟨i, e2, h3, h4⟩ := bnd_ok h2
  obtain ⟨h5, rfl⟩ := opt_ok h3
  have := asI_some h5
  subst this
  cases h4
  exact ⟨e, J, F, s, _, _, h1, fun v H1 J1 F1 s1 r1 tr1 => ⟨i, r1.int_inv, q H1 J1 F1 s1 tr1⟩⟩
def gSl (fa : M D) (lo hi : M (Option Int)) : M T := bnd fa fun x => bnd lo fun l => bnd hi fun h => opt (slD x l h)
theorem ie_sl {fa : M D} {lo hi : Option Expr} {fl fh : M (Option Int)} {p2 : Pos} (ha : PE X a (rdD X.K pn fa)) (hl : PO X lo (rdO X.K pn fl)) (hh : PO X hi (rdO X.K pn fh)) : IE X pn (.Subscript a (.Slice lo hi none p2) pos) (gSl fa fl fh) :=
  ie_mk (PE.weak (pe_slice sl_all ha hl hh) fun σ H Q ⟨e, J, F, s, t, e', h, q⟩ => by
    obtain ⟨x, e1, h1, h2⟩ := bnd_ok h
    obtain ⟨l, e2, h3, h4⟩ := bnd_ok h2
    obtain ⟨u, e3, h5, h6⟩ := bnd_ok h4
    obtain ⟨h7, rfl⟩ := opt_ok h6
    refine ⟨e, J, F, s, x, e1, h1, fun v H1 J1 F1 s1 r1 tr1 => ?_⟩
    refine ⟨e1, J1, F1, s1, l, e2, h3, fun H2 J2 F2 s2 tr2 => ?_⟩
    refine ⟨e2, J2, F2, s2, u, _, h5, fun H3 J3 F3 s3 tr3 => ?_⟩
    refine slD_rule h7 s3.jd ((r1.step tr2 s1.jf).step tr3 s2.jf) fun w H' J' fp n => ?_
    obtain ⟨s4, o4, tr4⟩ := n.sr s3
    exact q w H' J' F3 fp s4 o4 (((tr1.trans tr2).trans tr3).trans tr4))
end
end IL

namespace IL
open PySem PySem.Spec PyProof.Rows L2

/-! ### operators by values -/
def int2 (c : Int → Int → Bool) (g : Int → Int → D) : D → D → Option T
  | .int i, .int j => if c i j then some (.leaf (g i j)) else none
  | _, _ => none
section
variable {X : Cx}
theorem OpS.mk {f : Value → Value → Sem Value} {r : R2} {g : D → D → Option T} (ho : OpR X f r)
    (h : ∀ x y t, g x y = some t → ∀ (J : Addr → Prop) (H : Hp) (v u : V), (∀ b, J b → H b ≠ none) → RD X.K J H v x → RD X.K J H u y → ∀ Q : VK, (∀ w H' J' fp, New X.K J H J' H' w t fp → Q w H') → r v u H Q) : OpS X f g := ⟨r, ho, h⟩
theorem OpS.int {f : Value → Value → Sem Value} {C : Int → Int → Prop} {g : Int → Int → Int} (ho : OpR X f (rI C fun i j => .int (g i j))) {c : Int → Int → Bool} (hc : ∀ i j, c i j = true → C i j) : OpS X f (int2 c fun i j => .int (g i j)) := by
  refine .mk ho fun x y t h J H v u jd rx ry Q q => ?_
  unfold int2 at h
  split at h
  · split at h
    · rename_i i j hcc
      cases h
      cases rx; cases ry
      exact ⟨i, j, rfl, rfl, hc i j hcc, q _ _ _ _ (New.same (.int _) jd)⟩
    · cases h
  · cases h
theorem OpS.int0 {f : Value → Value → Sem Value} {g : Int → Int → Int} (ho : OpR X f (rI0 fun i j => .int (g i j))) : OpS X f (int2 (fun _ _ => true) fun i j => .int (g i j)) := by
  refine .mk ho fun x y t h J H v u jd rx ry Q q => ?_
  unfold int2 at h
  split at h
  · rename_i i j
    cases h
    cases rx; cases ry
    exact ⟨i, j, rfl, rfl, q _ _ _ _ (New.same (.int _) jd)⟩
  · cases h
theorem OpS.cmp0 {f : Value → Value → Sem Value} {g : Int → Int → Bool} (ho : OpR X f (rI0 fun i j => .bl (g i j))) : OpS X f (int2 (fun _ _ => true) fun i j => .bool (g i j)) := by
  refine .mk ho fun x y t h J H v u jd rx ry Q q => ?_
  unfold int2 at h
  split at h
  · rename_i i j
    cases h
    cases rx; cases ry
    exact ⟨i, j, rfl, rfl, q _ _ _ _ (New.same (.bl _) jd)⟩
  · cases h
def strCat : D → D → Option T
  | .str a, .str b => if a.length + b.length ≤ most then some (.leaf (.str (a ++ b))) else none
  | _, _ => none
def tupCat : D → D → Option T
  | .tuple a, .tuple b => if a.length + b.length ≤ most then some (.leaf (.tuple (a ++ b))) else none
  | _, _ => none
def lstCat : D → D → Option T
  | .list a, .list b => if a.length + b.length ≤ most then some (.lst ((a ++ b).map .leaf)) else none
  | _, _ => none
theorem os_strCat : OpS X (binaryOp .Add) strCat := by
  refine .mk op_add_str fun x y t h J H v u jd rx ry Q q => ?_
  unfold strCat at h
  split at h
  · split at h
    · rename_i hz
      cases h
      cases rx; cases ry
      exact ⟨_, _, rfl, rfl, most_le hz, q _ _ _ _ (New.same (.str _) jd)⟩
    · cases h
  · cases h
theorem os_lstCat : OpS X (binaryOp .Add) lstCat := by
  refine .mk op_cat fun x y t h J H v u jd rx ry Q q => ?_
  unfold lstCat at h
  split at h
  · split at h
    · rename_i hz
      cases h
      cases rx with
      | lst j p r => cases ry with
        | lst j' p' r' => exact ⟨_, _, _, _, rfl, rfl, p, p', by rw [r.length, r'.length]; exact most_le hz, fun a ha => q _ _ _ _ (New.list (r.append r') jd ha)⟩
    · cases h
  · cases h
theorem os_tupCat : OpS X (binaryOp .Add) tupCat := by
  refine .mk op_catA fun x y t h J H v u jd rx ry Q q => ?_
  unfold tupCat at h
  split at h
  · split at h
    · rename_i a b hz
      cases h
      cases rx with
      | tup p r => cases ry with
        | tup p' r' =>
          refine ⟨_, _, _, _, rfl, rfl, p.sq, p'.sq, by rw [r.length, r'.length]; exact most_le hz, fun e => ?_, fun e e' => ?_, fun e e' z hz => q _ _ _ _ (New.tuple (r.append r') jd hz)⟩
          · subst e
            cases r
            exact q _ _ _ _ (New.same (.tup p' r') jd)
          · subst e'
            cases r'
            rw [List.append_nil] at q
            exact q _ _ _ _ (New.same (.tup p r) jd)
    · cases h
  · cases h
def addD (x y : D) : Option T := orr (int2 (fun _ _ => true) (fun i j => .int (i + j)) x y) (orr (strCat x y) (orr (tupCat x y) (lstCat x y)))
theorem os_add : OpS X (binaryOp .Add) addD := .or (.int0 op_add) (.or os_strCat (.or os_tupCat os_lstCat))
def subD : D → D → Option T := int2 (fun _ _ => true) fun i j => .int (i - j)
theorem os_sub : OpS X (binaryOp .Sub) subD := .int0 op_sub
def CMulY (i j : Int) : Prop := i.natAbs.log2 + j.natAbs.log2 < 4000000
theorem CMulY.ok {i j : Int} (h : CMulY i j) : IntMulOk i j := by
  have b : ∀ x : Int, Builtin.Int.intBits x ≤ x.natAbs.log2 + 1 := fun x => by
    unfold Builtin.Int.intBits
    split <;> omega
  have h1 := b i
  have h2 := b j
  have h3 : i.natAbs.log2 + j.natAbs.log2 < 4000000 := h
  have e : bitsLine = 134217728 := by decide
  unfold IntMulOk
  intro z
  rw [Bool.and_eq_true] at z
  have z2 := z.2
  unfold Builtin.Int.intTooBig at z2
  have z3 := of_decide_eq_true z2
  rw [e] at z3
  omega
theorem op_mulY : OpR X (binaryOp .Mult) (rI CMulY fun i j => .int (i * j)) := opI fun _ _ _ _ _ _ _ hc q => mul_int q hc.ok
def mulOk (i j : Int) : Bool := decide (i.natAbs.log2 + j.natAbs.log2 < 4000000)
def tupRep : D → D → Option T
  | .tuple a, .int k => if a ≠ [] ∧ 2 ≤ k ∧ k ≤ 1000 ∧ a.length ≤ 1000 then some (.leaf (.tuple (List.replicate k.toNat a).flatten)) else none
  | _, _ => none
theorem RDs.flat {K : PySem.W.Frag} {J : Addr → Prop} {H : Hp} {vs : List V} {ds : List D} (r : RDs K J H vs ds) : ∀ n, RDs K J H (List.replicate n vs).flatten (List.replicate n ds).flatten
  | 0 => .nil
  | n + 1 => by simp only [List.replicate_succ, List.flatten_cons]; exact r.append (RDs.flat r n)
theorem os_tupRep : OpS X (binaryOp .Mult) tupRep := by
  refine .mk op_repT fun x y t h J H v u jd rx ry Q q => ?_
  unfold tupRep at h
  split at h
  · split at h
    · rename_i a k hz
      cases h
      cases ry
      cases rx with
      | tup p r =>
        refine ⟨_, _, _, rfl, rfl, p.sq, fun e => hz.1 ?_, hz.2.1, hz.2.2.1, by rw [r.length]; exact hz.2.2.2, fun z hz => q _ _ _ _ (New.tuple (r.flat _) jd hz)⟩
        subst e
        cases r
        rfl
    · cases h
  · cases h
def mulD (x y : D) : Option T := orr (int2 mulOk (fun i j => .int (i * j)) x y) (tupRep x y)
theorem os_mul : OpS X (binaryOp .Mult) mulD := .or (.int op_mulY fun i j h => of_decide_eq_true (p := i.natAbs.log2 + j.natAbs.log2 < 4000000) h) os_tupRep
def divOk (_ j : Int) : Bool := decide (j ≠ 0 ∧ j.natAbs.log2 < 9000)
theorem op_fdivX : OpR X (binaryOp .FloorDiv) (rI (fun _ j => j ≠ 0 ∧ j.natAbs.log2 < 9000) fun i j => .int (i.fdiv j)) := opI fun _ _ _ _ _ _ _ hc q => floordiv_int hc.1 q (.inl (PyProof.noPylong_of_log2 hc.2))
def fdvD : D → D → Option T := int2 divOk fun i j => .int (i.fdiv j)
theorem os_fdv : OpS X (binaryOp .FloorDiv) fdvD := .int op_fdivX fun i j h => of_decide_eq_true h
def modD : D → D → Option T := int2 (fun _ j => decide (j ≠ 0)) fun i j => .int (i.fmod j)
theorem os_mod : OpS X (binaryOp .Mod) modD := .int op_modN fun i j h => of_decide_eq_true h
def powOk (i j : Int) : Bool := decide (0 ≤ j ∧ j ≤ 1000000 ∧ i.natAbs < 2 ^ 64)
def powD : D → D → Option T := int2 powOk fun i j => .int (i ^ j.toNat)
theorem os_pow : OpS X (binaryOp .Pow) powD := .int op_pow fun i j h => of_decide_eq_true (p := 0 ≤ j ∧ j ≤ 1000000 ∧ i.natAbs < 2 ^ 64) h

/-! ### comparisons -/
def scalEq : D → D → Option Bool
  | .none, .none => some true
  | .int i, .int j => some (i == j)
  | .bool a, .bool b => some (a == b)
  | .str a, .str b => some (a == b)
  | _, _ => none
def eqB (x y : D) : Option Bool := match scalEq x y with
  | some b => some b
  | none => if SeqAt.shaped x && SeqAt.shaped y then some (PyData.eqv x y) else none
def bT : Option Bool → Option T := fun o => o.map fun b => .leaf (.bool b)
def eqD (x y : D) : Option T := bT (eqB x y)
def neD (x y : D) : Option T := bT ((eqB x y).map (!·))
theorem scal_rule {K : PySem.W.Frag} {x y : D} {b : Bool} (h : scalEq x y = some b) {J : Addr → Prop} {H : Hp} {v u : V} (rx : RD K J H v x) (ry : RD K J H u y) : scal v u = true ∧ decide (v = u) = b := by
  unfold scalEq at h
  split at h
  · cases h; cases rx; cases ry; exact ⟨rfl, by simp⟩
  · cases h; cases rx; cases ry; exact ⟨rfl, by simp [Bool.beq_eq_decide_eq]⟩
  · cases h; cases rx; cases ry; exact ⟨rfl, by simp [Bool.beq_eq_decide_eq]⟩
  · cases h; cases rx; cases ry; exact ⟨rfl, by simp [Bool.beq_eq_decide_eq]⟩
  · cases h
theorem OpR.or2 {f : Value → Value → Sem Value} {r r' : R2} (h : OpR X f r) (h' : OpR X f r') : OpR X f (fun x y H Q => r x y H Q ∨ r' x y H Q) := by
  intro pins s σ H x y v u Q I rx ry q
  rcases q with q | q
  · exact h pins s σ H x y v u Q I rx ry q
  · exact h' pins s σ H x y v u Q I rx ry q
theorem os_eq (hu : X.A.units + 64 < cLine) : OpS X (compareOp .Eq) eqD := by
  refine .mk (OpR.or2 op_eq (op_eqD hu)) fun x y t h J H v u jd rx ry Q q => ?_
  unfold eqD bT eqB at h
  cases hs : scalEq x y with
  | some b =>
    simp only [hs, Option.map_some, Option.some.injEq] at h
    subst h
    obtain ⟨h1, h2⟩ := scal_rule hs rx ry
    exact .inl ⟨h1, by rw [h2]; exact q _ _ _ _ (New.same (.bl _) jd)⟩
  | none =>
    simp only [hs] at h
    split at h
    · rename_i hz
      simp only [Option.map_some, Option.some.injEq] at h
      subst h
      simp only [Bool.and_eq_true] at hz
      exact .inr ⟨x, y, rx.dp (SeqAt.canLay_of_shaped hz.1), ry.dp (SeqAt.canLay_of_shaped hz.2), hz.1, hz.2, q _ _ _ _ (New.same (.bl _) jd)⟩
    · cases h
theorem os_ne (hu : X.A.units + 64 < cLine) : OpS X (compareOp .NotEq) neD := by
  refine .mk (OpR.or2 op_ne (op_neD hu)) fun x y t h J H v u jd rx ry Q q => ?_
  unfold neD bT eqB at h
  cases hs : scalEq x y with
  | some b =>
    simp only [hs, Option.map_some, Option.some.injEq] at h
    subst h
    obtain ⟨h1, h2⟩ := scal_rule hs rx ry
    exact .inl ⟨h1, by rw [h2]; exact q _ _ _ _ (New.same (.bl _) jd)⟩
  | none =>
    simp only [hs] at h
    split at h
    · rename_i hz
      simp only [Option.map_some, Option.some.injEq] at h
      subst h
      simp only [Bool.and_eq_true] at hz
      exact .inr ⟨x, y, rx.dp (SeqAt.canLay_of_shaped hz.1), ry.dp (SeqAt.canLay_of_shaped hz.2), hz.1, hz.2, q _ _ _ _ (New.same (.bl _) jd)⟩
    · cases h
def str2 (g : Str → Str → Bool) : D → D → Option T
  | .str a, .str b => some (.leaf (.bool (g a b)))
  | _, _ => none
theorem OpS.str2 {f : Value → Value → Sem Value} {g : Str → Str → Bool} (ho : OpR X f (fun x y H Q => ∃ i j, x = .str i ∧ y = .str j ∧ Q (.bl (g i j)) H)) : OpS X f (IL.str2 g) := by
  refine .mk ho fun x y t h J H v u jd rx ry Q q => ?_
  unfold IL.str2 at h
  split at h
  · cases h
    cases rx; cases ry
    exact ⟨_, _, rfl, rfl, q _ _ _ _ (New.same (.bl _) jd)⟩
  · cases h
def strLt (a b : Str) : Bool := decide (a.cps.toList < b.cps.toList)
def ltD (x y : D) : Option T := orr (int2 (fun _ _ => true) (fun i j => .bool (decide (i < j))) x y) (str2 (fun a b => strLt a b) x y)
def leD (x y : D) : Option T := orr (int2 (fun _ _ => true) (fun i j => .bool (decide (i ≤ j))) x y) (str2 (fun a b => !strLt b a) x y)
def gtD (x y : D) : Option T := orr (int2 (fun _ _ => true) (fun i j => .bool (decide (j < i))) x y) (str2 (fun a b => strLt b a) x y)
def geD (x y : D) : Option T := orr (int2 (fun _ _ => true) (fun i j => .bool (decide (j ≤ i))) x y) (str2 (fun a b => !strLt a b) x y)
theorem os_lt : OpS X (compareOp .Lt) ltD := .or (.cmp0 op_lt) (.str2 op_lt_str)
theorem os_le : OpS X (compareOp .LtE) leD := .or (.cmp0 op_le) (.str2 op_le_str)
theorem os_gt : OpS X (compareOp .Gt) gtD := .or (.cmp0 op_gt) (.str2 op_gt_str)
theorem os_ge : OpS X (compareOp .GtE) geD := .or (.cmp0 op_ge) (.str2 op_ge_str)
/-- a in b -/
def inB (x y : D) : Option Bool := match x, y with
  | .str a, .str z => (match a.cps.toList with
    | [c] => some (decide (c ∈ z.cps.toList))
    | _ => none)
  | d, .list ds => if SeqAt.shaped d && SeqAt.shaped (.list ds) then some (ds.any fun z => PyData.eqv z d) else none
  | _, _ => none
def inD (x y : D) : Option T := bT (inB x y)
def ninD (x y : D) : Option T := bT ((inB x y).map (!·))
theorem str_one {a : Str} {c : Nat} (h : a.cps.toList = [c]) : a = ⟨#[c]⟩ := by
  obtain ⟨cps⟩ := a
  simp only at h
  congr
  have := congrArg List.toArray h
  simpa using this
theorem os_in (hu : X.A.units + 65 < cLine) : OpS X (compareOp .In) inD := by
  refine .mk (OpR.or2 op_in_sign (op_inD hu)) fun x y t h J H v u jd rx ry Q q => ?_
  unfold inD bT inB at h
  split at h
  · split at h
    · rename_i c hc
      simp only [Option.map_some, Option.some.injEq] at h
      subst h
      cases rx; cases ry
      exact .inl ⟨c, _, by rw [str_one hc], rfl, q _ _ _ _ (New.same (.bl _) jd)⟩
    · cases h
  · split at h
    · rename_i hz
      simp only [Option.map_some, Option.some.injEq] at h
      subst h
      simp only [Bool.and_eq_true] at hz
      exact .inr ⟨_, _, rx.dp (SeqAt.canLay_of_shaped hz.1), ry.dp (SeqAt.canLay_of_shaped hz.2), hz.1, hz.2, q _ _ _ _ (New.same (.bl _) jd)⟩
    · cases h
  · cases h
theorem os_notIn (hu : X.A.units + 65 < cLine) : OpS X (compareOp .NotIn) ninD := by
  refine .mk (OpR.or2 op_notIn_sign (op_notInD hu)) fun x y t h J H v u jd rx ry Q q => ?_
  unfold ninD bT inB at h
  split at h
  · split at h
    · rename_i c hc
      simp only [Option.map_some, Option.some.injEq] at h
      subst h
      cases rx; cases ry
      exact .inl ⟨c, _, by rw [str_one hc], rfl, q _ _ _ _ (New.same (.bl _) jd)⟩
    · cases h
  · split at h
    · rename_i hz
      simp only [Option.map_some, Option.some.injEq] at h
      subst h
      simp only [Bool.and_eq_true] at hz
      exact .inr ⟨_, _, rx.dp (SeqAt.canLay_of_shaped hz.1), ry.dp (SeqAt.canLay_of_shaped hz.2), hz.1, hz.2, q _ _ _ _ (New.same (.bl _) jd)⟩
    · cases h
  · cases h
def isNone : D → Bool
  | .none => true
  | _ => false
def isD (x y : D) : Option T := match y with
  | .none => some (.leaf (.bool (isNone x)))
  | .bool b => (match x with
    | .bool a => some (.leaf (.bool (decide (a = b))))
    | _ => none)
  | _ => none
def isntD (x y : D) : Option T := match y with
  | .none => some (.leaf (.bool (!isNone x)))
  | .bool b => (match x with
    | .bool a => some (.leaf (.bool (!decide (a = b))))
    | _ => none)
  | _ => none
theorem isNone_rule {K : PySem.W.Frag} {x : D} {J : Addr → Prop} {H : Hp} {v : V} (rx : RD K J H v x) : decide (v = .non) = isNone x := by
  cases rx <;> rfl
theorem os_is : OpS X (compareOp .Is) isD := by
  refine .mk (OpR.or op_isN op_isBl) fun x y t h J H v u jd rx ry Q q => ?_
  unfold isD at h
  split at h
  · cases h
    cases ry
    exact .inl ⟨rfl, by rw [isNone_rule rx]; exact q _ _ _ _ (New.same (.bl _) jd)⟩
  · split at h
    · cases h
      cases ry
      cases rx
      exact .inr ⟨_, _, rfl, rfl, q _ _ _ _ (New.same (.bl _) jd)⟩
    · cases h
  · cases h
theorem os_isnt : OpS X (compareOp .IsNot) isntD := by
  refine .mk (OpR.or op_notN op_notBl) fun x y t h J H v u jd rx ry Q q => ?_
  unfold isntD at h
  split at h
  · cases h
    cases ry
    exact .inl ⟨rfl, by rw [isNone_rule rx]; exact q _ _ _ _ (New.same (.bl _) jd)⟩
  · split at h
    · cases h
      cases ry
      cases rx
      exact .inr ⟨_, _, rfl, rfl, q _ _ _ _ (New.same (.bl _) jd)⟩
    · cases h
  · cases h

/-! ### built-in functions by values -/
def CallS (X : Cx) (f : Value) (g : List D → Option T) : Prop :=
  ∃ r, CallR X f r ∧ ∀ xs t, g xs = some t → ∀ (J : Addr → Prop) (H : Hp) (vs : List V), (∀ b, J b → H b ≠ none) → RDs X.K J H vs xs → ∀ Q : VK, (∀ w H' J' fp, New X.K J H J' H' w t fp → Q w H') → r vs H Q
theorem CallS.mk {f : Value} {r : List V → Hp → VK → Prop} {g : List D → Option T} (ho : CallR X f r)
    (h : ∀ xs t, g xs = some t → ∀ (J : Addr → Prop) (H : Hp) (vs : List V), (∀ b, J b → H b ≠ none) → RDs X.K J H vs xs → ∀ Q : VK, (∀ w H' J' fp, New X.K J H J' H' w t fp → Q w H') → r vs H Q) : CallS X f g := ⟨r, ho, h⟩
theorem CallS.or {f : Value} {g g' : List D → Option T} (h : CallS X f g) (h' : CallS X f g') : CallS X f (fun xs => orr (g xs) (g' xs)) := by
  obtain ⟨r, h1, h2⟩ := h
  obtain ⟨r', h1', h2'⟩ := h'
  refine ⟨fun xs H Q => r xs H Q ∨ r' xs H Q, CallR.or h1 h1', fun xs t e J H vs jd rx Q q => ?_⟩
  cases e1 : g xs with
  | none =>
    simp only [e1, orr] at e
    exact .inr (h2' xs t e J H vs jd rx Q q)
  | some t' =>
    simp only [e1, orr] at e
    exact .inl (h2 xs t (by rw [e1]; exact e) J H vs jd rx Q q)
theorem RDs.one {K : PySem.W.Frag} {J : Addr → Prop} {H : Hp} {vs : List V} {d : D} (r : RDs K J H vs [d]) : ∃ v, vs = [v] ∧ RD K J H v d := by
  cases r with
  | cons r s => cases s; exact ⟨_, rfl, r⟩
theorem RDs.two {K : PySem.W.Frag} {J : Addr → Prop} {H : Hp} {vs : List V} {d e : D} (r : RDs K J H vs [d, e]) : ∃ v u, vs = [v, u] ∧ RD K J H v d ∧ RD K J H u e := by
  cases r with
  | cons r s =>
    obtain ⟨u, rfl, r2⟩ := s.one
    exact ⟨_, u, rfl, r, r2⟩
def gCall (g : List D → Option T) (f : M (List D)) : M T := bnd f fun xs => opt (g xs)
theorem tCB_rd {pn : List (Nat × V)} {g : List D → Option T} {r : List V → Hp → VK → Prop} (hg : ∀ xs t, g xs = some t → ∀ (J : Addr → Prop) (H : Hp) (vs : List V), (∀ b, J b → H b ≠ none) → RDs X.K J H vs xs → ∀ Q : VK, (∀ w H' J' fp, New X.K J H J' H' w t fp → Q w H') → r vs H Q)
    {f : M (List D)} {σ : L2.St} {H : Hp} {Q : VK} (h : rdE X.K pn (gCall g f) σ H Q) : tCB r (rdDs X.K pn f) σ H Q := by
  obtain ⟨e, J, F, s, t, e', h, q⟩ := h
  obtain ⟨x, e1, h1, h2⟩ := bnd_ok h
  obtain ⟨h3, rfl⟩ := opt_ok h2
  refine ⟨e, J, F, s, x, _, h1, fun v H1 J1 F1 s1 r1 tr1 => ?_⟩
  refine hg x t h3 J1 H1 v s1.jd r1 Q fun w H' J' fp n => ?_
  obtain ⟨s3, o3, tr3⟩ := n.sr s1
  exact q w H' J' F1 fp s3 o3 (tr1.trans tr3)
def lenD : List D → Option T
  | [.list xs] => some (.leaf (.int xs.length))
  | [.tuple xs] => some (.leaf (.int xs.length))
  | [.str z] => if z.length ≤ most then some (.leaf (.int z.length)) else none
  | _ => none
theorem cs_len : CallS X (.builtin "len") lenD := by
  refine .mk (CallR.or call_len_seq call_len_str) fun xs t h J H vs jd rx Q q => ?_
  unfold lenD at h
  split at h
  · cases h
    obtain ⟨v, rfl, r⟩ := rx.one
    cases r with
    | lst j p r => exact .inl ⟨_, _, rfl, .inl (.inl (.inl p)), by rw [r.length]; exact q _ _ _ _ (New.same (.int _) jd)⟩
  · cases h
    obtain ⟨v, rfl, r⟩ := rx.one
    cases r with
    | tup p r => exact .inl ⟨_, _, rfl, .inr p.sq, by rw [r.length]; exact q _ _ _ _ (New.same (.int _) jd)⟩
  · split at h
    · rename_i hz
      cases h
      obtain ⟨v, rfl, r⟩ := rx.one
      cases r
      exact .inr ⟨_, rfl, most_le hz, q _ _ _ _ (New.same (.int _) jd)⟩
    · cases h
  · cases h
def absD : List D → Option T
  | [.int i] => some (.leaf (.int (if i < 0 then -i else i)))
  | _ => none
theorem cs_abs : CallS X (.builtin "abs") absD := by
  refine .mk call_abs fun xs t h J H vs jd rx Q q => ?_
  unfold absD at h
  split at h
  · cases h
    obtain ⟨v, rfl, r⟩ := rx.one
    cases r
    exact ⟨_, rfl, q _ _ _ _ (New.same (.int _) jd)⟩
  · cases h
def listD : List D → Option T
  | [.list xs] => some (.lst (xs.map .leaf))
  | [.tuple xs] => some (.lst (xs.map .leaf))
  | _ => none
theorem cs_list : CallS X (.type "list") listD := by
  refine .mk call_list_of fun xs t h J H vs jd rx Q q => ?_
  unfold listD at h
  split at h
  · cases h
    obtain ⟨v, rfl, r⟩ := rx.one
    cases r with
    | lst j p r => exact ⟨_, _, rfl, .inl (.inl (.inl p)), fun a ha => q _ _ _ _ (New.list r jd ha)⟩
  · cases h
    obtain ⟨v, rfl, r⟩ := rx.one
    cases r with
    | tup p r => exact ⟨_, _, rfl, .inr p.sq, fun a ha => q _ _ _ _ (New.list r jd ha)⟩
  · cases h
def tupleD : List D → Option T
  | [.list xs] => some (.leaf (.tuple xs))
  | [.tuple xs] => some (.leaf (.tuple xs))
  | _ => none
theorem cs_tuple : CallS X (.type "tuple") tupleD := by
  refine .mk call_tuple_of fun xs t h J H vs jd rx Q q => ?_
  unfold tupleD at h
  split at h
  · cases h
    obtain ⟨v, rfl, r⟩ := rx.one
    cases r with
    | lst j p r => exact ⟨_, _, rfl, .inl ⟨.inl (.inl p), fun a ha => q _ _ _ _ (New.tuple r jd ha)⟩⟩
  · cases h
    obtain ⟨v, rfl, r⟩ := rx.one
    cases r with
    | tup p r => exact ⟨_, _, rfl, .inr ⟨p.sq, q _ _ _ _ (New.same (.tup p r) jd)⟩⟩
  · cases h
def boolsD : List D → Option (List Bool)
  | [] => some []
  | .bool b :: r => (boolsD r).map (b :: ·)
  | _ :: _ => none
theorem bools_rule {K : PySem.W.Frag} {J : Addr → Prop} {H : Hp} : ∀ {ds : List D} {bs : List Bool} {vs : List V}, boolsD ds = some bs → RDs K J H vs ds → vs = bs.map V.bl
  | [], _, _, h, .nil => by cases h; rfl
  | d :: ds, bs, _, h, .cons r s => by
    cases d with
    | bool b =>
      unfold boolsD at h
      cases hb : boolsD ds with
      | none => rw [hb] at h; cases h
      | some bs' =>
        rw [hb] at h
        cases h
        cases r
        rw [bools_rule hb s]
        rfl
    | _ => cases h
def intsD : List D → Option (List Int)
  | [] => some []
  | .int b :: r => (intsD r).map (b :: ·)
  | _ :: _ => none
theorem ints_rule {K : PySem.W.Frag} {J : Addr → Prop} {H : Hp} : ∀ {ds : List D} {bs : List Int} {vs : List V}, intsD ds = some bs → RDs K J H vs ds → vs = bs.map V.int
  | [], _, _, h, .nil => by cases h; rfl
  | d :: ds, bs, _, h, .cons r s => by
    cases d with
    | int b =>
      unfold intsD at h
      cases hb : intsD ds with
      | none => rw [hb] at h; cases h
      | some bs' =>
        rw [hb] at h
        cases h
        cases r
        rw [ints_rule hb s]
        rfl
    | _ => cases h
def allD : List D → Option T
  | [.list xs] => (boolsD xs).map fun bs => .leaf (.bool (bs.all id))
  | _ => none
def anyD : List D → Option T
  | [.list xs] => (boolsD xs).map fun bs => .leaf (.bool (bs.any id))
  | _ => none
def sumD : List D → Option T
  | [.list xs] => (intsD xs).map fun bs => .leaf (.int bs.sum)
  | _ => none
theorem cs_all (hc : X.calm = true) : CallS X (.builtin "all") allD := by
  refine .mk (cr_all hc) fun xs t h J H vs jd rx Q q => ?_
  unfold allD at h
  split at h
  · rename_i ds
    cases hb : boolsD ds with
    | none => rw [hb] at h; cases h
    | some bs =>
      rw [hb] at h
      cases h
      obtain ⟨v, rfl, r⟩ := rx.one
      cases r with
      | lst j p r => exact ⟨_, bs, rfl, by rw [← bools_rule hb r]; exact .inl (.inl p), q _ _ _ _ (New.same (.bl _) jd)⟩
  · cases h
theorem cs_any (hc : X.calm = true) : CallS X (.builtin "any") anyD := by
  refine .mk (cr_any hc) fun xs t h J H vs jd rx Q q => ?_
  unfold anyD at h
  split at h
  · rename_i ds
    cases hb : boolsD ds with
    | none => rw [hb] at h; cases h
    | some bs =>
      rw [hb] at h
      cases h
      obtain ⟨v, rfl, r⟩ := rx.one
      cases r with
      | lst j p r => exact ⟨_, bs, rfl, by rw [← bools_rule hb r]; exact .inl (.inl p), q _ _ _ _ (New.same (.bl _) jd)⟩
  · cases h
theorem cs_sum (hc : X.calm = true) : CallS X (.builtin "sum") sumD := by
  refine .mk (cr_sum hc) fun xs t h J H vs jd rx Q q => ?_
  unfold sumD at h
  split at h
  · rename_i ds
    cases hb : intsD ds with
    | none => rw [hb] at h; cases h
    | some bs =>
      rw [hb] at h
      cases h
      obtain ⟨v, rfl, r⟩ := rx.one
      cases r with
      | lst j p r => exact ⟨_, bs, rfl, by rw [← ints_rule hb r]; exact .inl (.inl p), q _ _ _ _ (New.same (.int _) jd)⟩
  · cases h
def max2D : List D → Option T
  | [.int i, .int j] => some (.leaf (.int (if j > i then j else i)))
  | _ => none
def min2D : List D → Option T
  | [.int i, .int j] => some (.leaf (.int (if j < i then j else i)))
  | _ => none
theorem cs_max2 (hc : X.calm = true) : CallS X (.builtin "max") max2D := by
  refine .mk (call_max2 hc) fun xs t h J H vs jd rx Q q => ?_
  unfold max2D at h
  split at h
  · cases h
    obtain ⟨v, u, rfl, r, r'⟩ := rx.two
    cases r; cases r'
    exact ⟨_, _, rfl, q _ _ _ _ (New.same (.int _) jd)⟩
  · cases h
theorem cs_min2 (hc : X.calm = true) : CallS X (.builtin "min") min2D := by
  refine .mk (call_min2 hc) fun xs t h J H vs jd rx Q q => ?_
  unfold min2D at h
  split at h
  · cases h
    obtain ⟨v, u, rfl, r, r'⟩ := rx.two
    cases r; cases r'
    exact ⟨_, _, rfl, q _ _ _ _ (New.same (.int _) jd)⟩
  · cases h
/-- repr -/
def reprOk (d : D) : Bool := d.canLay0 && d.showable && decide (d.depth ≤ 64) && decide (d.shown.length ≤ sizeLine)
def reprD : List D → Option T
  | [d] => if reprOk d then some (.leaf (.str d.shown)) else none
  | _ => none
end
end IL

namespace IL
open PySem PySem.Spec PyProof.Rows L2

/-! ### statements -/
inductive Fl where
  | nx | bk | ct
  | rt (t : T)
section
variable (K : PySem.W.Frag) (pn : List (Nat × V))
def Aft (D : Ends) (J : Addr → Prop) (H : Hp) (F : List Addr) (e' : En) : Fl → Prop
  | .nx => ∀ σ' H' J' F', SR K pn σ' H' e' J' F' → Tr J H F J' H' F' → D.nx σ' H'
  | .bk => ∀ σ' H' J' F', SR K pn σ' H' e' J' F' → Tr J H F J' H' F' → D.bk σ' H'
  | .ct => ∀ σ' H' J' F', SR K pn σ' H' e' J' F' → Tr J H F J' H' F' → D.ct σ' H'
  | .rt t => ∀ v σ' H' J' F' fp, SR K pn σ' H' e' J' F' → Own K J' H' F' v t fp → Tr J H F J' H' (F' ++ fp) → D.rt v H'
def rdS (f : M Fl) : TS := fun D σ H => ∃ e J F, SR K pn σ H e J F ∧ ∃ fl e', f e = .ok fl e' ∧ Aft K pn D J H F e' fl
end
theorem Aft.pre {K : PySem.W.Frag} {pn : List (Nat × V)} {D : Ends} {J J1 : Addr → Prop} {H H1 : Hp} {F F1 : List Addr} {e' : En} {fl : Fl} (a : Aft K pn D J H F e' fl) (tr : Tr J H F J1 H1 F1) : Aft K pn D J1 H1 F1 e' fl := by
  cases fl with
  | nx => exact fun σ' H' J' F' s t => a σ' H' J' F' s (tr.trans t)
  | bk => exact fun σ' H' J' F' s t => a σ' H' J' F' s (tr.trans t)
  | ct => exact fun σ' H' J' F' s t => a σ' H' J' F' s (tr.trans t)
  | rt x => exact fun v σ' H' J' F' fp s o t => a v σ' H' J' F' fp s o (tr.trans t)
def gSeq (f g : M Fl) : M Fl := bnd f fun fl => match fl with
  | .nx => g
  | .bk => ret .bk
  | .ct => ret .ct
  | .rt t => ret (.rt t)
def store (i : Nat) (t : T) : M Unit := fun e => if i < e.length then .ok () (e.set i (some t)) else .bad
def gSet (i : Nat) (f : M T) : M Fl := bnd f fun t => bnd (store i t) fun _ => ret .nx
def gRet (f : M T) : M Fl := bnd f fun t => ret (.rt t)
def gExp (f : M T) : M Fl := bnd f fun _ => ret .nx
theorem store_ok' {i : Nat} {t : T} {e e2 : En} {u : Unit} (h : store i t e = .ok u e2) : i < e.length ∧ e2 = e.set i (some t) := by
  unfold store at h
  split at h
  · cases h; exact ⟨by assumption, rfl⟩
  · cases h
section
variable {X : Cx} {pn : List (Nat × V)} {a b c : Expr} {pos : Pos} {es : List Expr} {st : Stmt} {sts : List Stmt}
theorem is_nil : PSs X [] (rdS X.K pn (ret .nx)) := PSs.weak pss_nil fun D σ H ⟨e, J, F, s, fl, e', h, q⟩ => by
  cases h
  exact q σ H J F s .refl
theorem is_cons {f g : M Fl} (h1 : PS X st (rdS X.K pn f)) (h2 : PSs X sts (rdS X.K pn g)) : PSs X (st :: sts) (rdS X.K pn (gSeq f g)) :=
  PSs.weak (pss_cons h1 h2) fun D σ H ⟨e, J, F, s, fl, e', h, q⟩ => by
    obtain ⟨x, e1, k1, k2⟩ := bnd_ok h
    refine ⟨e, J, F, s, x, e1, k1, ?_⟩
    cases x with
    | nx => exact fun σ' H' J' F' s' tr => ⟨e1, J', F', s', fl, e', k2, q.pre tr⟩
    | bk => cases k2; exact q
    | ct => cases k2; exact q
    | rt t => cases k2; exact q
/-- the last statement of a block -/
theorem is_one {f : M Fl} (h1 : PS X st (rdS X.K pn f)) : PSs X [st] (rdS X.K pn f) := pss_one h1
theorem is_ret {f : M T} (h : IE X pn a f) : PS X (.Return (some a) pos) (rdS X.K pn (gRet f)) := PS.weak (ps_ret h.pe) fun D σ H ⟨e, J, F, s, fl, e', h, q⟩ => by
  obtain ⟨x, e1, k1, k2⟩ := bnd_ok h
  cases k2
  exact ⟨e, J, F, s, x, _, k1, fun v H' J' F' fp s' o tr => q v σ H' J' F' fp s' o tr⟩
theorem is_retN : PS X (.Return none pos) (rdS X.K pn (ret (.rt (.leaf .none)))) := PS.weak ps_retN fun D σ H ⟨e, J, F, s, fl, e', h, q⟩ => by
  cases h
  exact q .non σ H J F [] s ⟨.leaf .non, by simpa using s.nd, fun _ z => nomatch z⟩ (by simpa using Tr.refl)
theorem is_pass : PS X (.Pass pos) (rdS X.K pn (ret .nx)) := PS.weak ps_pass fun D σ H ⟨e, J, F, s, fl, e', h, q⟩ => by
  cases h
  exact q σ H J F s .refl
theorem is_break : PS X (.Break pos) (rdS X.K pn (ret .bk)) := PS.weak ps_break fun D σ H ⟨e, J, F, s, fl, e', h, q⟩ => by
  cases h
  exact q σ H J F s .refl
theorem is_cont : PS X (.Continue pos) (rdS X.K pn (ret .ct)) := PS.weak ps_continue fun D σ H ⟨e, J, F, s, fl, e', h, q⟩ => by
  cases h
  exact q σ H J F s .refl
theorem is_exp {f : M T} (h : IE X pn a f) (hs : swapsWith a none pos.line X.env = pure false) : PS X (.Expr a pos) (rdS X.K pn (gExp f)) := PS.weak (ps_expr h.pe hs) fun D σ H ⟨e, J, F, s, fl, e', h, q⟩ => by
  obtain ⟨x, e1, k1, k2⟩ := bnd_ok h
  cases k2
  exact ⟨e, J, F, s, x, _, k1, fun v H' J' F' fp s' o tr => q σ H' J' F' s' (tr.trans (Tr.sub fun b hb => List.mem_append_left _ hb))⟩
def gIfS (c : M Bool) (f g : M Fl) : M Fl := cond c f g
theorem is_if {c : Expr} {f : M T} {g k : M Fl} {ts es : List Stmt} (hc : IE X pn c f) (hn : notIf c = true) (h1 : PSs X ts (rdS X.K pn g)) (h2 : PSs X es (rdS X.K pn k)) : PS X (.If c ts es pos) (rdS X.K pn (gIfS (tst f) g k)) :=
  PS.weak (ps_if (hc.pt hn) h1 h2) fun D σ H ⟨e, J, F, s, fl, e', h, q⟩ => by
    obtain ⟨x, e1, k1, k2⟩ := bnd_ok h
    refine ⟨e, J, F, s, x, e1, k1, fun H1 J1 F1 s1 tr1 => ?_⟩
    cases x with
    | true =>
      rw [if_pos rfl] at k2 ⊢
      exact ⟨e1, J1, F1, s1, fl, e', k2, q.pre tr1⟩
    | false =>
      rw [if_neg Bool.false_ne_true] at k2 ⊢
      exact ⟨e1, J1, F1, s1, fl, e', k2, q.pre tr1⟩

/-! ### targets -/
def Sm (ws : List Nat) (σ σ' : L2.St) : Prop := σ'.length = σ.length ∧ ∀ i, i ∉ ws → σ'[i]? = σ[i]?
theorem Sm.refl {ws : List Nat} {σ : L2.St} : Sm ws σ σ := ⟨rfl, fun _ _ => rfl⟩
theorem Sm.trans {w1 w2 : List Nat} {σ σ1 σ2 : L2.St} (a : Sm w1 σ σ1) (b : Sm w2 σ1 σ2) : Sm (w1 ++ w2) σ σ2 := ⟨b.1.trans a.1, fun i h => (b.2 i fun z => h (List.mem_append_right _ z)).trans (a.2 i fun z => h (List.mem_append_left _ z))⟩
def rdG (K : PySem.W.Frag) (pn : List (Nat × V)) (ws : List Nat) (bd : D → M Unit) : TG := fun v σ H Q => ∃ e J F d, SR K pn σ H e J F ∧ RD K J H v d ∧ ∃ e', bd d e = .ok () e' ∧ ∀ σ' H' J' F', SR K pn σ' H' e' J' F' → Tr J H F J' H' F' → Sm ws σ σ' → Q σ' H'
def rdGs (K : PySem.W.Frag) (pn : List (Nat × V)) (ws : List Nat) (bd : List D → M Unit) : TGs := fun v σ H Q => ∃ e J F d, SR K pn σ H e J F ∧ RDs K J H v d ∧ ∃ e', bd d e = .ok () e' ∧ ∀ σ' H' J' F', SR K pn σ' H' e' J' F' → Tr J H F J' H' F' → Sm ws σ σ' → Q σ' H'
theorem PG.weak {e : Expr} {t t' : TG} (h : PG X e t) (w : ∀ (v : V) (σ : L2.St) (H : Hp) (Q : L2.St → Hp → Prop), t' v σ H Q → t v σ H Q) : PG X e t' := ⟨fun pins s σ H v u Q I r q => h.run pins s σ H v u Q I r (w v σ H Q q)⟩
theorem PGs.weak {e : List Expr} {t t' : TGs} (h : PGs X e t) (w : ∀ (v : List V) (σ : L2.St) (H : Hp) (Q : L2.St → Hp → Prop), t' v σ H Q → t v σ H Q) : PGs X e t' := ⟨fun pins s σ H v u Q I r q => h.run pins s σ H v u Q I r (w v σ H Q q)⟩
theorem PG.or {e : Expr} {t t' : TG} (h : PG X e t) (h' : PG X e t') : PG X e (fun v σ H Q => t v σ H Q ∨ t' v σ H Q) := ⟨fun pins s σ H v u Q I r q => by
  rcases q with q | q
  · exact h.run pins s σ H v u Q I r q
  · exact h'.run pins s σ H v u Q I r q⟩
theorem ig_name {i : Nat} (h : PG X a (gName i)) (hp : ∀ p ∈ pn, p.1 ≠ i) : PG X a (rdG X.K pn [i] fun d => store i (.leaf d)) := PG.weak h fun v σ H Q ⟨e, J, F, d, s, r, e', h, q⟩ => by
  obtain ⟨hi, rfl⟩ := store_ok' h
  obtain ⟨F', s', hF⟩ := s.set hi hp ⟨.leaf r, by simpa using s.nd, fun _ z => nomatch z⟩
  refine q _ H J F' s' (Tr.sub fun b hb => by simpa using hF b hb) ⟨by simp, fun j hj => ?_⟩
  rw [List.getElem?_set_ne (fun z => hj (by simp [z]))]
theorem igs_nil : PGs X [] (rdGs X.K pn [] fun ds => match ds with | [] => ret () | _ => bad) := PGs.weak pgs_nil fun v σ H Q ⟨e, J, F, d, s, r, e', h, q⟩ => by
  cases r with
  | nil => cases h; exact ⟨rfl, q σ H J F s .refl .refl⟩
  | cons _ _ => cases h
def consG (f : D → M Unit) (g : List D → M Unit) : List D → M Unit
  | [] => bad
  | d :: ds => bnd (f d) fun _ => g ds
theorem igs_cons {w1 w2 : List Nat} {f : D → M Unit} {g : List D → M Unit} (h1 : PG X a (rdG X.K pn w1 f)) (h2 : PGs X es (rdGs X.K pn w2 g)) (hs : (assignEach (a :: es) X.env).map (·.2) = assign a X.env :: (assignEach es X.env).map (·.2)) : PGs X (a :: es) (rdGs X.K pn (w1 ++ w2) (consG f g)) :=
  PGs.weak (pgs_cons h1 h2 hs) fun v σ H Q ⟨e, J, F, d, s, r, e', h, q⟩ => by
    cases r with
    | nil => cases h
    | cons r rs =>
      obtain ⟨_, e1, k1, k2⟩ := bnd_ok h
      exact ⟨_, _, rfl, e, J, F, _, s, r, e1, k1, fun σ' H' J' F' s' tr sm => ⟨e1, J', F', _, s', rs.step tr s.jf, e', k2, fun σ2 H2 J2 F2 s2 tr2 sm2 => q σ2 H2 J2 F2 s2 (tr.trans tr2) (sm.trans sm2)⟩⟩
def unT (n : Nat) (g : List D → M Unit) : D → M Unit
  | .tuple ds => if ds.length = n then g ds else bad
  | .list ds => if ds.length = n then g ds else bad
  | _ => bad
theorem ig_tup {ws : List Nat} {g : List D → M Unit} {k n : Nat} (hc : X.calm = true) (h : PGs X es (rdGs X.K pn ws g)) (hn : (assignEach es X.env).length = n) (hst : (assignEach es X.env).findIdx? (·.1) = none) : PG X (.Tuple es k pos) (rdG X.K pn ws (unT n g)) :=
  PG.weak (PG.or (pg_tup hc h hn hst) (pg_unl hc h hn hst)) fun v σ H Q ⟨e, J, F, d, s, r, e', h, q⟩ => by
    unfold unT at h
    split at h
    · split at h
      · rename_i ds hl
        cases r with
        | tup p r => exact .inl ⟨_, _, rfl, p.sq, by rw [r.length]; exact hl, e, J, F, ds, s, r, e', h, q⟩
      · cases h
    · split at h
      · rename_i ds hl
        cases r with
        | lst j p r => exact .inr ⟨_, _, rfl, .inl (.inl p), by rw [r.length]; exact hl, e, J, F, ds, s, r, e', h, q⟩
      · cases h
    · cases h

/-! ### an own list turned -/
/-- the list in slot i gets what vs, ts say -/
theorem SR.turn {K : PySem.W.Frag} {σ : L2.St} {H : Hp} {e : En} {J : Addr → Prop} {F : List Addr} (s : SR K pn σ H e J F) {i : Nat} {ts ts' : List T} {fx : List Addr} (h : e[i]? = some (some (.lst ts)))
    (nd : (F ++ fx).Nodup) (jf : ∀ a ∈ fx, ¬ J a) :
    ∃ a vs, σ[i]? = some (some (.ref a)) ∧ H a = some (.lst vs) ∧ ∃ fp, RTs K J H vs ts fp ∧ ∀ vs' fp', RTs K J H vs' ts' fp' → (∀ b ∈ fp', b ∈ fp ∨ b ∈ fx) → ((fp ++ fx).Nodup → fp'.Nodup) →
      ∃ F', SR K pn σ (upd H a (.lst vs')) (e.set i (some (.lst ts'))) J F' ∧ Tr J H (F ++ fx) J (upd H a (.lst vs')) F' := by
  obtain ⟨v, fp0, F1, hv, o, s1, pm⟩ := s.take h
  cases hrt : o.rt with
  | lst ha rts =>
    rename_i a vs fp
    refine ⟨a, vs, hv, ha, fp, rts, fun vs' fp' r' hsub hnd => ?_⟩
    have ndF : (F1 ++ (a :: fp)).Nodup := o.nd
    have nd2 : ((F1 ++ (a :: fp)) ++ fx).Nodup := ((List.Perm.append_right fx pm).nodup_iff).mp nd
    have hF1 : a ∉ F1 := fun z => (List.nodup_append.mp ndF).2.2 a z a List.mem_cons_self rfl
    have hafp : a ∉ fp := (List.nodup_cons.mp (List.nodup_append.mp ndF).2.1).1
    have hJ : ¬ J a := o.jf a List.mem_cons_self
    have hafx : a ∉ fx := fun z => (List.nodup_append.mp nd2).2.2 a (List.mem_append_right _ List.mem_cons_self) a z rfl
    have hafp' : a ∉ fp' := fun z => (hsub a z).elim hafp hafx
    have keep : ∀ b u, b ≠ a → H b = some u → upd H a (.lst vs') b = some u := fun b u hb q => by rw [upd_ne hb]; exact q
    have dm : ∀ b, H b ≠ none → upd H a (.lst vs') b ≠ none := fun b q => by
      by_cases hb : b = a
      · subst hb; rw [upd_same]; exact fun z => nomatch z
      · rw [upd_ne hb]; exact q
    have s2 : SR K pn σ (upd H a (.lst vs')) (e.set i none) J F1 := s1.step (fun _ j => j) (fun b u z q => keep b u (fun w => by
      subst w
      rcases z with z | z
      · exact hJ z
      · exact hF1 z) q) (fun b z => dm b (s.jd b z)) s1.jf
    have ndp : (fp ++ fx).Nodup := by
      have := (List.nodup_append.mp nd2)
      refine List.nodup_append.mpr ⟨(List.nodup_cons.mp (List.nodup_append.mp ndF).2.1).2, this.2.1, fun x hx y hy => this.2.2 x (List.mem_append_right _ (List.mem_cons_of_mem _ hx)) y hy⟩
    have o2 : Own K J (upd H a (.lst vs')) F1 (.ref a) (.lst ts') (a :: fp') := by
      refine ⟨.lst upd_same (r'.mono (fun _ j => j) (fun b u j q => keep b u (fun w => hJ (w ▸ j)) q) fun b u hb q => keep b u (fun w => hafp' (w ▸ hb)) q), ?_, fun b hb => ?_⟩
      · refine List.nodup_append.mpr ⟨s1.nd, List.nodup_cons.mpr ⟨hafp', hnd ndp⟩, fun x hx y hy z => ?_⟩
        subst z
        rcases List.mem_cons.mp hy with rfl | hy
        · exact hF1 hx
        · rcases hsub x hy with w | w
          · exact (List.nodup_append.mp ndF).2.2 x hx x (List.mem_cons_of_mem _ w) rfl
          · exact (List.nodup_append.mp nd2).2.2 x (List.mem_append_left _ hx) x w rfl
      · rcases List.mem_cons.mp hb with rfl | hb
        · exact hJ
        · rcases hsub b hb with w | w
          · exact o.jf b (List.mem_cons_of_mem _ w)
          · exact jf b w
    have hi : i < e.length := (List.getElem?_eq_some_iff.mp h).1
    obtain ⟨F', s3, pm3⟩ := s2.put (i := i) (by simp [hi]) hv o2
    rw [List.set_set] at s3
    refine ⟨F', s3, ⟨fun b u q hb => keep b u (fun w => ?_) q, dm, fun _ j => j, fun b hb => ?_, fun b z => .inl z⟩⟩
    · subst w
      exact hb (List.mem_append_left _ (pm.mem_iff.mpr (List.mem_append_right _ List.mem_cons_self)))
    · left
      rcases List.mem_append.mp (pm3.mem_iff.mp hb) with z | z
      · exact List.mem_append_left _ (pm.mem_iff.mpr (List.mem_append_left _ z))
      · rcases List.mem_cons.mp z with rfl | z
        · exact List.mem_append_left _ (pm.mem_iff.mpr (List.mem_append_right _ List.mem_cons_self))
        · rcases hsub b z with w | w
          · exact List.mem_append_left _ (pm.mem_iff.mpr (List.mem_append_right _ (List.mem_cons_of_mem _ w)))
          · exact List.mem_append_right _ w
theorem RTs.set {K : PySem.W.Frag} {J : Addr → Prop} {H : Hp} {w : V} {t : T} {g : List Addr} (r : RT K J H w t g) : ∀ {vs : List V} {ts : List T} {fp : List Addr} (j : Nat), RTs K J H vs ts fp → ∃ fp', RTs K J H (vs.set j w) (ts.set j t) fp' ∧ (∀ b ∈ fp', b ∈ fp ∨ b ∈ g) ∧ ((fp ++ g).Nodup → fp'.Nodup)
  | _, _, _, _, .nil => ⟨[], .nil, fun _ h => (nomatch h), fun _ => List.nodup_nil⟩
  | _, _, _, 0, .cons (f := f) (g := f2) q s => ⟨g ++ f2, .cons r s, fun b hb => by
      rcases List.mem_append.mp hb with z | z
      · exact .inr z
      · exact .inl (List.mem_append_right _ z), fun nd => by
      have h := List.nodup_append.mp nd
      have h1 := List.nodup_append.mp h.1
      exact List.nodup_append.mpr ⟨h.2.1, h1.2.1, fun x hx y hy z => h.2.2 y (List.mem_append_right _ hy) x hx z.symm⟩⟩
  | _, _, _, j + 1, .cons (f := f) (g := f2) q s => by
    obtain ⟨fp', h1, h2, h3⟩ := RTs.set r j s
    refine ⟨f ++ fp', .cons q h1, fun b hb => ?_, fun nd => ?_⟩
    · rcases List.mem_append.mp hb with z | z
      · exact .inl (List.mem_append_left _ z)
      · rcases h2 b z with w | w
        · exact .inl (List.mem_append_right _ w)
        · exact .inr w
    · have n0 := List.nodup_append.mp nd
      have n1 := List.nodup_append.mp n0.1
      refine List.nodup_append.mpr ⟨n1.1, h3 (List.nodup_append.mpr ⟨n1.2.1, n0.2.1, fun x hx y hy z => n0.2.2 x (List.mem_append_right _ hx) y hy z⟩), fun x hx y hy z => ?_⟩
      subst z
      rcases h2 x hy with w | w
      · exact n1.2.2 x hx x w rfl
      · exact n0.2.2 x (List.mem_append_left _ hx) x w rfl
/-- x.append(e) -/
def pushT (i : Nat) (t : T) : M Unit := fun e => match e[i]? with
  | some (some (.lst ts)) => if ts.length < most then .ok () (e.set i (some (.lst (ts ++ [t])))) else .bad
  | _ => .bad
def gPush (i : Nat) (f : M T) : M T := bnd (held i) fun _ => bnd (peek i fun t => match t with | .lst _ => some () | _ => none) fun _ => bnd f fun t => bnd (pushT i t) fun _ => ret (.leaf .none)
theorem ie_push {i : Nat} {f : M T} {apos : Pos} (ho : PE X a (tVar i)) (hn : nstar b = true) (ha : PE X b (rdE X.K pn f)) (hbase : attributeBase a "append" X.env (eval a X.env) = eval a X.env) (hline : (apos.endLine == pos.line) = true) :
    IE X pn (.Call (.Attribute a "append" apos) [b] [] pos) (gPush i f) := by
  have hs : starEach [b] X.env = (false, eval b X.env) :: starEach [] X.env := star_of hn [] X.env
  refine ie_mk (PE.weak (pe_bm PySem.F.plainAttrs_list PySem.F.slot_list_append PySem.F.type_list_append mt_append ho (pa_cons ha pa_nil hs) hbase (by rw [hs]; rfl) hline hs (by rfl)) fun σ H Q ⟨e, J, F, s, fl, e', h, q⟩ => ?_)
  obtain ⟨_, e0, h1, h2⟩ := bnd_ok h
  obtain ⟨rfl, t0, h0⟩ := held_ok h1
  obtain ⟨_, e1, h3, h4⟩ := bnd_ok h2
  obtain ⟨rfl, t1, h5, h6⟩ := peek_ok h3
  obtain ⟨t, e2, h7, h8⟩ := bnd_ok h4
  obtain ⟨_, e3, h9, h10⟩ := bnd_ok h8
  cases h10
  split at h6
  · rename_i ts0
    obtain ⟨v, fp, hv, rt⟩ := s.at h5
    cases rt with
    | lst hH rts =>
      refine ⟨_, hv, .inl ⟨rfl, _, .inl (.inl hH)⟩, e1, J, F, s, t, e2, h7, fun w H1 J1 F1 fpw s1 o1 tr1 => ?_⟩
      unfold pushT at h9
      split at h9
      · rename_i ts h11
        split at h9
        · rename_i hz
          cases h9
          obtain ⟨a', vs, hv', ha', fp', rts', go⟩ := s1.turn (ts' := ts ++ [t]) h11 o1.nd o1.jf
          rw [hv] at hv'
          cases hv'
          obtain ⟨F', s2, tr2⟩ := go (vs ++ [w]) (fp' ++ (fpw ++ [])) (rts'.append (.cons o1.rt .nil)) (fun b hb => by simpa using hb) (fun h => by simpa using h)
          refine ⟨_, vs, w, rfl, rfl, ha', by rw [rts'.length]; exact most_lt (Nat.le_of_lt hz), ?_⟩
          exact q _ _ J1 F' [] s2 ⟨.leaf .non, by simpa using s2.nd, fun _ z => nomatch z⟩ (by simpa using tr1.trans tr2)
        · cases h9
      · cases h9
  · cases h6
/-- x[k] = v -/
def setT (i : Nat) (k : D) (t : T) : M Unit := fun e => match e[i]?, k with
  | some (some (.lst ts)), .int z => (match ixN ts.length z with
    | some j => .ok () (e.set i (some (.lst (ts.set j t))))
    | none => .bad)
  | _, _ => .bad
def gPut (i : Nat) (f : M D) (d : D) : M Unit := bnd (held i) fun _ => bnd f fun k => setT i k (.leaf d)
theorem ig_sub {i : Nat} {f : M D} (ho : PE X a (tVar i)) (hi : PE X b (rdD X.K pn f))
    (ha : ∀ v, assign (.Subscript a b pos) X.env v = (do
      let ov ← holding [v] (eval a X.env)
      let iv ← holding [v, ov] (eval b X.env)
      standAt pos
      holding [v, ov, iv] (setItem ov iv v)
      release [v, ov, iv] []) := by intro _; rfl) : PG X (.Subscript a b pos) (rdG X.K pn [] (gPut i f)) :=
  PG.weak (pg_sub ho hi set_list ha) fun v σ H Q ⟨e, J, F, d, s, r, e', h, q⟩ => by
    obtain ⟨_, e0, h1, h2⟩ := bnd_ok h
    obtain ⟨rfl, t0, h0⟩ := held_ok h1
    obtain ⟨k, e1, h3, h4⟩ := bnd_ok h2
    obtain ⟨ov, fpo, hv, rt⟩ := s.at h0
    refine ⟨ov, hv, _, J, F, s, k, e1, h3, fun u H1 J1 F1 s1 r1 tr1 => ?_⟩
    unfold setT at h4
    split at h4
    · rename_i ts z h5
      split at h4
      · rename_i j hj
        cases h4
        have rd := r.step tr1 s.jf
        obtain ⟨a', vs, hv', ha', fp', rts', go⟩ := s1.turn (ts' := ts.set j (.leaf d)) (fx := []) h5 (by simpa using s1.nd) (fun _ z => nomatch z)
        rw [hv] at hv'
        cases hv'
        obtain ⟨fp2, k1, k2, k3⟩ := RTs.set (RT.leaf rd) j rts'
        obtain ⟨F', s2, tr2⟩ := go _ fp2 k1 k2 k3
        cases r1
        refine ⟨a', vs, z, j, rfl, rfl, ha', by rw [rts'.length]; exact hj, ?_⟩
        exact q σ _ J1 F' s2 (tr1.trans (by simpa using tr2)) .refl
      · cases h4
    · cases h4
/-- target = data -/
def gAsg (f : M D) (bd : D → M Unit) : M Fl := bnd f fun d => bnd (bd d) fun _ => ret .nx
theorem is_asg {ws : List Nat} {f : M D} {bd : D → M Unit} (h : PE X b (rdD X.K pn f)) (hg : PG X a (rdG X.K pn ws bd)) (hs : swapsWithSole [a] b pos.line X.env = pure false) (hw : swappedStores [a] b X.env = pure none) (h1 : (assignEach [a] X.env).map (·.2) = [assign a X.env]) :
    PS X (.Assign [a] b pos) (rdS X.K pn (gAsg f bd)) := PS.weak (ps_asg h hg hs hw h1) fun D σ H ⟨e, J, F, s, fl, e', h, q⟩ => by
  obtain ⟨d, e1, k1, k2⟩ := bnd_ok h
  obtain ⟨_, e2, k3, k4⟩ := bnd_ok k2
  cases k4
  exact ⟨e, J, F, s, d, e1, k1, fun v H1 J1 F1 s1 r1 tr1 => ⟨e1, J1, F1, d, s1, r1, _, k3, fun σ' H' J' F' s' tr' _ => q σ' H' J' F' s' (tr1.trans tr')⟩⟩
/-- name = own value -/
theorem is_set {i : Nat} {x : Str} {f : M T} {pos' : Pos} (hN : X.N.Nodup) (hi : X.N[i]? = some x) (hx : Loc X.env.scope x) (hp : ∀ p ∈ pn, p.1 ≠ i) (he : IE X pn b f) (hs : swapsWith b (some (.Name x pos')) pos.line X.env = pure false) (hf : X.fn x = true ∨ X.env.scope.names.lookup x = some .local) :
    PS X (.Assign [.Name x pos'] b pos) (rdS X.K pn (gSet i f)) := PS.weak (ps_set hN hi hx he.pe hs hf) fun D σ H ⟨e, J, F, s, fl, e', h, q⟩ => by
  obtain ⟨t, e1, k1, k2⟩ := bnd_ok h
  obtain ⟨_, e2, k3, k4⟩ := bnd_ok k2
  cases k4
  obtain ⟨k5, rfl⟩ := store_ok' k3
  refine ⟨e, J, F, s, t, e1, k1, fun v H1 J1 F1 fp s1 o1 tr1 => ?_⟩
  obtain ⟨F', s2, hF⟩ := s1.set k5 hp o1
  exact q _ H1 J1 F' s2 (tr1.trans (Tr.sub hF))
/-- x, y = e1, e2 -/
def gPar (i j : Nat) (f : M (List T)) : M Fl := bnd f fun ts => match ts with
  | [t, u] => bnd (store i t) fun _ => bnd (store j u) fun _ => ret .nx
  | _ => bad
theorem Owns.two {K : PySem.W.Frag} {J : Addr → Prop} {H : Hp} {F : List Addr} {vs : List V} {t u : T} {fp : List Addr} (o : Owns K J H F vs [t, u] fp) : ∃ v w f g, vs = [v, w] ∧ RT K J H v t f ∧ RT K J H w u g ∧ fp = f ++ g := by
  cases o.rt with
  | cons r s => cases s with
    | cons r2 s2 => cases s2; exact ⟨_, _, _, _, rfl, r, r2, by simp⟩
theorem is_par {i j : Nat} {x y : Str} {f : M (List T)} {px py pt : Pos} {kt k2 : Nat} {pt2 : Pos} (hc : X.calm = true) (hN : X.N.Nodup) (hi : X.N[i]? = some x) (hj : X.N[j]? = some y) (hij : i ≠ j)
    (hx : X.env.scope.names.lookup x = some .local) (hy : X.env.scope.names.lookup y = some .local) (hp : ∀ p ∈ pn, p.1 ≠ i) (hp' : ∀ p ∈ pn, p.1 ≠ j) (ha : PA X [a, b] (rdEs X.K pn f))
    (hw : swappedStores [.Tuple [.Name x px, .Name y py] kt pt] (.Tuple [a, b] k2 pt2) X.env = pure (some [x, y])) (hs : swapsWithSole [.Tuple [.Name x px, .Name y py] kt pt] (.Tuple [a, b] k2 pt2) pos.line X.env = pure false) :
    PS X (.Assign [.Tuple [.Name x px, .Name y py] kt pt] (.Tuple [a, b] k2 pt2) pos) (rdS X.K pn (gPar i j f)) :=
  PS.weak (ps_par hc hN hi hj hij hx hy ha hw hs) fun D σ H ⟨e, J, F, s, fl, e', h, q⟩ => by
    obtain ⟨ts, e1, k1, k2⟩ := bnd_ok h
    split at k2
    · rename_i t u
      obtain ⟨_, e2, k3, k4⟩ := bnd_ok k2
      obtain ⟨_, e3, k5, k6⟩ := bnd_ok k4
      cases k6
      obtain ⟨k7, rfl⟩ := store_ok' k3
      obtain ⟨k8, rfl⟩ := store_ok' k5
      refine ⟨e, J, F, s, _, e1, k1, fun vs H1 J1 F1 fp s1 o1 tr1 => ?_⟩
      obtain ⟨v, w, f1, g1, rfl, r1, r2, rfl⟩ := o1.two
      have nd := o1.nd
      have oa : Own X.K J1 H1 F1 v t f1 := ⟨r1, by
        have h := List.nodup_append.mp nd
        exact List.nodup_append.mpr ⟨h.1, (List.nodup_append.mp h.2.1).1, fun x hx y hy => h.2.2 x hx y (List.mem_append_left _ hy)⟩, fun b hb => o1.jf b (List.mem_append_left _ hb)⟩
      obtain ⟨F2, s2, hF2⟩ := s1.set k7 hp oa
      have ob : Own X.K J1 H1 F2 w u g1 := ⟨r2, by
        have h := List.nodup_append.mp nd
        have h2 := List.nodup_append.mp h.2.1
        refine List.nodup_append.mpr ⟨s2.nd, h2.2.1, fun x hx y hy z => ?_⟩
        rcases List.mem_append.mp (hF2 x hx) with q | q
        · exact h.2.2 x q y (List.mem_append_right _ hy) z
        · exact h2.2.2 x q y hy z, fun b hb => o1.jf b (List.mem_append_right _ hb)⟩
      obtain ⟨F3, s3, hF3⟩ := s2.set k8 hp' ob
      refine ⟨v, w, rfl, q _ H1 J1 F3 s3 (tr1.trans (Tr.sub fun b hb => ?_))⟩
      rcases List.mem_append.mp (hF3 b hb) with z | z
      · rcases List.mem_append.mp (hF2 b z) with z | z
        · exact List.mem_append_left _ z
        · exact List.mem_append_right _ (List.mem_append_left _ z)
      · exact List.mem_append_right _ (List.mem_append_right _ z)
    · cases k2

/-! ### while -/
def gWhile : Nat → M Bool → M Fl → M Fl
  | 0, _, _ => bad
  | n + 1, c, b => bnd c fun t => if t then bnd b fun fl => match fl with
    | .nx => gWhile n c b
    | .ct => gWhile n c b
    | .bk => ret .nx
    | .rt t => ret (.rt t) else ret .nx
theorem is_while {n : Nat} {f : M T} {g : M Fl} {body : List Stmt} (hp : PassesOwn (model X.prog X.w) X.A X.env X.xe) (hc : IE X pn c f) (hn : notIf c = true) (hb : PSs X body (rdS X.K pn g)) : PS X (.While c body [] pos) (rdS X.K pn (gWhile n (tst f) g)) :=
  PS.weak (ps_while hp (hc.pt hn) hb) fun D σ H ⟨e, J, F, s, fl, e', h, q⟩ => by
    refine ⟨fun m σ1 H1 => ∃ e1 J1 F1, SR X.K pn σ1 H1 e1 J1 F1 ∧ Tr J H F J1 H1 F1 ∧ gWhile m (tst f) g e1 = .ok fl e', ⟨n, e, J, F, s, .refl, h⟩, fun m σ1 H1 hW => ?_⟩
    obtain ⟨e1, J1, F1, s1, tr1, h1⟩ := hW
    cases m with
    | zero => cases h1
    | succ m =>
      obtain ⟨t, e2, k1, k2⟩ := bnd_ok h1
      refine ⟨e1, J1, F1, s1, t, e2, k1, fun H2 J2 F2 s2 tr2 => ?_⟩
      cases t with
      | false =>
        rw [if_neg Bool.false_ne_true] at k2 ⊢
        cases k2
        exact q σ1 H2 J2 F2 s2 (tr1.trans tr2)
      | true =>
        rw [if_pos rfl] at k2 ⊢
        obtain ⟨x, e3, k3, k4⟩ := bnd_ok k2
        refine ⟨fun σ' H' => ∃ m', m' < m + 1 ∧ ∃ e1 J1 F1, SR X.K pn σ' H' e1 J1 F1 ∧ Tr J H F J1 H' F1 ∧ gWhile m' (tst f) g e1 = .ok fl e', fun σ' H' ⟨m', hm, e4, J4, F4, s4, tr4, h4⟩ => ⟨m', hm, e4, J4, F4, s4, tr4, h4⟩, ?_⟩
        refine ⟨e2, J2, F2, s2, x, e3, k3, ?_⟩
        cases x with
        | nx => exact fun σ' H' J' F' s' tr' => ⟨m, Nat.lt_succ_self m, e3, J', F', s', (tr1.trans tr2).trans tr', k4⟩
        | ct => exact fun σ' H' J' F' s' tr' => ⟨m, Nat.lt_succ_self m, e3, J', F', s', (tr1.trans tr2).trans tr', k4⟩
        | bk => cases k4; exact fun σ' H' J' F' s' tr' => q σ' H' J' F' s' ((tr1.trans tr2).trans tr')
        | rt t => cases k4; exact fun v σ' H' J' F' fp s' o tr' => q v σ' H' J' F' fp s' o ((tr1.trans tr2).trans tr')

/-! ### what is walked -/
structure WD (K : PySem.W.Frag) (Jt : It) (ds : List D) (J0 : Addr → Prop) (H0 : Hp) : Prop where
  go : ∀ (i : Nat) (J : Addr → Prop) (H : Hp), (∀ b, J0 b → J b) → (∀ b o, J0 b → H0 b = some o → H b = some o) → i < ds.length → Jt.go i H
  stop : ∀ (J : Addr → Prop) (H : Hp), (∀ b, J0 b → J b) → (∀ b o, J0 b → H0 b = some o → H b = some o) → Jt.stop ds.length H
  yld : ∀ (i : Nat) (J : Addr → Prop) (H : Hp) (x : V) (H' : Hp), (∀ b, J0 b → J b) → (∀ b o, J0 b → H0 b = some o → H b = some o) → (∀ b, J b → H b ≠ none) → Jt.yld i H x H' → ∀ d, ds[i]? = some d → ∃ J', New K J H J' H' x (.leaf d) []
def rdI (K : PySem.W.Frag) (pn : List (Nat × V)) (f : M (List D)) : TI := fun σ H R => ∃ e J F, SR K pn σ H e J F ∧ ∃ ds e', f e = .ok ds e' ∧ ∀ Jt H' J' F', SR K pn σ H' e' J' F' → Tr J H F J' H' F' → WD K Jt ds J' H' → R Jt H'
theorem PI.weak {tg e : Expr} {t t' : TI} (h : PI X tg e t) (w : ∀ (σ : L2.St) (H : Hp) (R : It → Hp → Prop), t' σ H R → t σ H R) : PI X tg e t' := ⟨fun pins s σ H R I q => h.run pins s σ H R I (w σ H R q)⟩
theorem PI.or {tg e : Expr} {t t' : TI} (h : PI X tg e t) (h' : PI X tg e t') : PI X tg e (fun σ H R => t σ H R ∨ t' σ H R) := ⟨fun pins s σ H R I q => by
  rcases q with q | q
  · exact h.run pins s σ H R I q
  · exact h'.run pins s σ H R I q⟩
def gFor (bd : D → M Unit) (b : M Fl) : List D → M Fl
  | [] => ret .nx
  | d :: ds => bnd (bd d) fun _ => bnd b fun fl => match fl with
    | .nx => gFor bd b ds
    | .ct => gFor bd b ds
    | .bk => ret .nx
    | .rt t => ret (.rt t)
theorem Tr.later {J J' : Addr → Prop} {H H' : Hp} {F F' : List Addr} (tr : Tr J H F J' H' F') (jf : ∀ a ∈ F, ¬ J a) : (∀ b, J b → J' b) ∧ (∀ b o, J b → H b = some o → H' b = some o) := ⟨tr.jj, fun b o j e => tr.keep b o e fun z => jf b z j⟩
theorem is_for {ws : List Nat} {tg iter : Expr} {body : List Stmt} {f : M (List D)} {bd : D → M Unit} {g : M Fl} (hp : PassesOwn (model X.prog X.w) X.A X.env X.xe) (hc : X.calm = true) (hi : PI X tg iter (rdI X.K pn f)) (hg : PG X tg (rdG X.K pn ws bd)) (hb : PSs X body (rdS X.K pn g))
    (hs : ∀ x, foldedSetIterable iter X.env x = pure x) : PS X (.For tg iter body [] pos) (rdS X.K pn (bnd f (gFor bd g))) :=
  PS.weak (ps_for hp hc hi hg hb hs) fun D σ H ⟨e, J, F, s, fl, e', h, q⟩ => by
    obtain ⟨ds, e1, h1, h2⟩ := bnd_ok h
    refine ⟨e, J, F, s, ds, e1, h1, fun Jt H1 J1 F1 s1 tr1 wd => ?_⟩
    refine ⟨fun i m σ2 H2 => m = ds.length - i ∧ i ≤ ds.length ∧ ∃ e2 J2 F2, SR X.K pn σ2 H2 e2 J2 F2 ∧ Tr J1 H1 F1 J2 H2 F2 ∧ gFor bd g (ds.drop i) e2 = .ok fl e', ⟨ds.length, by simp, Nat.zero_le _, e1, J1, F1, s1, .refl, by simpa using h2⟩, ?_⟩
    rintro i m σ2 H2 ⟨rfl, hle, e2, J2, F2, s2, tr2, h3⟩
    obtain ⟨l1, l2⟩ := tr2.later s1.jf
    by_cases hi : i < ds.length
    · refine .inr ⟨wd.go i J2 H2 l1 l2 hi, fun σ' H' => ∃ e2 J2 F2, SR X.K pn σ' H' e2 J2 F2 ∧ Tr J1 H1 F1 J2 H' F2 ∧ gFor bd g (ds.drop (i + 1)) e2 = .ok fl e', fun σ' H' hN => ⟨ds.length - (i + 1), by omega, rfl, hi, hN⟩, fun x H' hy => ?_⟩
      obtain ⟨J', n⟩ := wd.yld i J2 H2 x H' l1 l2 s2.jd hy ds[i] (by simp [hi])
      obtain ⟨s3, o3, tr3⟩ := n.sr s2
      have hd : ds.drop i = ds[i] :: ds.drop (i + 1) := List.drop_eq_getElem_cons hi
      rw [hd] at h3
      obtain ⟨_, e3, k1, k2⟩ := bnd_ok h3
      obtain ⟨y, e4, k3, k4⟩ := bnd_ok k2
      simp only [List.append_nil] at tr3
      have r3 : RD X.K J' H' x ds[i] := by
        cases o3.rt with
        | leaf r => exact r
      refine ⟨e2, J', F2, ds[i], s3, r3, e3, k1, fun σ4 H4 J4 F4 s4 tr4 _ => ?_⟩
      have tr24 := (tr2.trans tr3).trans tr4
      refine ⟨e3, J4, F4, s4, y, e4, k3, ?_⟩
      cases y with
      | nx => exact fun σ' H' J' F' s' tr' => ⟨e4, J', F', s', tr24.trans tr', k4⟩
      | ct => exact fun σ' H' J' F' s' tr' => ⟨e4, J', F', s', tr24.trans tr', k4⟩
      | bk => cases k4; exact fun σ' H' J' F' s' tr' => q σ' H' J' F' s' (tr1.trans (tr24.trans tr'))
      | rt t => cases k4; exact fun v σ' H' J' F' fp s' o tr' => q v σ' H' J' F' fp s' o (tr1.trans (tr24.trans tr'))
    · have e0 : i = ds.length := by omega
      subst e0
      rw [List.drop_length] at h3
      cases h3
      exact .inl ⟨wd.stop J2 H2 l1 l2, q σ2 H2 J2 F2 s2 (tr1.trans tr2)⟩
end
end IL

namespace IL
open PySem PySem.Spec PyProof.Rows L2
section
variable {K : PySem.W.Frag}
theorem new_pair {J : Addr → Prop} {H : Hp} {x y : V} {d1 d2 : D} {p : Addr} (r1 : RD K J H x d1) (r2 : RD K J H y d2) (jd : ∀ b, J b → H b ≠ none) (hp : H p = none) : ∃ J', New K J H J' (upd H p (.tup [x, y])) (.ref p) (.leaf (.tuple [d1, d2])) [] :=
  ⟨_, New.tuple (.cons r1 (.cons r2 .nil)) jd hp⟩
/-- what a Walk gives -/
theorem WD.of {Jt : It} {ds : List D} {J0 : Addr → Prop} {H0 : Hp} {G : Hp → Prop} {Y : Nat → Hp → V → Hp → Prop} (w : Walk Jt ds.length G Y)
    (hG : ∀ (J : Addr → Prop) (H : Hp), (∀ b, J0 b → J b) → (∀ b o, J0 b → H0 b = some o → H b = some o) → G H)
    (hY : ∀ (i : Nat) (J : Addr → Prop) (H : Hp) (x : V) (H' : Hp), (∀ b, J0 b → J b) → (∀ b o, J0 b → H0 b = some o → H b = some o) → (∀ b, J b → H b ≠ none) → Y i H x H' → ∀ d, ds[i]? = some d → ∃ J', New K J H J' H' x (.leaf d) []) : WD K Jt ds J0 H0 :=
  ⟨fun i J H h1 h2 hi => w.goes i H hi (hG J H h1 h2), fun J H h1 h2 => w.stops H (hG J H h1 h2), fun i J H x H' h1 h2 jd hy d hd => hY i J H x H' h1 h2 jd (w.yields i H x H' (List.getElem?_eq_some_iff.mp hd).1 (hG J H h1 h2) hy) d hd⟩
theorem wd_list {a : Addr} {xs : List V} {ds : List D} {J0 : Addr → Prop} {H0 : Hp} (j : J0 a) (p : H0 a = some (.lst xs)) (r : RDs K J0 H0 xs ds) : WD K (Itl K a) ds J0 H0 := by
  refine WD.of (G := fun H => SqL K H a xs) (Y := YAt xs) (by rw [← r.length]; exact walk_list) (fun J H h1 h2 => .inl (.inl (h2 _ _ j p))) fun i J H x H' h1 h2 jd hy d hd => ?_
  obtain ⟨rfl, hx⟩ := hy
  obtain ⟨y, hy, ry⟩ := (r.mono h1 h2).get hd
  rw [hx] at hy
  cases hy
  exact ⟨J, New.same ry jd⟩
theorem wd_tup {a : Addr} {xs : List V} {ds : List D} {J0 : Addr → Prop} {H0 : Hp} (p : PT2 K J0 H0 a xs) (r : RDs K J0 H0 xs ds) : WD K (Itt K a) ds J0 H0 := by
  refine WD.of (G := fun H => SqT K H a xs) (Y := YAt xs) (by rw [← r.length]; exact walk_tup) (fun J H h1 h2 => (p.mono h1 h2).sq) fun i J H x H' h1 h2 jd hy d hd => ?_
  obtain ⟨rfl, hx⟩ := hy
  obtain ⟨y, hy, ry⟩ := (r.mono h1 h2).get hd
  rw [hx] at hy
  cases hy
  exact ⟨J, New.same ry jd⟩
def signs (z : Str) : List D := z.cps.toList.map fun c => .str ⟨#[c]⟩
theorem wd_str {z : Str} {J0 : Addr → Prop} {H0 : Hp} : WD K (Its z) (signs z) J0 H0 := by
  have hl : (signs z).length = z.cps.size := by simp [signs]
  refine WD.of (G := fun _ => True) (Y := fun i H v H' => H' = H ∧ ∃ c, z.cps[i]? = some c ∧ v = .str ⟨#[c]⟩) (by rw [hl]; exact walk_str) (fun _ _ _ _ => trivial) fun i J H x H' h1 h2 jd hy d hd => ?_
  obtain ⟨rfl, c, hc, rfl⟩ := hy
  have e : d = .str ⟨#[c]⟩ := by
    unfold signs at hd
    rw [List.getElem?_map, Array.getElem?_toList, hc] at hd
    exact (Option.some.inj hd).symm
  subst e
  exact ⟨J, New.same (.str _) jd⟩
def rangeL (lo : Int) (n : Nat) : List D := (List.range n).map fun i => .int (lo + (i : Nat))
theorem wd_range {lo : Int} {n : Nat} {J0 : Addr → Prop} {H0 : Hp} : WD K (Itr lo n) (rangeL lo n) J0 H0 := by
  have hl : (rangeL lo n).length = n := by simp [rangeL]
  refine WD.of (G := fun _ => True) (Y := YFn fun i => .int (lo + i)) (by rw [hl]; exact walk_range) (fun _ _ _ _ => trivial) fun i J H x H' h1 h2 jd hy d hd => ?_
  obtain ⟨rfl, rfl⟩ := hy
  have hi : i < n := by rw [← hl]; exact (List.getElem?_eq_some_iff.mp hd).1
  have e : d = .int (lo + (i : Nat)) := by
    unfold rangeL at hd
    rw [List.getElem?_map, List.getElem?_range hi] at hd
    exact (Option.some.inj hd).symm
  subst e
  exact ⟨J, New.same (.int _) jd⟩
def zipL : List D → List D → List D
  | x :: xs, y :: ys => .tuple [x, y] :: zipL xs ys
  | _, _ => []
theorem zipL_len : ∀ (xs ys : List D), (zipL xs ys).length = min xs.length ys.length
  | [], _ => by simp [zipL]
  | _ :: _, [] => by simp [zipL]
  | x :: xs, y :: ys => by simp [zipL, zipL_len xs ys]
theorem zipL_get : ∀ (xs ys : List D) (i : Nat) (d : D), (zipL xs ys)[i]? = some d → ∃ x y, xs[i]? = some x ∧ ys[i]? = some y ∧ d = .tuple [x, y]
  | [], _, _, _, h => by simp [zipL] at h
  | _ :: _, [], _, _, h => by simp [zipL] at h
  | x :: xs, y :: ys, 0, d, h => by simp [zipL] at h; exact ⟨x, y, by simp, by simp, h.symm⟩
  | x :: xs, y :: ys, i + 1, d, h => by
    obtain ⟨a, b, h1, h2, h3⟩ := zipL_get xs ys i d (by simpa [zipL] using h)
    exact ⟨a, b, by simpa using h1, by simpa using h2, h3⟩
theorem wd_zip {a b : Addr} {xs ys : List V} {ds es : List D} {J0 : Addr → Prop} {H0 : Hp} (j : J0 a) (p : H0 a = some (.lst xs)) (r : RDs K J0 H0 xs ds) (j' : J0 b) (p' : H0 b = some (.lst ys)) (r' : RDs K J0 H0 ys es) : WD K (Itz K a b) (zipL ds es) J0 H0 := by
  refine WD.of (G := fun H => SqL K H a xs ∧ SqL K H b ys) (Y := YPair (fun i => xs[i]?) (fun i => ys[i]?)) (walk_zip (by rw [zipL_len, r.length, r'.length])) (fun J H h1 h2 => ⟨.inl (.inl (h2 _ _ j p)), .inl (.inl (h2 _ _ j' p'))⟩) fun i J H x H' h1 h2 jd hy d hd => ?_
  obtain ⟨T, x1, y1, rfl, nT, rfl, hx, hy⟩ := hy
  obtain ⟨d1, d2, e1, e2, rfl⟩ := zipL_get _ _ _ _ hd
  obtain ⟨v1, hv1, rv1⟩ := (r.mono h1 h2).get e1
  obtain ⟨v2, hv2, rv2⟩ := (r'.mono h1 h2).get e2
  cases (show xs[i]? = some x1 from hx).symm.trans hv1
  cases (show ys[i]? = some y1 from hy).symm.trans hv2
  exact new_pair rv1 rv2 jd nT
def enumL (n : Nat) : List D → List D
  | [] => []
  | x :: xs => .tuple [.int (n : Nat), x] :: enumL (n + 1) xs
theorem enumL_len : ∀ (xs : List D) (n : Nat), (enumL n xs).length = xs.length
  | [], _ => rfl
  | x :: xs, n => by simp [enumL, enumL_len xs]
theorem enumL_get : ∀ (xs : List D) (n i : Nat) (d : D), (enumL n xs)[i]? = some d → ∃ x, xs[i]? = some x ∧ d = .tuple [.int ((n + i : Nat)), x]
  | [], _, _, _, h => by simp [enumL] at h
  | x :: xs, n, 0, d, h => by simp [enumL] at h; exact ⟨x, by simp, h.symm⟩
  | x :: xs, n, i + 1, d, h => by
    obtain ⟨a, h1, h3⟩ := enumL_get xs (n + 1) i d (by simpa [enumL] using h)
    exact ⟨a, by simpa using h1, by rw [h3]; congr 3; omega⟩
theorem wd_enum {a : Addr} {xs : List V} {ds : List D} {J0 : Addr → Prop} {H0 : Hp} (j : J0 a) (p : H0 a = some (.lst xs)) (r : RDs K J0 H0 xs ds) : WD K (Ite K a) (enumL 0 ds) J0 H0 := by
  refine WD.of (G := fun H => SqL K H a xs) (Y := YPair (fun i => some (.int (i : Nat))) (fun i => xs[i]?)) (by rw [enumL_len, ← r.length]; exact walk_enum) (fun J H h1 h2 => .inl (.inl (h2 _ _ j p))) fun i J H x H' h1 h2 jd hy d hd => ?_
  obtain ⟨T, x1, y1, rfl, nT, rfl, hx, hy⟩ := hy
  obtain ⟨d2, e2, rfl⟩ := enumL_get _ _ _ _ hd
  obtain ⟨v2, hv2, rv2⟩ := (r.mono h1 h2).get e2
  cases (show xs[i]? = some y1 from hy).symm.trans hv2
  cases hx
  rw [Nat.zero_add]
  exact new_pair (.int _) rv2 jd nT
end
section
variable {X : Cx} {pn : List (Nat × V)} {tg a b c : Expr} {p pos : Pos}
def seqD : D → Option (List D)
  | .list ds => some ds
  | .tuple ds => some ds
  | .str z => some (signs z)
  | _ => none
def gItr (f : M D) : M (List D) := bnd f fun d => opt (seqD d)
theorem ii_seq {f : M D} (h : PE X a (rdD X.K pn f)) : PI X tg a (rdI X.K pn (gItr f)) := by
  refine PI.weak (PI.or (pi_list h) (PI.or (pi_tup h) (pi_str h))) fun σ H R ⟨e, J, F, s, ds, e', h, q⟩ => ?_
  obtain ⟨d, e1, h1, h2⟩ := bnd_ok h
  obtain ⟨h3, rfl⟩ := opt_ok h2
  unfold seqD at h3
  split at h3
  · cases h3
    exact .inl ⟨e, J, F, s, _, _, h1, fun v H1 J1 F1 s1 r1 tr1 => by
      cases r1 with
      | lst j p r => exact ⟨_, rfl, ⟨_, .inl (.inl p)⟩, q _ H1 J1 F1 s1 tr1 (wd_list j p r)⟩⟩
  · cases h3
    exact .inr (.inl ⟨e, J, F, s, _, _, h1, fun v H1 J1 F1 s1 r1 tr1 => by
      cases r1 with
      | tup p r => exact ⟨_, rfl, ⟨_, p.sq⟩, q _ H1 J1 F1 s1 tr1 (wd_tup p r)⟩⟩)
  · cases h3
    exact .inr (.inr ⟨e, J, F, s, _, _, h1, fun v H1 J1 F1 s1 r1 tr1 => by
      cases r1
      exact ⟨_, rfl, q _ H1 J1 F1 s1 tr1 wd_str⟩⟩)
  · cases h3
def far (i : Int) : Bool := decide (-(2 ^ 62) ≤ i ∧ i < 2 ^ 62)
theorem far_of {i : Int} (h : far i = true) : -(2 ^ 62) ≤ i ∧ i < 2 ^ 62 := of_decide_eq_true (p := -(2 ^ 62) ≤ i ∧ i < 2 ^ 62) h
def rng1 : List D → Option (List D)
  | [.int j] => if far j then some (rangeL 0 j.toNat) else none
  | _ => none
def rng2 : List D → Option (List D)
  | [.int i, .int j] => if far i && far j then some (rangeL i (j - i).toNat) else none
  | _ => none
def gRng (g : List D → Option (List D)) (f : M (List D)) : M (List D) := bnd f fun ds => opt (g ds)
theorem ii_rng1 {f : M (List D)} (hg : Gl X "range") (hm : X.mg "range" = none) (h : PA X [a] (rdDs X.K pn f)) (hs : starEach [a] X.env = [(false, eval a X.env)]) : PI X tg (.Call (.Name "range" p) [a] [] pos) (rdI X.K pn (gRng rng1 f)) := by
  refine PI.weak (pi_range1 hg hm h hs) fun σ H R ⟨e, J, F, s, ds, e', h, q⟩ => ?_
  obtain ⟨d, e1, h1, h2⟩ := bnd_ok h
  obtain ⟨h3, rfl⟩ := opt_ok h2
  unfold rng1 at h3
  split at h3
  · split at h3
    · rename_i j hj
      cases h3
      refine ⟨e, J, F, s, _, _, h1, fun v H1 J1 F1 s1 r1 tr1 => ?_⟩
      obtain ⟨w, rfl, r⟩ := r1.one
      cases r
      exact ⟨j, rfl, (far_of hj).1, (far_of hj).2, q _ H1 J1 F1 s1 tr1 wd_range⟩
    · cases h3
  · cases h3
theorem ii_rng2 {f : M (List D)} (hg : Gl X "range") (hm : X.mg "range" = none) (h : PA X [a, b] (rdDs X.K pn f)) (hs : starEach [a, b] X.env = [(false, eval a X.env), (false, eval b X.env)]) (hs2 : starEach [b] X.env = [(false, eval b X.env)]) : PI X tg (.Call (.Name "range" p) [a, b] [] pos) (rdI X.K pn (gRng rng2 f)) := by
  refine PI.weak (pi_range2 hg hm h hs hs2) fun σ H R ⟨e, J, F, s, ds, e', h, q⟩ => ?_
  obtain ⟨d, e1, h1, h2⟩ := bnd_ok h
  obtain ⟨h3, rfl⟩ := opt_ok h2
  unfold rng2 at h3
  split at h3
  · split at h3
    · rename_i i j hj
      cases h3
      simp only [Bool.and_eq_true] at hj
      refine ⟨e, J, F, s, _, _, h1, fun v H1 J1 F1 s1 r1 tr1 => ?_⟩
      obtain ⟨w, w2, rfl, r, r2⟩ := r1.two
      cases r; cases r2
      exact ⟨i, j, rfl, ⟨(far_of hj.1).1, (far_of hj.1).2, (far_of hj.2).1, (far_of hj.2).2⟩, q _ H1 J1 F1 s1 tr1 wd_range⟩
    · cases h3
  · cases h3
def zip2 : List D → Option (List D)
  | [.list xs, .list ys] => some (zipL xs ys)
  | [.tuple xs, .tuple ys] => some (zipL xs ys)
  | _ => none
theorem wd_zipT {K : PySem.W.Frag} {a b : Addr} {xs ys : List V} {ds es : List D} {J0 : Addr → Prop} {H0 : Hp} (p : PT2 K J0 H0 a xs) (r : RDs K J0 H0 xs ds) (p' : PT2 K J0 H0 b ys) (r' : RDs K J0 H0 ys es) : WD K (RZ.ItzT K a b) (zipL ds es) J0 H0 := by
  refine ⟨fun i J H h1 h2 hi => ?_, fun J H h1 h2 => ?_, fun i J H x H' h1 h2 jd hy d hd => ?_⟩
  · rw [zipL_len, ← r.length, ← r'.length] at hi
    have ha : i < xs.length := by omega
    have hb : i < ys.length := by omega
    exact ⟨xs, ys, xs[i], ys[i], (p.mono h1 h2).sq, (p'.mono h1 h2).sq, by simp [ha], by simp [hb]⟩
  · refine ⟨xs, ys, (p.mono h1 h2).sq, (p'.mono h1 h2).sq, ?_⟩
    rw [zipL_len, ← r.length, ← r'.length]
    omega
  · obtain ⟨T, x1, y1, rfl, nT, rfl, hx, hy⟩ := hy
    obtain ⟨d1, d2, e1, e2, rfl⟩ := zipL_get _ _ _ _ hd
    obtain ⟨v1, hv1, rv1⟩ := (r.mono h1 h2).get e1
    obtain ⟨v2, hv2, rv2⟩ := (r'.mono h1 h2).get e2
    cases (hx _ (p.mono h1 h2).sq).symm.trans hv1
    cases (hy _ (p'.mono h1 h2).sq).symm.trans hv2
    exact new_pair rv1 rv2 jd nT
theorem ii_zip {f : M (List D)} {elts : List Expr} {kk : Nat} {tpos : Pos} (hg : Gl X "zip") (hm : X.mg "zip" = none) (h : PA X [a, b] (rdDs X.K pn f)) (hs : starEach [a, b] X.env = [(false, eval a X.env), (false, eval b X.env)]) (hs2 : starEach [b] X.env = [(false, eval b X.env)]) :
    PI X (.Tuple elts kk tpos) (.Call (.Name "zip" p) [a, b] [] pos) (rdI X.K pn (gRng zip2 f)) := by
  have hs1 : starEach [a, b] X.env = (false, eval a X.env) :: starEach [b] X.env := by rw [hs, hs2]
  refine PI.weak (RZ.pi_zipA hg hm h hs1 (by rw [hs2]; rfl)) fun σ H R ⟨e, J, F, s, ds, e', h, q⟩ => ?_
  obtain ⟨d, e1, h1, h2⟩ := bnd_ok h
  obtain ⟨h3, rfl⟩ := opt_ok h2
  unfold zip2 at h3
  split at h3
  · cases h3
    refine ⟨e, J, F, s, _, _, h1, fun v H1 J1 F1 s1 r1 tr1 => ?_⟩
    obtain ⟨w, w2, rfl, r, r2⟩ := r1.two
    cases r with
    | lst j p r => cases r2 with
      | lst j' p' r' => exact ⟨_, _, _, _, rfl, .inl ⟨.inl (.inl p), .inl (.inl p'), q _ H1 J1 F1 s1 tr1 (wd_zip j p r j' p' r')⟩⟩
  · cases h3
    refine ⟨e, J, F, s, _, _, h1, fun v H1 J1 F1 s1 r1 tr1 => ?_⟩
    obtain ⟨w, w2, rfl, r, r2⟩ := r1.two
    cases r with
    | tup p r => cases r2 with
      | tup p' r' => exact ⟨_, _, _, _, rfl, .inr ⟨p.sq, p'.sq, q _ H1 J1 F1 s1 tr1 (wd_zipT p r p' r')⟩⟩
  · cases h3
def enum1 : List D → Option (List D)
  | [.list xs] => some (enumL 0 xs)
  | _ => none
theorem ii_enum {f : M (List D)} {elts : List Expr} {kk : Nat} {tpos : Pos} (hg : Gl X "enumerate") (hm : X.mg "enumerate" = none) (h : PA X [a] (rdDs X.K pn f)) (hs : starEach [a] X.env = [(false, eval a X.env)]) :
    PI X (.Tuple elts kk tpos) (.Call (.Name "enumerate" p) [a] [] pos) (rdI X.K pn (gRng enum1 f)) := by
  refine PI.weak (pi_enum hg hm h hs) fun σ H R ⟨e, J, F, s, ds, e', h, q⟩ => ?_
  obtain ⟨d, e1, h1, h2⟩ := bnd_ok h
  obtain ⟨h3, rfl⟩ := opt_ok h2
  unfold enum1 at h3
  split at h3
  · cases h3
    refine ⟨e, J, F, s, _, _, h1, fun v H1 J1 F1 s1 r1 tr1 => ?_⟩
    obtain ⟨w, rfl, r⟩ := r1.one
    cases r with
    | lst j p r => exact ⟨_, _, rfl, .inl (.inl p), q _ H1 J1 F1 s1 tr1 (wd_enum j p r)⟩
  · cases h3

/-! ### comprehensions -/
def wipeE (e : En) : List Nat → En
  | [] => e
  | v :: vs => (wipeE e vs).set v none
theorem SR.wipe {K : PySem.W.Frag} {σ : L2.St} {H : Hp} {e : En} {J : Addr → Prop} {F : List Addr} (s : SR K pn σ H e J F) : ∀ (vs : List Nat), (∀ p ∈ pn, p.1 ∉ vs) → ∃ F', SR K pn (L2.wipe σ vs) H (wipeE e vs) J F' ∧ ∀ b ∈ F', b ∈ F
  | [], _ => ⟨F, s, fun _ h => h⟩
  | v :: vs, hp => by
    obtain ⟨F1, s1, h1⟩ := SR.wipe s vs fun p hpp z => hp p hpp (List.mem_cons_of_mem _ z)
    obtain ⟨F2, s2, h2⟩ := s1.clear v none fun p hpp z => hp p hpp (by rw [z]; exact List.mem_cons_self)
    exact ⟨F2, s2, fun b hb => h1 b (h2 b hb)⟩
theorem wipe_get {σ : L2.St} {i : Nat} : ∀ {vs : List Nat}, i ∉ vs → (L2.wipe σ vs)[i]? = σ[i]?
  | [], _ => rfl
  | v :: vs, h => by
    unfold L2.wipe
    rw [List.getElem?_set_ne (fun z => h (by simp [z])), wipe_get fun z => h (List.mem_cons_of_mem _ z)]
theorem wipe_in {σ : L2.St} {i : Nat} : ∀ {vs : List Nat}, i ∈ vs → i < σ.length → (L2.wipe σ vs)[i]? = some none
  | [], h, _ => by cases h
  | v :: vs, h, hl => by
    unfold L2.wipe
    by_cases e : v = i
    · subst e
      rw [List.getElem?_set_self (by rw [wipe_length]; exact hl)]
    · rw [List.getElem?_set_ne e]
      exact wipe_in ((List.mem_cons.mp h).resolve_left fun z => e z.symm) hl
theorem wipe_eq {σ σ' : L2.St} {ws vs : List Nat} (sm : Sm ws (L2.wipe σ vs) σ') (hw : ∀ i ∈ ws, i ∈ vs) : L2.wipe σ' vs = L2.wipe σ vs := by
  have hl : σ'.length = σ.length := by rw [sm.1, wipe_length]
  apply List.ext_getElem?
  intro i
  by_cases hi : i ∈ vs
  · by_cases hlt : i < σ.length
    · rw [wipe_in hi (by rw [hl]; exact hlt), wipe_in hi hlt]
    · rw [List.getElem?_eq_none (by rw [wipe_length]; omega), List.getElem?_eq_none (by rw [wipe_length]; omega)]
  · rw [wipe_get hi, sm.2 i fun z => hi (hw i z)]
theorem RE.unwipe {K : PySem.W.Frag} {J : Addr → Prop} {H : Hp} {F : List Addr} {σ σ' : L2.St} {e : En} (r : RE K J H σ e F) : σ'.length = σ.length → (∀ i : Nat, e[i]? ≠ some none → σ'[i]? = σ[i]?) → RE K J H σ' e F := by
  intro h1 h2
  induction r generalizing σ' with
  | nil =>
    cases σ' with
    | nil => exact .nil
    | cons a l => simp at h1
  | out r ih =>
    cases σ' with
    | nil => simp at h1
    | cons a l => exact .out (ih (by simpa using h1) fun i hi => by have := h2 (i + 1) (by simpa using hi); simpa using this)
  | held q r ih =>
    cases σ' with
    | nil => simp at h1
    | cons a l =>
      have h0 := h2 0 (by simp)
      simp at h0
      subst h0
      exact .held q (ih (by simpa using h1) fun i hi => by have := h2 (i + 1) (by simpa using hi); simpa using this)
theorem wipeE_len (e : En) : ∀ ws : List Nat, (wipeE e ws).length = e.length
  | [] => rfl
  | a :: l => by unfold wipeE; rw [List.length_set, wipeE_len e l]
theorem wipeE_get {e : En} {i : Nat} : ∀ {vs : List Nat}, i ∈ vs → i < e.length → (wipeE e vs)[i]? = some none
  | [], h, _ => by cases h
  | v :: vs, h, hl => by
    unfold wipeE
    by_cases q : v = i
    · subst q
      rw [List.getElem?_set_self (by rw [wipeE_len]; exact hl)]
    · rw [List.getElem?_set_ne q]
      exact wipeE_get ((List.mem_cons.mp h).resolve_left fun z => q z.symm) hl
theorem wipeE_out {e : En} {i : Nat} : ∀ {vs : List Nat}, i ∉ vs → (wipeE e vs)[i]? = e[i]?
  | [], _ => rfl
  | v :: vs, h => by
    unfold wipeE
    rw [List.getElem?_set_ne (fun z => h (by simp [z])), wipeE_out fun z => h (List.mem_cons_of_mem _ z)]
theorem wipeE_idem (e : En) (vs : List Nat) : wipeE (wipeE e vs) vs = wipeE e vs := by
  apply List.ext_getElem?
  intro i
  by_cases hi : i ∈ vs
  · by_cases hlt : i < e.length
    · rw [wipeE_get hi (by rw [wipeE_len]; exact hlt), wipeE_get hi hlt]
    · rw [List.getElem?_eq_none (by rw [wipeE_len, wipeE_len]; omega), List.getElem?_eq_none (by rw [wipeE_len]; omega)]
  · rw [wipeE_out hi]
/-- behind a block: the block's own slots are forgotten, the frame's stand as they did -/
theorem SR.unwipe {K : PySem.W.Frag} {σ : L2.St} {H : Hp} {e : En} {J : Addr → Prop} {F : List Addr} {vs : List Nat} (s : SR K pn (L2.wipe σ vs) H e J F) (hp : ∀ p ∈ pn, p.1 ∉ vs) : ∃ F', SR K pn σ H (wipeE e vs) J F' ∧ ∀ b ∈ F', b ∈ F := by
  obtain ⟨F', s', h⟩ := s.wipe vs hp
  have hl : σ.length = e.length := by
    have := s.re.length
    rw [wipe_length] at this
    exact this
  refine ⟨F', ⟨s'.re.unwipe (by rw [wipe_length, wipe_length]) fun i hi => ?_, s'.nd, s'.jf, s'.jd, fun p hpp => ?_⟩, h⟩
  · by_cases hv : i ∈ vs
    · by_cases hlt : i < e.length
      · exact absurd (wipeE_get hv hlt) hi
      · rw [List.getElem?_eq_none (by omega), List.getElem?_eq_none (by rw [wipe_length, wipe_length]; omega)]
    · rw [wipe_get hv, wipe_get hv]
  · have := s'.pin p hpp
    rwa [wipe_get (hp p hpp), wipe_get (hp p hpp)] at this
def wipeM (vs : List Nat) : M Unit := fun e => .ok () (wipeE e vs)
def gLc (vs : List Nat) (bd : D → M Unit) (tt : M Bool) (el : M D) : List D → List D → M T
  | [], acc => bnd (wipeM vs) fun _ => ret (.lst (acc.map .leaf))
  | d :: ds, acc => bnd (wipeM vs) fun _ => bnd (bd d) fun _ => bnd tt fun b => if b then bnd el fun x => if acc.length < most then gLc vs bd tt el ds (acc ++ [x]) else bad else gLc vs bd tt el ds acc
theorem gLc_wiped (vs : List Nat) (bd : D → M Unit) (tt : M Bool) (el : M D) (rest acc : List D) (e : En) : gLc vs bd tt el rest acc (wipeE e vs) = gLc vs bd tt el rest acc e := by
  cases rest with
  | nil =>
    show Res.ok _ (wipeE (wipeE e vs) vs) = Res.ok _ (wipeE e vs)
    rw [wipeE_idem]
  | cons d ds =>
    unfold gLc
    show bnd (bd d) _ (wipeE (wipeE e vs) vs) = bnd (bd d) _ (wipeE e vs)
    rw [wipeE_idem]
/-- a list aside gets a new item -/
theorem SR.asideSet {K : PySem.W.Frag} {σ : L2.St} {H : Hp} {e : En} {J : Addr → Prop} {F : List Addr} (s : SR K pn σ H e J F) {p : Addr} {u : HO} (hF : p ∉ F) (hJ : ¬ J p) (hd : H p ≠ none) :
    SR K pn σ (upd H p u) e J F ∧ Tr J H (F ++ [p]) J (upd H p u) (F ++ [p]) := by
  have dm : ∀ b, H b ≠ none → upd H p u b ≠ none := fun b q => by
    by_cases hb : b = p
    · subst hb; rw [upd_same]; exact fun z => nomatch z
    · rw [upd_ne hb]; exact q
  refine ⟨s.step (fun _ j => j) (fun b o z q => ?_) (fun b z => dm b (s.jd b z)) s.jf, ⟨fun b o q hb => ?_, dm, fun _ j => j, fun b hb => .inl hb, fun b z => .inl z⟩⟩
  · rw [upd_ne (fun w => by subst w; rcases z with z | z; exact hJ z; exact hF z)]; exact q
  · rw [upd_ne (fun w => hb (by rw [w]; exact List.mem_append_right _ (List.mem_singleton.mpr rfl)))]; exact q
theorem tLc_rd {K : PySem.W.Frag} {ws vs : List Nat} {f : M (List D)} {bd : D → M Unit} {tt : M Bool} {el : M D} (hp : ∀ p ∈ pn, p.1 ∉ vs) (hw : ∀ i ∈ ws, i ∈ vs) {σ : L2.St} {H : Hp} {Q : VK}
    (h : rdE K pn (bnd f fun ds => gLc vs bd tt el ds []) σ H Q) : tLc (rdI K pn f) (rdG K pn ws bd) (rdT K pn tt) (rdD K pn el) vs σ H Q := by
  obtain ⟨e, J, F, s, t, e', h, q⟩ := h
  obtain ⟨ds, e1, h1, h2⟩ := bnd_ok h
  refine ⟨e, J, F, s, ds, e1, h1, fun Jt H1 J1 F1 s1 tr1 wd P hP => ?_⟩
  obtain ⟨s1', trP, nF, nJ⟩ := s1.laid (o := .lst []) hP
  have ndP : ∀ {F2 : List Addr}, F2.Nodup → P ∉ F2 → (F2 ++ [P]).Nodup := fun h1 h2 => List.nodup_append.mpr ⟨h1, by simp, fun x hx y hy z => by simp at hy; subst hy; subst z; exact h2 hx⟩
  obtain ⟨Fw, sw, hFw⟩ := s1'.wipe vs hp
  -- the state between two turns: the frame's slots as they were, but for those of the block
  refine ⟨fun i m H2 => m = ds.length - i ∧ i ≤ ds.length ∧ ∃ e2 J2 F2 acc xs, SR K pn (L2.wipe σ vs) H2 e2 J2 F2 ∧ Tr J1 H1 F1 J2 H2 (F2 ++ [P]) ∧ P ∉ F2 ∧ ¬ J2 P ∧ H2 P = some (.lst xs) ∧ RDs K J2 H2 xs acc ∧ gLc vs bd tt el (ds.drop i) acc e2 = .ok t e',
    ⟨ds.length, by simp, Nat.zero_le _, wipeE e1 vs, J1, Fw, [], [], sw, trP.trans (Tr.sub fun b hb => by
      rcases List.mem_append.mp hb with z | z
      · exact List.mem_append_left _ (hFw b z)
      · exact List.mem_append_right _ z), fun z => nF (hFw _ z), nJ, upd_same, .nil, ?_⟩, ?_⟩
  · rw [gLc_wiped]
    simpa using h2
  · rintro i m H2 ⟨rfl, hle, e2, J2, F2, acc, xs, s2, tr2, nF2, nJ2, hH, rds, h3⟩
    have later : (∀ b, J1 b → J2 b) ∧ (∀ b o, J1 b → H1 b = some o → H2 b = some o) := tr2.later s1.jf
    by_cases hi : i < ds.length
    · refine .inr ⟨wd.go i J2 H2 later.1 later.2 hi, fun H' => ∃ e2 J2 F2 acc xs, SR K pn (L2.wipe σ vs) H' e2 J2 F2 ∧ Tr J1 H1 F1 J2 H' (F2 ++ [P]) ∧ P ∉ F2 ∧ ¬ J2 P ∧ H' P = some (.lst xs) ∧ RDs K J2 H' xs acc ∧ gLc vs bd tt el (ds.drop (i + 1)) acc e2 = .ok t e',
        fun H' hN => ⟨ds.length - (i + 1), by omega, rfl, hi, hN⟩, fun x H' hy => ?_⟩
      obtain ⟨J', n⟩ := wd.yld i J2 H2 x H' later.1 later.2 s2.jd hy ds[i] (by simp [hi])
      obtain ⟨s3, o3, tr3⟩ := n.sr s2
      simp only [List.append_nil] at tr3
      have hd : ds.drop i = ds[i] :: ds.drop (i + 1) := List.drop_eq_getElem_cons hi
      rw [hd] at h3
      unfold gLc at h3
      obtain ⟨_, e3, k1, k2⟩ := bnd_ok h3
      cases k1
      obtain ⟨_, e4, k3, k4⟩ := bnd_ok k2
      obtain ⟨b, e5, k5, k6⟩ := bnd_ok k4
      have r3 : RD K J' H' x ds[i] := by
        cases o3.rt with
        | leaf r => exact r
      -- the list aside, carried along
      have oP : Own K J2 H2 F2 (.ref P) (.lst (acc.map .leaf)) [P] := ⟨.lst hH (RTs.leaves rds), ndP s2.nd nF2, fun a ha => by simp at ha; subst ha; exact nJ2⟩
      obtain ⟨Fw3, sw3, hw3⟩ := s3.wipe vs hp
      have ww2 : L2.wipe (L2.wipe σ vs) vs = L2.wipe σ vs := wipe_eq (ws := []) .refl (fun _ h => nomatch h)
      rw [ww2] at sw3
      have trw : Tr J2 H2 F2 J' H' Fw3 := tr3.trans (Tr.sub hw3)
      refine ⟨wipeE e2 vs, J', Fw3, ds[i], sw3, r3, e4, k3, fun σ4 H4 J4 F4 s4 tr4 sm4 => ⟨wipe_eq sm4 hw, ?_⟩⟩
      refine ⟨e4, J4, F4, s4, b, e5, k5, fun H5 J5 F5 s5 tr5 => ?_⟩
      have back : ∀ {H6 : Hp} {J6 : Addr → Prop} {F6 : List Addr} {e6 : En}, SR K pn σ4 H6 e6 J6 F6 → ∃ F7, SR K pn (L2.wipe σ vs) H6 (wipeE e6 vs) J6 F7 ∧ ∀ b ∈ F7, b ∈ F6 := fun s6 => by
        obtain ⟨F7, s7, h7⟩ := s6.wipe vs hp
        rw [wipe_eq sm4 hw] at s7
        exact ⟨F7, s7, h7⟩
      have tr25 : Tr J2 H2 F2 J5 H5 F5 := (trw.trans tr4).trans tr5
      cases b with
      | false =>
        simp only [Bool.false_eq_true, if_false] at k6 ⊢
        obtain ⟨F7, s7, h7⟩ := back s5
        have o5 := oP.step tr25 s2.jf s5.nd
        obtain ⟨hP5, nP5, nJ5⟩ : H5 P = some (.lst xs) ∧ P ∉ F5 ∧ ¬ J5 P := ⟨tr25.keep P _ hH nF2, not_both o5.nd (List.mem_singleton.mpr rfl), o5.jf _ (List.mem_singleton.mpr rfl)⟩
        refine ⟨wipeE e5 vs, J5, F7, acc, xs, s7, (tr2.trans tr25.aside).trans (Tr.sub fun b hb => ?_), fun z => nP5 (h7 _ z), nJ5, hP5, rds.step tr25 s2.jf, by rw [gLc_wiped]; exact k6⟩
        rcases List.mem_append.mp hb with z | z
        · exact List.mem_append_left _ (h7 b z)
        · exact List.mem_append_right _ z
      | true =>
        simp only [if_true] at k6 ⊢
        obtain ⟨y, e6, k7, k8⟩ := bnd_ok k6
        split at k8
        · rename_i hz
          refine ⟨e5, J5, F5, s5, y, e6, k7, fun w H6 J6 F6 s6 r6 tr6 => ?_⟩
          have tr26 := tr25.trans tr6
          have o6 := oP.step tr26 s2.jf s6.nd
          obtain ⟨hP6, nP6, nJ6⟩ : H6 P = some (.lst xs) ∧ P ∉ F6 ∧ ¬ J6 P := ⟨tr26.keep P _ hH nF2, not_both o6.nd (List.mem_singleton.mpr rfl), o6.jf _ (List.mem_singleton.mpr rfl)⟩
          have rds6 := rds.step tr26 s2.jf
          refine ⟨xs, hP6, by rw [rds6.length]; exact most_lt (Nat.le_of_lt hz), ?_⟩
          obtain ⟨s7, tr7⟩ := s6.asideSet (u := .lst (xs ++ [w])) nP6 nJ6 (by rw [hP6]; exact fun z => nomatch z)
          obtain ⟨F8, s8, h8⟩ := back s7
          have mv : ∀ b o, J6 b → H6 b = some o → upd H6 P (.lst (xs ++ [w])) b = some o := fun b o j q => by rw [upd_ne (show b ≠ P from fun z => by subst z; exact nJ6 j)]; exact q
          refine ⟨wipeE e6 vs, J6, F8, acc ++ [y], xs ++ [w], s8, ((tr2.trans tr26.aside).trans tr7).trans (Tr.sub fun b hb => ?_), fun z => nP6 (h8 _ z), nJ6, upd_same, (rds6.append (.cons r6 .nil)).mono (fun _ j => j) mv, by rw [gLc_wiped]; exact k8⟩
          rcases List.mem_append.mp hb with z | z
          · exact List.mem_append_left _ (h8 b z)
          · exact List.mem_append_right _ z
        · cases k8
    · have e0 : i = ds.length := by omega
      subst e0
      rw [List.drop_length] at h3
      unfold gLc at h3
      obtain ⟨_, e3, k1, k2⟩ := bnd_ok h3
      cases k1
      cases k2
      obtain ⟨F7, s7, h7⟩ := s2.unwipe hp
      refine .inl ⟨wd.stop J2 H2 later.1 later.2, q _ H2 J2 F7 [P] s7 ⟨.lst hH (RTs.leaves rds), ndP s7.nd fun z => nF2 (h7 _ z), fun a ha => by simp at ha; subst ha; exact nJ2⟩ ?_⟩
      refine (tr1.trans tr2).trans (Tr.sub fun b hb => ?_)
      rcases List.mem_append.mp hb with z | z
      · exact List.mem_append_left _ (h7 b z)
      · exact List.mem_append_right _ z
end
end IL

namespace IL
open PySem PySem.Spec PyProof.Rows L2

/-! ### a def's promise where no repr is under way -/
structure FnG (P : Program) (w : World) (K : PySem.W.Frag) (mg : Str → Option Value) (base : Heap) (CX : CXT) (k : Nat) (f : Addr) (fd : FuncData) (ps : List Str) (sp : Sp) : Prop where
  len : ∀ vs H Q E, sp vs H Q E → vs.length = ps.length
  run : ∀ (B : Around) (around : List PySem.Env) (s : Shared) (H : Hp) (args : Args) (us : List Value) (vs : List V) (Q : VK) (E : XK), Room k B → B.guards = some [] → Env0 P w K mg base B around s H → BindsTo s fd args (ps.zip us) → Vals vs us → sp vs H Q E →
    codeAny (model P w) B (.call (.ref f) args) (CR CX around P w H s Q E) s
theorem FnG.mono {P : Program} {w : World} {K : PySem.W.Frag} {mg : Str → Option Value} {base : Heap} {CX : CXT} {j k : Nat} {f : Addr} {fd : FuncData} {ps : List Str} {sp : Sp} (G : FnG P w K mg base CX j f fd ps sp) (h : j ≤ k) :
    FnG P w K mg base CX k f fd ps sp := ⟨G.len, fun B o s H args us vs Q E hr => G.run B o s H args us vs Q E (hr.mono h)⟩
theorem FnG.imp {P : Program} {w : World} {K : PySem.W.Frag} {mg : Str → Option Value} {base : Heap} {CX : CXT} {k : Nat} {f : Addr} {fd : FuncData} {ps : List Str} {sp sp' : Sp} (G : FnG P w K mg base CX k f fd ps sp)
    (h : ∀ vs H Q E, sp' vs H Q E → sp vs H Q E) : FnG P w K mg base CX k f fd ps sp' :=
  ⟨fun vs H Q E q => G.len vs H Q E (h _ _ _ _ q), fun B o s H args us vs Q E hr hg he hb hv hs => G.run B o s H args us vs Q E hr hg he hb hv (h _ _ _ _ hs)⟩
section
variable {X : Cx} {CX : CXT} {k : Nat} {f : Addr} {fd : FuncData} {ps : List Str} {sp : Sp} {dvs : List V} {ds : List Value} {E : XK} {x : Str} {p pos : Pos} {e : Expr} {es : List Expr} {t : TA}
theorem runG {pins : List (Addr × Obj)} {σ : L2.St} {H : Hp} {s : Shared} {Q : VK} {us : List Value} {vs : List V} (G : FnG X.prog X.w X.K X.mg X.base CX k f fd ps sp) (hr : Room k X.A) (hgd : X.A.guards = some []) (hb : Binds X.K fd ps ds) (hd : Vals dvs ds) (hx : Passes CX X E)
    (I : Inv X pins σ H s) (r : Vals vs us) (h : sp (vs ++ dvs) H Q E) : wpAny (model X.prog X.w) X.A (call (.ref f) us) (EP X pins σ Q) X.xe s := by
  have rv : Vals (vs ++ dvs) (us ++ ds) := r.append hd
  have hlen : (us ++ ds).length = ps.length := rv.length.symm.trans (G.len _ _ _ _ h)
  have hc := G.run X.A X.stack s H ⟨us, []⟩ (us ++ ds) (vs ++ dvs) Q E hr hgd I.env0 (hb s us I.kIn hlen) rv h
  refine wpAny_call (codeAny_mono hc fun res s' hq => ?_)
  match res, hq with
  | .error er, hq => exact hx pins σ H s er s' I hq
  | .ok (.ret u), hq => exact I.after hq
  | .ok .next, hq => exact hq.elim
  | .ok .brk, hq => exact hq.elim
  | .ok .cont, hq => exact hq.elim
theorem pe_callG (G : FnG X.prog X.w X.K X.mg X.base CX k f fd ps sp) (hr : Room k X.A) (hgd : X.A.guards = some []) (hg : Gl X x) (hm : X.mg x = some (.ref f)) (hk : PySem.W.keepIn X.K (.ref f) = true) (hb : Binds X.K fd ps ds) (hd : Vals dvs ds) (hx : Passes CX X E)
    (ha : PA X (e :: es) t) (hdb : (x == ("__debug__" : Str)) = false) (he : starEach (e :: es) X.env = (false, eval e X.env) :: starEach es X.env) (hpl : (backTo pos (starEach es X.env)).any (·.1) = false) :
    PE X (.Call (.Name x p) (e :: es) [] pos) (tCall sp dvs E t) := by
  refine ⟨fun pins s σ H Q I h => wpAny_Call_Name_kw (ld_glob I hg hm ?_ hdb)⟩
  refine PySem.W.callWith_K (h₀ := X.base) I.ok.mod.kin hk ?_ he hpl
  refine thn (ha.run pos pins s σ H _ I h) ?_
  rintro us s1 ⟨vs, H1, I1, r, q⟩
  exact ⟨I1.kIn, runG G hr hgd hb hd hx I1 r q⟩
theorem pe_callG0 (G : FnG X.prog X.w X.K X.mg X.base CX k f fd ps sp) (hr : Room k X.A) (hgd : X.A.guards = some []) (hg : Gl X x) (hm : X.mg x = some (.ref f)) (hk : PySem.W.keepIn X.K (.ref f) = true) (hb : Binds X.K fd ps ds) (hd : Vals dvs ds) (hx : Passes CX X E)
    (hdb : (x == ("__debug__" : Str)) = false) : PE X (.Call (.Name x p) [] [] pos) (tCall sp dvs E tNil) := by
  refine ⟨fun pins s σ H Q I h => wpAny_Call_Name_kw (ld_glob I hg hm ?_ hdb)⟩
  exact PySem.W.callWith_K0 I.kIn hk (runG (us := []) G hr hgd hb hd hx I .nil h)
end
/-- a def by its body -/
theorem fnG_of {CX : CXT} {P : Program} {w : World} {K : PySem.W.Frag} {mg : Str → Option Value} {base : Heap} {k : Nat} {f : Addr} {x qual : Str} {st : Stmt} {fd : FuncData} {N ps : List Str} {sp : Sp}
    (F : Fun K x qual st f fd) (S : FnScope N ps (defScope st)) (len : ∀ vs H Q E, sp vs H Q E → vs.length = ps.length)
    (hbody : ∀ (cdv : Value) (B : Around) (around : List PySem.Env) (s : Shared) (H : Hp) (vs : List V) (Q : VK) (E : XK), Room k (B.deeper (envOfC qual (defScope st) s.heap.objs.size f cdv)) → (B.deeper (envOfC qual (defScope st) s.heap.objs.size f cdv)).guards = some [] → sp vs H Q E →
      ∃ t, PSs (cxOf CX P w K mg base N qual (defScope st) f cdv B around s H E) (defBody st) t ∧ t { nx := fun _ H' => Q .non H', rt := Q } (start N vs) H) : FnG P w K mg base CX (k + 1) f fd ps sp := by
  obtain ⟨oc, od, kV, doc, pm, an, cdv, ct, osl, hfd, lk, hcd⟩ := F.ex
  subst hfd
  refine ⟨len, ?_⟩
  intro B around s H args us vs Q E room gd e0 bd rv want
  have hlen := len _ _ _ _ want
  have KX : K.In s.heap := e0.mod.kin.keeps fun b o e => (e0.bs b o e).1
  have lim : s.heap.NoLimit := e0.mod.nolimit.keeps fun b o e => (e0.bs b o e).1
  have kinds : ∀ y ∈ ps.zip us, (defScope st).names.lookup y.1 = some .local ∨ ((defScope st).names.lookup y.1 = some .cell ∧ ((cellsFrom (s.heap.objs.size + 1) (defScope st).names []).lookup y.1).isSome = true) := by
    rintro ⟨n, v⟩ hy
    rcases S.par n (List.of_mem_zip hy).1 with q | q
    · exact Or.inl q
    · exact Or.inr ⟨q, PySem.W.cellsFrom_some _ _ _ (Or.inl q)⟩
  refine codeAny_call_function room.depth (KX _ _ lk) rfl S.co S.gen rfl (PySem.W.codeRec_of KX hcd) (bd _ _ _ _ ?_)
  refine wpAny_newFunctionEnv_cells S.kind kinds ?_
  rintro env rfl s1 entered
  refine ⟨lim.keeps entered.toInCall.keep, codeAny_func ?_⟩
  obtain ⟨t, ht, hq⟩ := hbody cdv B around s H vs Q E (room.deeper _) gd want
  have I0 : Inv (cxOf CX P w K mg base N qual (defScope st) f cdv B around s H E) [] (start N vs) H s1 := inv_start S room.hd e0 hlen rv entered
  have leave : ∀ {s' : Shared} {σ' : L2.St} {H' : Hp} {v : V} {u : Value}, Inv (cxOf CX P w K mg base N qual (defScope st) f cdv B around s H E) [] σ' H' s' → RelV v u → Q v H' → CE around P w H s Q u s' :=
    fun {s' σ' H' v u} J ru q => ⟨v, H', J.os, J.bare, J.base, J.hok, ru, q⟩
  refine wpAny_mono (ht.run [] s1 (start N vs) H _ I0 hq) ?_ fun er s' hs => hs
  rintro fl s' hs
  match fl, hs with
  | .ret u, ⟨v, σ', H', J, ru, q⟩ => exact leave J ru q
  | .next, ⟨σ', H', J, q⟩ => exact leave (v := V.non) (u := Value.none) J rfl q
  | .brk, ⟨_, _, _, q⟩ => exact q.elim
  | .cont, ⟨_, _, _, q⟩ => exact q.elim

/-! ### what a def tells, as a function of trees -/
abbrev FSem := List T → Option (T × List (Option T))
def maskN (L : List Nat) : Nat → List (Option T) → List (Option T)
  | _, [] => []
  | k, o :: r => (if k ∈ L then o else none) :: maskN L (k + 1) r
def spG (K : PySem.W.Frag) (n : Nat) (L : List Nat) (F : FSem) : Sp := fun vs H Q _ => vs.length = n ∧ ∃ J fp ts, SR K [] (vs.map some) H (ts.map some) J fp ∧ ∃ t outs, F ts = some (t, outs) ∧
  ∀ v H' J' fp' fpv, SR K [] (vs.map some) H' (maskN L 0 outs) J' fp' → Own K J' H' fp' v t fpv → Tr J H fp J' H' (fp' ++ fpv) → Q v H'
/-- weaker: another function that tells the same where it tells -/
theorem spG.imp {K : PySem.W.Frag} {n : Nat} {L : List Nat} {F F' : FSem} (h : ∀ ts r, ts.length = n → F' ts = some r → F ts = some r) : ∀ vs H Q E, spG K n L F' vs H Q E → spG K n L F vs H Q E := by
  rintro vs H Q E ⟨hl, J, fp, ts, s, t, outs, hF, q⟩
  refine ⟨hl, J, fp, ts, s, t, outs, h ts _ ?_ hF, q⟩
  have := s.re.length
  simp at this
  omega
/-! ### arguments: lent or given -/
def rdAs (K : PySem.W.Frag) (pn : List (Nat × V)) (ls : List (Option Nat)) (f : M (List T)) : TA := fun σ H Q => ∃ e J F, SR K pn σ H e J F ∧ ∃ t e', f e = .ok t e' ∧ ∀ v H' J' F' fp, SR K pn σ H' e' J' F' → Owns K J' H' F' v t fp → Tr J H F J' H' (F' ++ fp) →
  (∀ (j i : Nat), ls[j]? = some (some i) → ∃ w, v[j]? = some w ∧ σ[i]? = some (some w)) → Q v H'
def gTake (i : Nat) : M T := fun e => match e[i]? with
  | some (some t) => .ok t (e.set i none)
  | _ => .bad
section
variable {X : Cx} {pn : List (Nat × V)} {a b c : Expr} {pos : Pos} {es : List Expr}
theorem al_nil : PA X [] (rdAs X.K pn [] (ret [])) := PA.weak pa_nil' fun σ H Q ⟨e, J, F, s, t, e', h, q⟩ => ⟨e, J, F, s, t, e', h, fun v H' J' F' fp s' o tr => q v H' J' F' fp s' o tr fun j i h => by simp at h⟩
/-- two own things beside F -/
theorem own_join {K : PySem.W.Frag} {J J1 : Addr → Prop} {H H1 : Hp} {F F1 : List Addr} {v : V} {vs : List V} {t : T} {ts : List T} {f g : List Addr} (o1 : Own K J H F v t f) (jf : ∀ a ∈ F, ¬ J a) (tr : Tr J H F J1 H1 (F1 ++ g)) (o2 : Owns K J1 H1 F1 vs ts g) (nd : F1.Nodup) : Owns K J1 H1 F1 (v :: vs) (t :: ts) (f ++ g) := by
  have o1' := o1.step (F' := F1) ⟨tr.keep, tr.dom, tr.jj, fun b hb => tr.fnew b (List.mem_append_left _ hb), tr.jnew⟩ jf nd
  refine ⟨.cons o1'.rt o2.rt, ?_, fun b hb => ?_⟩
  · have n1 := o1'.nd
    have n2 := o2.nd
    rw [List.nodup_append] at n1 n2 ⊢
    refine ⟨n2.1, List.nodup_append.mpr ⟨n1.2.1, n2.2.1, fun x hx y hy z => ?_⟩, fun x hx y hy z => ?_⟩
    · subst z
      rcases tr.fnew x (List.mem_append_right _ hy) with z | z
      · exact not_both o1.nd hx z
      · exact RT.dom o1.rt x hx z
    · rcases List.mem_append.mp hy with hy | hy
      · exact n1.2.2 x hx y hy z
      · exact n2.2.2 x hx y hy z
  · rcases List.mem_append.mp hb with hb | hb
    · exact o1'.jf b hb
    · exact o2.jf b hb
theorem tr_join {J J1 J2 : Addr → Prop} {H H1 H2 : Hp} {F F1 F2 f g : List Addr} (a : Tr J H F J1 H1 (F1 ++ f)) (b : Tr J1 H1 F1 J2 H2 (F2 ++ g)) : Tr J H F J2 H2 (F2 ++ (f ++ g)) := by
  have h := a.trans (b.aside (G := f))
  refine h.trans (Tr.sub fun c hc => ?_)
  simp only [List.mem_append] at hc ⊢
  rcases hc with z | z | z
  · exact .inl (.inl z)
  · exact .inr z
  · exact .inl (.inr z)
theorem al_val {ls : List (Option Nat)} {f : M T} {g : M (List T)} (ha : PE X a (rdE X.K pn f)) (hn : nstar a = true) (hb : PA X es (rdAs X.K pn ls g)) : PA X (a :: es) (rdAs X.K pn (none :: ls) (consM f g)) :=
  PA.weak (pa_cons ha hb (star_of hn es X.env)) fun σ H Q ⟨e, J, F, s, t, e', h, q⟩ => by
    obtain ⟨x, e1, h1, h2⟩ := bnd_ok h
    obtain ⟨xs, e2, h3, h4⟩ := bnd_ok h2
    cases h4
    refine ⟨e, J, F, s, x, e1, h1, fun v H1 J1 F1 fp1 s1 o1 tr1 => ?_⟩
    refine ⟨e1, J1, F1, s1, xs, _, h3, fun vs H2 J2 F2 fp2 s2 o2 tr2 hl => ?_⟩
    refine q (v :: vs) H2 J2 F2 (fp1 ++ fp2) s2 (own_join o1 s1.jf tr2 o2 s2.nd) (tr_join tr1 tr2) fun j i hj => ?_
    cases j with
    | zero => simp at hj
    | succ j =>
      obtain ⟨w, k1, k2⟩ := hl j i (by simpa using hj)
      exact ⟨w, by simpa using k1, k2⟩
theorem al_lend {ls : List (Option Nat)} {i : Nat} {g : M (List T)} (ha : PE X a (tVar i)) (hn : nstar a = true) (hb : PA X es (rdAs X.K pn ls g)) : PA X (a :: es) (rdAs X.K pn (some i :: ls) (consM (gTake i) g)) :=
  PA.weak (pa_cons ha hb (star_of hn es X.env)) fun σ H Q ⟨e, J, F, s, t, e', h, q⟩ => by
    obtain ⟨x, e1, h1, h2⟩ := bnd_ok h
    obtain ⟨xs, e2, h3, h4⟩ := bnd_ok h2
    cases h4
    unfold gTake at h1
    split at h1
    · rename_i t0 h0
      cases h1
      obtain ⟨v, fp1, F1, hv, o1, s1, pm⟩ := s.take h0
      have tr1 : Tr J H F J H (F1 ++ fp1) := Tr.sub fun b hb => pm.mem_iff.mpr hb
      refine ⟨v, hv, _, J, F1, s1, xs, _, h3, fun vs H2 J2 F2 fp2 s2 o2 tr2 hl => ?_⟩
      refine q (v :: vs) H2 J2 F2 (fp1 ++ fp2) s2 (own_join o1 s1.jf tr2 o2 s2.nd) (tr_join tr1 tr2) fun j k hj => ?_
      cases j with
      | zero =>
        simp at hj
        subst hj
        exact ⟨v, by simp, hv⟩
      | succ j =>
        obtain ⟨w, k1, k2⟩ := hl j k (by simpa using hj)
        exact ⟨w, by simpa using k1, k2⟩
    · cases h1
theorem pa_lend {i : Nat} {g : M (List T)} (ha : PE X a (tVar i)) (hn : nstar a = true) (hb : PA X es (rdEs X.K pn g)) : PA X (a :: es) (rdEs X.K pn (consM (gTake i) g)) :=
  PA.weak (pa_cons ha hb (star_of hn es X.env)) fun σ H Q ⟨e, J, F, s, t, e', h, q⟩ => by
    obtain ⟨x, e1, h1, h2⟩ := bnd_ok h
    obtain ⟨xs, e2, h3, h4⟩ := bnd_ok h2
    cases h4
    unfold gTake at h1
    split at h1
    · rename_i t0 h0
      cases h1
      obtain ⟨v, fp1, F1, hv, o1, s1, pm⟩ := s.take h0
      have tr1 : Tr J H F J H (F1 ++ fp1) := Tr.sub fun b hb => pm.mem_iff.mpr hb
      refine ⟨v, hv, _, J, F1, s1, xs, _, h3, fun vs H2 J2 F2 fp2 s2 o2 tr2 => ?_⟩
      exact q (v :: vs) H2 J2 F2 (fp1 ++ fp2) s2 (own_join o1 s1.jf tr2 o2 s2.nd) (tr_join tr1 tr2)
    · cases h1
/-- what was lent comes back -/
def putBack : List (Option Nat) → List (Option T) → En → En
  | some i :: ls, some t :: outs, e => putBack ls outs (match e[i]? with
    | some none => e.set i (some t)
    | _ => e)
  | _ :: ls, _ :: outs, e => putBack ls outs e
  | _, _, e => e
theorem putBack_ok {K : PySem.W.Frag} {σ : L2.St} {H : Hp} {J : Addr → Prop} : ∀ (ls : List (Option Nat)) (vs : List V) (outs : List (Option T)) (e : En) (F fp : List Addr), SR K pn σ H e J F → RE K J H (vs.map some) outs fp → (F ++ fp).Nodup → (∀ a ∈ fp, ¬ J a) →
    (∀ (j i : Nat), ls[j]? = some (some i) → ∃ w, vs[j]? = some w ∧ σ[i]? = some (some w)) → ∃ F', SR K pn σ H (putBack ls outs e) J F' ∧ ∀ b ∈ F', b ∈ F ++ fp
  | [], vs, outs, e, F, fp, s, r, nd, jf, hl => by
    refine ⟨F, ?_, fun b hb => List.mem_append_left _ hb⟩
    cases outs <;> exact s
  | l :: ls, vs, [], e, F, fp, s, r, nd, jf, hl => by
    refine ⟨F, ?_, fun b hb => List.mem_append_left _ hb⟩
    cases l <;> exact s
  | l :: ls, [], o :: outs, e, F, fp, s, r, nd, jf, hl => by cases r
  | l :: ls, v :: vs, o :: outs, e, F, fp, s, r, nd, jf, hl => by
    have hl' : ∀ (j i : Nat), ls[j]? = some (some i) → ∃ w, vs[j]? = some w ∧ σ[i]? = some (some w) := fun j i h => by
      obtain ⟨w, k1, k2⟩ := hl (j + 1) i (by simpa using h)
      exact ⟨w, by simpa using k1, k2⟩
    cases r with
    | out r =>
      have go := putBack_ok ls vs outs e F fp s r nd jf hl'
      cases l <;> exact go
    | held q r =>
      rename_i t f g
      have nd' : (F ++ g).Nodup := by
        rw [List.nodup_append] at nd ⊢
        exact ⟨nd.1, (List.nodup_append.mp nd.2.1).2.1, fun x hx y hy => nd.2.2 x hx y (List.mem_append_right _ hy)⟩
      have jf' : ∀ a ∈ g, ¬ J a := fun a ha => jf a (List.mem_append_right _ ha)
      have skip : ∃ F', SR K pn σ H (putBack ls outs e) J F' ∧ ∀ b ∈ F', b ∈ F ++ (f ++ g) := by
        obtain ⟨F', s', h'⟩ := putBack_ok ls vs outs e F g s r nd' jf' hl'
        refine ⟨F', s', fun b hb => ?_⟩
        rcases List.mem_append.mp (h' b hb) with z | z
        · exact List.mem_append_left _ z
        · exact List.mem_append_right _ (List.mem_append_right _ z)
      cases l with
      | none => exact skip
      | some i =>
        show ∃ F', SR K pn σ H (putBack ls outs (match e[i]? with
          | some none => e.set i (some t)
          | _ => e)) J F' ∧ _
        split
        · rename_i h0
          obtain ⟨w, k1, k2⟩ := hl 0 i rfl
          have hw : v = w := by simpa using k1
          subst hw
          have ov : Own K J H F v t f := ⟨q, by
            rw [List.nodup_append] at nd ⊢
            exact ⟨nd.1, (List.nodup_append.mp nd.2.1).1, fun x hx y hy => nd.2.2 x hx y (List.mem_append_left _ hy)⟩, fun a ha => jf a (List.mem_append_left _ ha)⟩
          obtain ⟨F1, s1, pm⟩ := s.put h0 k2 ov
          have nd1 : (F1 ++ g).Nodup := by
            refine ((List.Perm.append_right g pm).nodup_iff).mpr ?_
            rw [List.append_assoc]
            exact nd
          obtain ⟨F', s', h'⟩ := putBack_ok ls vs outs _ F1 g s1 r nd1 jf' hl'
          refine ⟨F', s', fun b hb => ?_⟩
          rcases List.mem_append.mp (h' b hb) with z | z
          · rcases List.mem_append.mp (pm.mem_iff.mp z) with z | z
            · exact List.mem_append_left _ z
            · exact List.mem_append_right _ (List.mem_append_left _ z)
          · exact List.mem_append_right _ (List.mem_append_right _ z)
        · exact skip
def gCallF (F : FSem) (L : List Nat) (ls : List (Option Nat)) (fa : M (List T)) : M T := bnd fa fun ts => fun e => match F ts with
  | some (t, outs) => .ok t (putBack ls (maskN L 0 outs) e)
  | none => .bad
theorem RTs.re {K : PySem.W.Frag} {J : Addr → Prop} {H : Hp} : ∀ {vs : List V} {ts : List T} {fp : List Addr}, RTs K J H vs ts fp → RE K J H (vs.map some) (ts.map some) fp
  | _, _, _, .nil => .nil
  | _, _, _, .cons r s => .held r (RTs.re s)
theorem call_rd {F : FSem} {L : List Nat} {ls : List (Option Nat)} {n : Nat} {fa : M (List T)} {E : XK} {σ : L2.St} {H : Hp} {Q : VK} (hn : ∀ e ts e', fa e = .ok ts e' → ts.length = n) (h : rdE X.K pn (gCallF F L ls fa) σ H Q) :
    tCall (spG X.K n L F) [] E (rdAs X.K pn ls fa) σ H Q := by
  obtain ⟨e, J, F0, s, t, e', h, q⟩ := h
  obtain ⟨ts, e1, h1, h2⟩ := bnd_ok h
  refine ⟨e, J, F0, s, ts, e1, h1, fun vs H1 J1 F1 fp s1 o1 tr1 hl => ?_⟩
  cases hF : F ts with
  | none => simp only [hF] at h2; cases h2
  | some r =>
    obtain ⟨t', outs⟩ := r
    simp only [hF] at h2
    cases h2
    rw [List.append_nil]
    have ndf : fp.Nodup := (List.nodup_append.mp o1.nd).2.1
    refine ⟨by rw [o1.rt.length]; exact hn _ _ _ h1, J1, fp, ts, ⟨o1.rt.re, ndf, o1.jf, s1.jd, fun p hp => (nomatch hp)⟩, _, outs, hF, fun v H' J' fp' fpv s' ov tr => ?_⟩
    -- the caller's own things stand
    have ndc : (fp ++ F1).Nodup := (List.perm_append_comm.nodup_iff).mp o1.nd
    have dF1 : ∀ b ∈ F1, H1 b ≠ none := s1.re.dom
    have sep : ∀ b ∈ F1, b ∉ fp' ++ fpv := fun b hb z => by
      rcases tr.fnew b z with z | z
      · exact not_both ndc hb z
      · exact dF1 b hb z
    have s2 : SR X.K pn σ H' e1 J' F1 := s1.step tr.jj (fun b o z eq => tr.keep b o eq fun w => by
      rcases z with z | z
      · exact o1.jf b w z
      · exact not_both ndc z w) s'.jd fun a ha z => by
        rcases tr.jnew a z with z | z | z
        · exact s1.jf a ha z
        · exact not_both ndc ha z
        · exact dF1 a ha z
    have nd2 : (F1 ++ fp').Nodup := List.nodup_append.mpr ⟨s1.nd, s'.nd, fun x hx y hy z => sep x hx (z ▸ List.mem_append_left _ hy)⟩
    obtain ⟨F3, s3, h3⟩ := putBack_ok ls vs _ e1 F1 fp' s2 s'.re nd2 s'.jf hl
    refine q v H' J' F3 fpv s3 ⟨ov.rt, ?_, ov.jf⟩ ?_
    · refine List.nodup_append.mpr ⟨s3.nd, (List.nodup_append.mp ov.nd).2.1, fun x hx y hy z => ?_⟩
      subst z
      rcases List.mem_append.mp (h3 x hx) with w | w
      · exact sep x w (List.mem_append_right _ hy)
      · exact not_both ov.nd hy w
    · have t2 : Tr J1 H1 (F1 ++ fp) J' H' (F1 ++ (fp' ++ fpv)) := by
        refine ⟨fun b o e n => tr.keep b o e fun z => n (List.mem_append_right _ z), tr.dom, tr.jj, fun b z => ?_, fun b z => (tr.jnew b z).imp id (Or.imp (List.mem_append_right _) id)⟩
        rcases List.mem_append.mp z with z | z
        · exact .inl (List.mem_append_left _ z)
        · exact (tr.fnew b z).imp (List.mem_append_right _) id
      refine (tr1.trans t2).trans (Tr.sub fun b hb => ?_)
      rcases List.mem_append.mp hb with z | z
      · rcases List.mem_append.mp (h3 b z) with z | z
        · exact List.mem_append_left _ z
        · exact List.mem_append_right _ (List.mem_append_left _ z)
      · exact List.mem_append_right _ (List.mem_append_right _ z)
end
end IL

namespace IL
open PySem PySem.Spec PyProof.Rows L2
/-- a thing lent, the arguments behind it told first -/
def consL (i : Nat) (g : M (List T)) : M (List T) := bnd (held i) fun _ => bnd g fun ts => bnd (gTake i) fun t => ret (t :: ts)
section
variable {X : Cx} {pn : List (Nat × V)} {a b c : Expr} {pos : Pos} {es : List Expr}
theorem owns_take {K : PySem.W.Frag} {J : Addr → Prop} {H : Hp} {F F1 fp1 fp2 : List Addr} {v : V} {vs : List V} {t : T} {ts : List T} (o1 : Own K J H F1 v t fp1) (o2 : Owns K J H F vs ts fp2) (pm : F.Perm (F1 ++ fp1)) : Owns K J H F1 (v :: vs) (t :: ts) (fp1 ++ fp2) := by
  refine ⟨.cons o1.rt o2.rt, ?_, fun b hb => ?_⟩
  · rw [← List.append_assoc]
    exact (pm.append_right fp2).nodup_iff.mp o2.nd
  · rcases List.mem_append.mp hb with hb | hb
    · exact o1.jf b hb
    · exact o2.jf b hb
theorem tr_take {J J2 : Addr → Prop} {H H2 : Hp} {F F2 F1 fp1 fp2 : List Addr} (tr : Tr J H F J2 H2 (F2 ++ fp2)) (pm : F2.Perm (F1 ++ fp1)) : Tr J H F J2 H2 (F1 ++ (fp1 ++ fp2)) := by
  refine tr.trans (Tr.sub fun b hb => ?_)
  rw [← List.append_assoc] at hb
  exact (pm.append_right fp2).mem_iff.mpr hb
theorem al_lendL {ls : List (Option Nat)} {i : Nat} {g : M (List T)} (ha : PE X a (tVar i)) (hn : nstar a = true) (hb : PA X es (rdAs X.K pn ls g)) : PA X (a :: es) (rdAs X.K pn (some i :: ls) (consL i g)) :=
  PA.weak (pa_cons ha hb (star_of hn es X.env)) fun σ H Q ⟨e, J, F, s, t, e', h, q⟩ => by
    obtain ⟨_, e0, h0, h1⟩ := bnd_ok h
    obtain ⟨rfl, t0, k0⟩ := held_ok h0
    obtain ⟨xs, e2, h3, h4⟩ := bnd_ok h1
    obtain ⟨x, e3, h5, h6⟩ := bnd_ok h4
    cases h6
    obtain ⟨v, fp0, hv, _⟩ := s.at k0
    refine ⟨v, hv, _, J, F, s, xs, _, h3, fun vs H2 J2 F2 fp2 s2 o2 tr2 hl => ?_⟩
    unfold gTake at h5
    split at h5
    · rename_i t1 k1
      cases h5
      obtain ⟨v', fp1, F1, hv', o1, s3, pm⟩ := s2.take k1
      rw [hv] at hv'
      cases hv'
      refine q (v :: vs) H2 J2 F1 (fp1 ++ fp2) s3 (owns_take o1 o2 pm) (tr_take tr2 pm) fun j k hj => ?_
      cases j with
      | zero =>
        simp at hj
        subst hj
        exact ⟨v, by simp, hv⟩
      | succ j =>
        obtain ⟨w, k1, k2⟩ := hl j k (by simpa using hj)
        exact ⟨w, by simpa using k1, k2⟩
    · cases h5
theorem pa_lendL {i : Nat} {g : M (List T)} (ha : PE X a (tVar i)) (hn : nstar a = true) (hb : PA X es (rdEs X.K pn g)) : PA X (a :: es) (rdEs X.K pn (consL i g)) :=
  PA.weak (pa_cons ha hb (star_of hn es X.env)) fun σ H Q ⟨e, J, F, s, t, e', h, q⟩ => by
    obtain ⟨_, e0, h0, h1⟩ := bnd_ok h
    obtain ⟨rfl, t0, k0⟩ := held_ok h0
    obtain ⟨xs, e2, h3, h4⟩ := bnd_ok h1
    obtain ⟨x, e3, h5, h6⟩ := bnd_ok h4
    cases h6
    obtain ⟨v, fp0, hv, _⟩ := s.at k0
    refine ⟨v, hv, _, J, F, s, xs, _, h3, fun vs H2 J2 F2 fp2 s2 o2 tr2 => ?_⟩
    unfold gTake at h5
    split at h5
    · rename_i t1 k1
      cases h5
      obtain ⟨v', fp1, F1, hv', o1, s3, pm⟩ := s2.take k1
      rw [hv] at hv'
      cases hv'
      exact q (v :: vs) H2 J2 F1 (fp1 ++ fp2) s3 (owns_take o1 o2 pm) (tr_take tr2 pm)
    · cases h5
end
end IL

namespace IL
open PySem PySem.Spec PyProof.Rows L2

/-! ### a def by its body's run -/
def runF (nN n : Nat) (g : M Fl) : FSem := fun ts => match g (ts.map some ++ List.replicate (nN - n) none) with
  | .ok (.rt t) e => some (t, (e ++ List.replicate n none).take n)
  | .ok .nx e => some (.leaf .none, (e ++ List.replicate n none).take n)
  | _ => none
section
variable {K : PySem.W.Frag} {J : Addr → Prop} {H : Hp}
theorem RE.takeN {σ : L2.St} {e : En} {F : List Addr} (r : RE K J H σ e F) : ∀ n, ∃ F', RE K J H (σ.take n) (e.take n) F' ∧ F'.Sublist F := by
  induction r with
  | nil => intro n; exact ⟨[], by simpa using RE.nil, .slnil⟩
  | out r ih =>
    intro n
    cases n with
    | zero => exact ⟨[], by simpa using RE.nil, List.nil_sublist _⟩
    | succ n =>
      obtain ⟨F', h1, h2⟩ := ih n
      exact ⟨F', .out h1, h2⟩
  | held q r ih =>
    intro n
    cases n with
    | zero => exact ⟨[], by simpa using RE.nil, List.nil_sublist _⟩
    | succ n =>
      obtain ⟨F', h1, h2⟩ := ih n
      exact ⟨_, .held q h1, List.Sublist.append_left h2 _⟩
theorem RE.mask {σ : L2.St} {e : En} {F : List Addr} (L : List Nat) (r : RE K J H σ e F) : ∀ k, ∃ F', RE K J H σ (maskN L k e) F' ∧ F'.Sublist F := by
  induction r with
  | nil => intro k; exact ⟨[], .nil, .slnil⟩
  | out r ih =>
    intro k
    obtain ⟨F', h1, h2⟩ := ih (k + 1)
    refine ⟨F', ?_, h2⟩
    unfold maskN
    split <;> exact .out h1
  | held q r ih =>
    intro k
    obtain ⟨F', h1, h2⟩ := ih (k + 1)
    unfold maskN
    split
    · exact ⟨_, .held q h1, List.Sublist.append_left h2 _⟩
    · exact ⟨F', .out h1, h2.trans (List.sublist_append_right _ _)⟩
theorem maskN_none {L : List Nat} : ∀ {e : List (Option T)} {k i : Nat} {t : T}, (maskN L k e)[i]? = some (some t) → k + i ∈ L
  | [], _, _, _, h => by simp [maskN] at h
  | o :: r, k, 0, t, h => by
    unfold maskN at h
    split at h
    · simpa using ‹k ∈ L›
    · simp at h
  | o :: r, k, i + 1, t, h => by
    unfold maskN at h
    have := maskN_none (L := L) (e := r) (k := k + 1) (i := i) (t := t) (by simpa using h)
    have e : k + 1 + i = k + (i + 1) := by omega
    rw [← e]; exact this
theorem maskN_len (L : List Nat) : ∀ (e : List (Option T)) (k : Nat), (maskN L k e).length = e.length
  | [], _ => rfl
  | o :: r, k => by simp [maskN, maskN_len L r]
end
theorem RE.pad {K : PySem.W.Frag} {J : Addr → Prop} {H : Hp} {σ : L2.St} {e : En} {F0 : List Addr} (m : Nat) (r : RE K J H σ e F0) : RE K J H (σ ++ List.replicate m none) (e ++ List.replicate m none) F0 := by
  induction r with
  | nil =>
    induction m with
    | zero => exact .nil
    | succ m ih => exact .out ih
  | out _ ih => exact .out ih
  | held q _ ih => exact .held q ih
theorem maskN_twice (L : List Nat) : ∀ (e : List (Option T)) (k : Nat), maskN L k (maskN L k e) = maskN L k e
  | [], _ => rfl
  | o :: r, k => by
    simp only [maskN, maskN_twice L r (k + 1)]
    split <;> rfl
/-- the same, but for what is lent nothing is told of the arguments -/
def runM (nN n : Nat) (L : List Nat) (g : M Fl) : FSem := fun ts => match runF nN n g ts with
  | some (t, o) => some (t, maskN L 0 o)
  | none => none
theorem runM_sp {K : PySem.W.Frag} {nN n : Nat} {L : List Nat} {g : M Fl} : ∀ vs H Q E, spG K n L (runM nN n L g) vs H Q E → spG K n L (runF nN n g) vs H Q E := by
  rintro vs H Q E ⟨hl, J, fp, ts, s, t, outs, hF, q⟩
  unfold runM at hF
  split at hF
  · rename_i t' o' h'
    cases hF
    rw [maskN_twice] at q
    exact ⟨hl, J, fp, ts, s, t, o', h', q⟩
  · cases hF
def pinsOf (L : List Nat) (vs : List V) : List (Nat × V) := L.filterMap fun i => vs[i]?.map fun v => (i, v)
theorem mem_pinsOf {L : List Nat} {vs : List V} {p : Nat × V} : p ∈ pinsOf L vs ↔ p.1 ∈ L ∧ vs[p.1]? = some p.2 := by
  unfold pinsOf
  rw [List.mem_filterMap]
  constructor
  · rintro ⟨i, hi, h⟩
    cases hv : vs[i]? with
    | none => rw [hv] at h; cases h
    | some v => rw [hv] at h; cases h; exact ⟨hi, hv⟩
  · rintro ⟨h1, h2⟩
    exact ⟨p.1, h1, by rw [h2]; rfl⟩
section
variable {P : Program} {w : World} {K : PySem.W.Frag} {mg : Str → Option Value} {base : Heap}
/-- a def keeps to its body's run -/
theorem fnG_body {k : Nat} {f : Addr} {x qual : Str} {st : Stmt} {fd : FuncData} {N ps : List Str} {L : List Nat} {g : M Fl}
    (F : Fun K x qual st f fd) (S : FnScope N ps (defScope st))
    (hbody : ∀ (X : Cx) (pn : List (Nat × V)), X.prog = P → X.w = w → X.K = K → X.mg = mg → X.base = base → X.N = N → X.env.scope = defScope st → X.calm = true → (X.xe = fun _ _ => False) → Room k X.A → X.A.guards = some [] → (∀ y, X.fn y = true) → (∀ p ∈ pn, p.1 ∈ L) →
      PSs X (defBody st) (rdS X.K pn g)) : FnG P w K mg base CX0 (k + 1) f fd ps (spG K ps.length L (runF N.length ps.length g)) := by
  refine fnG_of F S (fun vs H Q E h => h.1) fun cdv B around s H vs Q E hr hg h => ?_
  obtain ⟨hl, J, fp, ts, sr, t, outs, hF, q⟩ := h
  have hps : ps.length ≤ N.length := by have := congrArg List.length S.pre; rw [List.length_take] at this; omega
  have hb := hbody (cxOf CX0 P w K mg base N qual (defScope st) f cdv B around s H E).nox (pinsOf L vs) rfl rfl rfl rfl rfl rfl rfl rfl rfl hr hg (fun _ => rfl) fun p hp => (mem_pinsOf.mp hp).1
  refine ⟨_, PSs.nox hb, ?_⟩
  have hlen : ts.length = ps.length := by
    have := sr.re.length
    simp at this
    omega
  -- the slots at the entry
  have re0 : RE K J H (L2.start N vs) (ts.map some ++ List.replicate (N.length - ps.length) none) fp := by
    have := sr.re.pad (N.length - ps.length)
    unfold L2.start
    rw [hl]
    exact this
  have s0 : SR K (pinsOf L vs) (L2.start N vs) H (ts.map some ++ List.replicate (N.length - ps.length) none) J fp := by
    refine ⟨re0, sr.nd, sr.jf, sr.jd, fun p hp => ?_⟩
    obtain ⟨h1, h2⟩ := mem_pinsOf.mp hp
    have hlt : p.1 < vs.length := (List.getElem?_eq_some_iff.mp h2).1
    unfold L2.start
    rw [List.getElem?_append_left (by simpa using hlt), List.getElem?_map, h2]
    rfl
  -- what the def's end leaves of the arguments
  have fin : ∀ {σ' : L2.St} {H' : Hp} {J' : Addr → Prop} {e' : En} {F' : List Addr}, SR K (pinsOf L vs) σ' H' e' J' F' → ∃ fp', SR K [] (vs.map some) H' (maskN L 0 ((e' ++ List.replicate ps.length none).take ps.length)) J' fp' ∧ fp'.Sublist F' := by
    intro σ' H' J' e' F' s'
    obtain ⟨F1, h1, l1⟩ := (s'.re.pad ps.length).takeN ps.length
    obtain ⟨F2, h2, l2⟩ := h1.mask L 0
    have l3 := l2.trans l1
    refine ⟨F2, ⟨h2.unwipe ?_ fun i hi => ?_, s'.nd.sublist l3, fun a ha => s'.jf a (l3.mem ha), s'.jd, fun p hp => (nomatch hp)⟩, l3⟩
    · simp [hl]
    · cases hm : (maskN L 0 ((e' ++ List.replicate ps.length none).take ps.length))[i]? with
      | none =>
        have hge := List.getElem?_eq_none_iff.mp hm
        rw [maskN_len] at hge
        simp at hge
        rw [List.getElem?_eq_none (by simp [hl]; omega), List.getElem?_eq_none (by simp; omega)]
      | some o =>
        cases o with
        | none => exact absurd hm hi
        | some tt =>
          have hiL := maskN_none hm
          rw [Nat.zero_add] at hiL
          have hlt : i < ps.length := by
            have := (List.getElem?_eq_some_iff.mp hm).1
            rw [maskN_len] at this
            simp at this
            omega
          have hv : vs[i]? = some (vs[i]'(by omega)) := List.getElem?_eq_getElem (by omega)
          have hp := s'.pin (i, vs[i]'(by omega)) (mem_pinsOf.mpr ⟨hiL, hv⟩)
          have hlt2 : i < σ'.length := (List.getElem?_eq_some_iff.mp hp).1
          rw [List.getElem?_take_of_lt hlt, List.getElem?_append_left hlt2, hp, List.getElem?_map, hv]
          rfl
  unfold runF at hF
  split at hF
  · rename_i t' e' hg'
    cases hF
    refine ⟨_, J, fp, s0, _, e', hg', fun v σ' H' J' F' fpv s' o' tr => ?_⟩
    obtain ⟨fp', s2, l2⟩ := fin s'
    exact q v H' J' fp' fpv s2 ⟨o'.rt, o'.nd.sublist (List.Sublist.append_right l2 _), o'.jf⟩ (tr.trans (Tr.sub fun b hb => (List.Sublist.append_right l2 fpv).mem hb))
  · rename_i e' hg'
    cases hF
    refine ⟨_, J, fp, s0, _, e', hg', fun σ' H' J' F' s' tr => ?_⟩
    obtain ⟨fp', s2, l2⟩ := fin s'
    exact q .non H' J' fp' [] s2 ⟨.leaf .non, by simpa using s2.nd, fun _ z => (nomatch z)⟩ (by
      rw [List.append_nil]
      exact tr.trans (Tr.sub fun b hb => l2.mem hb))
  · cases hF
end
end IL

namespace IL
open PySem PySem.Spec PyProof.Rows L2
section
variable {X : Cx}
/-! ### repr, isinstance, a text of a number -/
theorem hasDict_no {d : D} (h : d.canLay0 = true) : d.hasDict = true → ∀ {P : Prop}, P := fun z => by
  have := PyData.hasDict_of_canLay d h
  rw [this] at z
  cases z
theorem call_reprD (hu : X.A.units + 66 < cLine) (hg : X.A.guards = some []) : CallR X (.builtin "repr") (fun xs H Q => ∃ v d, xs = [v] ∧ Dp X.K H v d ∧ d.canLay0 = true ∧ d.showable = true ∧ d.depth ≤ 64 ∧ d.shown.length ≤ sizeLine ∧ Q (.str d.shown) H) := by
  intro pins s σ H xs us Q I r h
  obtain ⟨v, d, rfl, hd, h1, h2, h3, h4, q⟩ := h
  obtain ⟨u, rfl, ru⟩ : ∃ u, us = [u] ∧ RelV v u := by
    cases r with
    | cons r t => cases t; exact ⟨_, rfl, r⟩
  cases hd with
  | non =>
    cases ru
    simp only [PyData.shown] at q
    exact PySem.P.repr_of_none ⟨.str _, H, I.tok _, ⟨_, rfl⟩, q⟩
  | bl b =>
    cases ru
    simp only [PyData.shown] at q
    exact PySem.P.repr_of_bool ⟨.str _, H, I.tok _, ⟨_, rfl⟩, q⟩
  | int i =>
    obtain ⟨t, rfl⟩ := ru
    simp only [PyData.shown] at q
    exact PySem.P.repr_of_int (by simpa [PyData.showable] using h2) ⟨.str _, H, I.tok _, ⟨_, rfl⟩, q⟩
  | str x =>
    obtain ⟨t, rfl⟩ := ru
    simp only [PyData.shown] at q h4
    exact PySem.P.repr_of_str (hsz := h4) ⟨.str _, H, I.tok _, ⟨_, rfl⟩, q⟩
  | lst hs ha =>
    rename_i a xs ds
    have ru' : u = Value.ref a := ru
    subst ru'
    obtain ⟨as, rd⟩ := Dp.reads I _ _ _ (.lst hs ha) (show RelV (.ref a) (.ref a) from rfl)
    refine repr_of_reads' rd h2 (fun z => hasDict_no h1 z) hg (by omega) (fun b o e => e) (fun h' u tk hk => ?_) h4
    exact ⟨.str _, H, I.kept (t' := tk) hk, ⟨_, rfl⟩, q⟩
  | tup hs ha =>
    rename_i a xs ds
    have ru' : u = Value.ref a := ru
    subst ru'
    obtain ⟨as, rd⟩ := Dp.reads I _ _ _ (.tup hs ha) (show RelV (.ref a) (.ref a) from rfl)
    refine repr_of_reads' rd h2 (fun z => hasDict_no h1 z) hg (by omega) (fun b o e => e) (fun h' u tk hk => ?_) h4
    exact ⟨.str _, H, I.kept (t' := tk) hk, ⟨_, rfl⟩, q⟩
theorem cs_repr (hu : X.A.units + 66 < cLine) (hg : X.A.guards = some []) : CallS X (.builtin "repr") reprD := by
  refine .mk (call_reprD hu hg) fun xs t h J H vs jd rx Q q => ?_
  unfold reprD at h
  split at h
  · split at h
    · rename_i d hz
      cases h
      simp only [reprOk, Bool.and_eq_true, decide_eq_true_eq] at hz
      obtain ⟨v, rfl, r⟩ := rx.one
      exact ⟨v, d, rfl, r.dp hz.1.1.1, hz.1.1.1, hz.1.1.2, hz.1.2, hz.2, q _ _ _ _ (New.same (.str _) jd)⟩
    · cases h
  · cases h
inductive Ty where
  | int | bool | str | list | tuple | dict
  deriving DecidableEq
def Ty.nm : Ty → String
  | .int => "int" | .bool => "bool" | .str => "str" | .list => "list" | .tuple => "tuple" | .dict => "dict"
def Ty.nmS : Ty → Str
  | .int => "int" | .bool => "bool" | .str => "str" | .list => "list" | .tuple => "tuple" | .dict => "dict"
def isiB : Ty → D → Bool
  | .int, .int _ => true
  | .int, .bool _ => true
  | .bool, .bool _ => true
  | .str, .str _ => true
  | .list, .list _ => true
  | .tuple, .tuple _ => true
  | .dict, .dict _ => true
  | _, _ => false
def tyD : D → String
  | .none => "NoneType" | .bool _ => "bool" | .int _ => "int" | .str _ => "str" | .list _ => "list" | .tuple _ => "tuple" | .dict _ => "dict"
theorem tyX_of {K : PySem.W.Frag} {J : Addr → Prop} {H : Hp} {v : V} {d : D} (r : RD K J H v d) : TyX K H v (.type (tyD d)) := by
  cases r with
  | non => exact .base .non
  | bl b => exact .base (.bl b)
  | int i => exact .base (.int i)
  | str x => exact .base (.str x)
  | lst j p r => exact .base (.lst p)
  | tup p r =>
    rcases p with ⟨_, p⟩ | p
    · exact .base (.tup p)
    · rcases p with (h | ⟨_, h⟩) | ⟨o, its, n, h1, h2, _⟩
      · cases h
      · cases h
      · exact .kTuple h1 h2
  | dct j p r => exact .base (.dK p)
theorem kit_of (t : Ty) (d : D) {K : PySem.W.Frag} : PySem.W.kitOne K (.type (tyD d)) (.type t.nm) = some (isiB t d) := by
  refine kit_ty ?_
  cases t <;> cases d <;> (simp only [tyD, Ty.nm, isiB]; decide +kernel)
def isiG (t : Ty) (f : M D) : M T := bnd f fun d => ret (.leaf (.bool (isiB t d)))
theorem ie_isi {pn : List (Nat × V)} {a : Expr} {p p2 pos : Pos} {t : Ty} {f : M T} (hg : Gl X "isinstance") (hm : X.mg "isinstance" = none) (ha : IE X pn a f) (hg2 : Gl X t.nmS) (hm2 : X.mg t.nmS = none) :
    IE X pn (.Call (.Name "isinstance" p) [a, .Name t.nmS p2] [] pos) (isiG t (fz f)) := by
  have hT : PE X (.Name t.nmS p2) (tC (.ty t.nm)) := by
    cases t <;> exact pe_bltn hg2 hm2 (by decide +kernel) rfl
  have h1 : starEach [a, .Name t.nmS p2] X.env = (false, eval a X.env) :: starEach [.Name t.nmS p2] X.env := star_of ha.ns _ X.env
  refine ie_mk (PE.weak (pe_callB call_isi hg hm (by decide +kernel) (pa_cons (pe_fz ha.pe) (pa_cons hT pa_nil) h1) (he := h1)) fun σ H Q ⟨e, J, F, s, r, e', h, q⟩ => ?_)
  obtain ⟨d, e1, k1, k2⟩ := bnd_ok h
  cases k2
  refine ⟨e, J, F, s, d, _, k1, fun v H1 J1 F1 s1 r1 tr1 => ?_⟩
  exact ⟨v, _, _, _, _, rfl, .ty _, tyX_of r1, kit_of t d, q _ H1 J1 F1 [] s1 (own_leaf_bl s1.nd) (by simpa using tr1)⟩
def strD : List D → Option T
  | [.int i] => if decide (i.natAbs.log2 < 1920) then some (.leaf (.str (toString i))) else none
  | [.str x] => some (.leaf (.str x))
  | _ => none
end
end IL

namespace IL
open PySem PySem.Spec PyProof.Rows L2
def eqb (k : Bool) (v : Value) : Bool := match v with
  | .bool n => n == k
  | _ => false
theorem vals_bools : ∀ {bs : List Bool} {us : List Value}, Vals (bs.map V.bl) us → us = bs.map Value.bool
  | [], us, r => by cases r; rfl
  | b :: bs, us, r => by
    rw [List.map_cons] at r
    cases r with
    | cons r1 r2 =>
      have e : _ = Value.bool b := r1
      rw [e, vals_bools r2]
      rfl
theorem eqb_count {k : Bool} : ∀ bs : List Bool, (bs.map Value.bool).countP (eqb k) = bs.count k
  | [] => rfl
  | b :: bs => by
    rw [List.map_cons, List.countP_cons, List.count_cons, eqb_count bs]
    rfl
section
variable {X : Cx}
def rCntB (K : PySem.W.Frag) : V → List V → Hp → VK → Prop := fun x xs H Q => ∃ (p : Addr) (bs : List Bool) (k : Bool), x = .ref p ∧ xs = [.bl k] ∧ SqL K H p (bs.map V.bl) ∧ Q (.int (bs.count k : Nat)) H
theorem mt_countB : MtR X "list.count" (rCntB X.K) := by
  intro pins s σ H x xs v us Q I rx rxs h
  obtain ⟨p, bs, k, rfl, rfl, hs, q⟩ := h
  cases rx
  obtain ⟨u, rfl, ru⟩ := rxs.one
  have hu : u = Value.bool k := ru
  subst hu
  obtain ⟨its, rv, ⟨⟨cls, dd, data, sl⟩, n, ho, hc, hdn, hd⟩, hlen⟩ := I.list hs
  simp only at hc hd
  subst hc hd
  have hi := vals_bools rv
  refine call_meets PySem.F.slot_list_count ⟨_, ho, rfl⟩ PySem.F.entry_list_count (PySem.F.args_list_count_2 _ _)
    (SeqAt.list_countAt p its.toArray n dd sl (.bool k) (eqb k)) ⟨ho, fun y hy => ?_, ?_⟩
  · have hy2 : y ∈ bs.map Value.bool := by rw [← hi]; simpa using hy
    obtain ⟨b, _, rfl⟩ := List.mem_map.mp hy2
    exact SeqAt.EqAt.bool_bool b k
  · have ec : its.toArray.toList.countP (eqb k) = bs.count k := by
      rw [show its.toArray.toList = its from rfl, hi]
      exact eqb_count bs
    refine ⟨.int (bs.count k : Nat), H, I.tok _, ⟨s.toks, ?_⟩, q⟩
    show Value.int ((its.toArray.toList.countP (eqb k) : Nat) : Int) s.toks = Value.int ((bs.count k : Nat) : Int) s.toks
    rw [ec]
end
end IL

namespace IL
open PySem PySem.Spec PyProof.Rows L2
section
variable {X : Cx} {pn : List (Nat × V)} {a b : Expr} {pos : Pos}
/-- xs.count(k), of bools -/
def cntD : D → D → Option T
  | .list ds, .bool k => (boolsD ds).map fun bs => .leaf (.int (bs.count k : Nat))
  | _, _ => none
theorem ie_cnt {fa fb : M D} {apos : Pos} (ho : PE X a (rdD X.K pn fa)) (hn : nstar b = true) (hb : PE X b (rdD X.K pn fb)) (hbase : attributeBase a "count" X.env (eval a X.env) = eval a X.env) (hline : (apos.endLine == pos.line) = true) :
    IE X pn (.Call (.Attribute a "count" apos) [b] [] pos) (gBin cntD fa fb) := by
  have hs : starEach [b] X.env = (false, eval b X.env) :: starEach [] X.env := star_of hn [] X.env
  refine ie_mk (PE.weak (pe_bm PySem.F.plainAttrs_list PySem.F.slot_list_count PySem.F.type_list_count mt_countB ho (pa_cons hb pa_nil hs) hbase (by rw [hs]; rfl) hline hs (by rfl)) fun σ H Q ⟨e, J, F, s, t, e', h, q⟩ => ?_)
  obtain ⟨x, e1, h1, h2⟩ := bnd_ok h
  obtain ⟨y, e2, h3, h4⟩ := bnd_ok h2
  obtain ⟨h5, rfl⟩ := opt_ok h4
  unfold cntD at h5
  split at h5
  · rename_i ds k
    cases hbs : boolsD ds with
    | none => rw [hbs] at h5; cases h5
    | some bs =>
      rw [hbs] at h5
      cases h5
      refine ⟨e, J, F, s, _, e1, h1, fun v H1 J1 F1 s1 r1 tr1 => ?_⟩
      cases r1 with
      | lst j p r =>
        refine ⟨.inl ⟨rfl, _, .inl (.inl p)⟩, e1, J1, F1, s1, _, e', h3, fun w H2 J2 F2 s2 r2 tr2 => ?_⟩
        cases r2
        have r3 := (RD.lst j p r).step tr2 s1.jf
        cases r3 with
        | lst j' p' r' =>
          obtain ⟨s3, o3, tr3⟩ := (New.same (K := X.K) (H := H2) (v := .int (bs.count k : Nat)) (d := .int (bs.count k : Nat)) (.int _) s2.jd).sr s2
          exact ⟨_, bs, k, rfl, rfl, by rw [← bools_rule hbs r']; exact .inl (.inl p'), q _ _ _ _ _ s3 o3 ((tr1.trans tr2).trans tr3)⟩
  · cases h5
end
end IL

namespace IL
open PySem PySem.Spec PyProof.Rows L2
section
variable {X : Cx}
/-- a list times an int -/
def lstRep : D → D → Option T
  | .list a, .int k => if 0 ≤ k ∧ k ≤ 1000 ∧ a.length ≤ 1000 then some (.lst ((List.replicate k.toNat a).flatten.map .leaf)) else none
  | _, _ => none
theorem os_lstRep : OpS X (binaryOp .Mult) lstRep := by
  refine .mk op_rep fun x y t h J H v u jd rx ry Q q => ?_
  unfold lstRep at h
  split at h
  · split at h
    · rename_i a k hz
      cases h
      cases ry
      cases rx with
      | lst j p r =>
        refine ⟨_, _, _, rfl, rfl, p, by omega, by omega, ?_, fun z hz => q _ _ _ _ (New.list (r.flat _) jd hz)⟩
        rw [r.length, sizeLine_eq]
        have h1 : k.toNat ≤ 1000 := by omega
        have := Nat.mul_le_mul hz.2.2 h1
        omega
    · cases h
  · cases h
/-- a text times an int -/
def strTimes (a : Str) (k : Nat) : Str := ⟨(List.replicate k a.cps).foldl (· ++ ·) #[]⟩
theorem size_times {α : Type} (c : Array α) : ∀ (k : Nat) (i : Array α), (List.foldl (fun x1 x2 => x1 ++ x2) i (List.replicate k c)).size = i.size + k * c.size
  | 0, i => by simp
  | k + 1, i => by
    rw [List.replicate_succ, List.foldl_cons, size_times c k, Array.size_append, Nat.succ_mul]
    omega
def strRep : D → D → Option T
  | .str a, .int k => if 2 ≤ k ∧ k ≤ 1000 ∧ a.length ≤ 1000 ∧ (a.length == 0) = false then some (.leaf (.str (strTimes a k.toNat))) else none
  | _, _ => none
theorem op_strRep : OpR X (binaryOp .Mult) (fun x y H Q => ∃ a k, x = .str a ∧ y = .int k ∧ (2 ≤ k ∧ k ≤ 1000 ∧ a.length ≤ 1000 ∧ (a.length == 0) = false) ∧ Q (.str (strTimes a k.toNat)) H) := by
  intro pins s σ H x y v u Q I rx ry h
  obtain ⟨a, k, rfl, rfl, ⟨h1, h2, h3, h4⟩, q⟩ := h
  obtain ⟨t, rfl⟩ := rx
  obtain ⟨t', rfl⟩ := ry
  have hn : ¬ k < 1 := by omega
  have hk : (k == 1 || a.length == 0) = false := by
    rw [h4, Bool.or_false]
    have : k ≠ 1 := by omega
    simpa using this
  refine PySem.P.mul_str ?_ (fun _ _ => ?_) (fun _ _ => ?_) ?_
  · have e1 : ¬ k < -(2 ^ 63 : Int) := by omega
    have e2 : ¬ k ≥ 2 ^ 63 := by omega
    rw [decide_eq_false e1, decide_eq_false e2]
    rfl
  · have h5 : (2 ^ 63 - 1) / 1000 ≤ ((2 ^ 63 - 1) / k : Int) := by
      rw [Int.le_ediv_iff_mul_le (by omega)]
      omega
    have h6 : ((2 : Int) ^ 63 - 1) / 1000 = 9223372036854775 := by decide
    omega
  · unfold Builtin.Str.tooLong
    have := Nat.mul_le_mul h3 (show k.toNat ≤ 1000 by omega)
    simp only [decide_eq_false_iff_not]
    rw [sizeLine_eq]
    omega
  · rw [if_neg hn, if_neg (by rw [hk]; exact Bool.false_ne_true)]
    show (PySem.Made.str _).post _ _
    unfold PySem.Made.post
    refine ⟨?_, ⟨.str _, H, I.tok _, ⟨_, rfl⟩, q⟩⟩
    show (List.foldl (fun x1 x2 => x1 ++ x2) #[] (List.replicate k.toNat a.cps)).size ≤ sizeLine
    rw [size_times, sizeLine_eq]
    have := Nat.mul_le_mul h3 (show k.toNat ≤ 1000 by omega)
    have e : a.cps.size = a.length := rfl
    rw [e, Nat.mul_comm]
    simp
    omega
theorem os_strRep : OpS X (binaryOp .Mult) strRep := by
  refine .mk op_strRep fun x y t h J H v u jd rx ry Q q => ?_
  unfold strRep at h
  split at h
  · split at h
    · rename_i a k hz
      cases h
      cases ry
      cases rx
      exact ⟨_, _, rfl, rfl, hz, q _ _ _ _ (New.same (.str _) jd)⟩
    · cases h
  · cases h
/-- max, min of a list of ints -/
def maxLD : List D → Option T
  | [.list ds] => (intsD ds).bind fun ns => ns.max?.map fun m => .leaf (.int m)
  | _ => none
def minLD : List D → Option T
  | [.list ds] => (intsD ds).bind fun ns => ns.min?.map fun m => .leaf (.int m)
  | _ => none
theorem cs_maxL (hc : X.calm = true) : CallS X (.builtin "max") maxLD := by
  refine .mk (cr_max hc) fun xs t h J H vs jd rx Q q => ?_
  unfold maxLD at h
  split at h
  · rename_i ds
    obtain ⟨ns, hb, h2⟩ := Option.bind_eq_some_iff.mp h
    obtain ⟨m, hm, e⟩ := Option.map_eq_some_iff.mp h2
    subst e
    obtain ⟨h3, h4⟩ := List.max?_eq_some_iff.mp hm
    obtain ⟨v, rfl, r⟩ := rx.one
    cases r with
    | lst j p r =>
      refine ⟨_, ns, rfl, by rw [← ints_rule hb r]; exact .inl (.inl p), List.length_pos_of_mem h3, fun m' h5 h6 => ?_⟩
      have : m' = m := by have := h4 m' h5; have := h6 m h3; omega
      subst this
      exact q _ _ _ _ (New.same (.int _) jd)
  · cases h
theorem cs_minL (hc : X.calm = true) : CallS X (.builtin "min") minLD := by
  refine .mk (cr_min hc) fun xs t h J H vs jd rx Q q => ?_
  unfold minLD at h
  split at h
  · rename_i ds
    obtain ⟨ns, hb, h2⟩ := Option.bind_eq_some_iff.mp h
    obtain ⟨m, hm, e⟩ := Option.map_eq_some_iff.mp h2
    subst e
    obtain ⟨h3, h4⟩ := List.min?_eq_some_iff.mp hm
    obtain ⟨v, rfl, r⟩ := rx.one
    cases r with
    | lst j p r =>
      refine ⟨_, ns, rfl, by rw [← ints_rule hb r]; exact .inl (.inl p), List.length_pos_of_mem h3, fun m' h5 h6 => ?_⟩
      have : m' = m := by have := h4 m' h5; have := h6 m h3; omega
      subst this
      exact q _ _ _ _ (New.same (.int _) jd)
  · cases h
/-- str(int), int(bool), int(int) -/
def strOfD : List D → Option T
  | [.int i] => if i.natAbs.log2 < 1920 then some (.leaf (.str (toString i))) else none
  | _ => none
def intOfD : List D → Option T
  | [.int i] => some (.leaf (.int i))
  | [.bool b] => some (.leaf (.int (if b then 1 else 0)))
  | _ => none
theorem cs_str : CallS X (.type "str") strOfD := by
  refine .mk call_str_int fun xs t h J H vs jd rx Q q => ?_
  unfold strOfD at h
  split at h
  · split at h
    · rename_i i hz
      cases h
      obtain ⟨v, rfl, r⟩ := rx.one
      cases r
      exact ⟨_, rfl, hz, q _ _ _ _ (New.same (.str _) jd)⟩
    · cases h
  · cases h
theorem cs_int : CallS X (.type "int") intOfD := by
  refine .mk call_int1 fun xs t h J H vs jd rx Q q => ?_
  unfold intOfD at h
  split at h
  · cases h
    obtain ⟨v, rfl, r⟩ := rx.one
    cases r
    exact .inl ⟨_, rfl, q _ _ _ _ (New.same (.int _) jd)⟩
  · cases h
    obtain ⟨v, rfl, r⟩ := rx.one
    cases r
    exact .inr ⟨_, rfl, q _ _ _ _ (New.same (.int _) jd)⟩
  · cases h
end
end IL

namespace IL
open PySem PySem.Spec PyProof.Rows L2
theorem tuple_mul1 (l : Addr) (items : Array Value) (n : Nat) (dd : Option Addr) (sl : Array (Option Value)) (u : Tok) :
    Meets (Builtin.«tuple.__mul__» ⟨[.ref l, .int 1 u], []⟩) (fun _ R s => s.heap.get? l = some { cls := .type "tuple", dict := dd, data := .seq items n, slots := sl } ∧
      R (.ok (.ret (.ref l))) s) :=
  .of_wp fun prog w A R s h => by
    obtain ⟨hp, g, d, tk, os⟩ := s
    obtain ⟨hl, h⟩ := h
    have f1 := AutoSeq1.idx_int
    have c0 : (decide ((1 : Int) < -(2 ^ 63)) || decide ((1 : Int) ≥ 2 ^ 63)) = false := by decide
    wp_walk using wpAny_loadPart' hl
    exact ⟨_, rfl, h⟩
section
variable {X : Cx}
/-- a tuple times 1: itself -/
def tupRep1 : D → D → Option T
  | .tuple a, .int k => if k = 1 then some (.leaf (.tuple a)) else none
  | _, _ => none
theorem op_rep1 : OpR X (binaryOp .Mult) (fun x y H Q => ∃ l xs, x = .ref l ∧ y = .int 1 ∧ SqT X.K H l xs ∧ Q (.ref l) H) := by
  intro pins s σ H x y v u Q I rx ry h
  obtain ⟨l, xs, rfl, rfl, hT, q⟩ := h
  cases rx
  obtain ⟨t, rfl⟩ := ry
  obtain ⟨its, r, ⟨⟨cls, dd, data, sl⟩, ho, hc, n, hd⟩, hs⟩ := I.tuple hT
  simp only at hc hd
  subst hc hd
  exact wpAny_binaryOp_repeat_ref (T := "tuple") (U := "int") (by decide) ⟨_, ho, rfl⟩ (fun s' => typeIs_int s' 1 t) noFill_tuple_mul F.fills_int_mul F.slot_int_rmul repeat_tuple F.slot_int_index.lookup
    (call_meets F.slot_int_rmul (typeIs_int s 1 t) F.entry_int_rmul (F.args_int_rmul_2 _ _) (int_rmul_tuple 1 t l its.toArray n dd sl)
      ⟨ho, rfl, ⟨_, ho, rfl⟩, call_meets F.slot_tuple_mul ⟨_, ho, rfl⟩ F.entry_tuple_mul (F.args_tuple_mul_2 _ _) (tuple_mul1 l its.toArray n dd sl t) ⟨ho, ⟨.ref l, H, I, rfl, q⟩⟩⟩)
theorem os_rep1 : OpS X (binaryOp .Mult) tupRep1 := by
  refine .mk op_rep1 fun x y t h J H v u jd rx ry Q q => ?_
  unfold tupRep1 at h
  split at h
  · split at h
    · rename_i a k hz
      subst hz
      cases h
      cases ry
      cases rx with
      | tup p r => exact ⟨_, _, rfl, rfl, p.sq, q _ _ _ _ (New.same (.tup p r) jd)⟩
    · cases h
  · cases h
/-- a sequence times an int -/
def repD (x y : D) : Option T := orr (lstRep x y) (orr (strRep x y) (orr (tupRep x y) (tupRep1 x y)))
theorem os_rep : OpS X (binaryOp .Mult) repD := .or os_lstRep (.or os_strRep (.or os_tupRep os_rep1))
end
end IL

namespace IL
open PySem PySem.Spec PyProof.Rows L2
section
variable {X : Cx} {pn : List (Nat × V)} {a b : Expr} {pos : Pos}
/-- list(range(a, b)) -/
def lrgD : D → D → Option T
  | .int i, .int j => if -(2 ^ 40) ≤ i ∧ i ≤ 2 ^ 40 ∧ -(2 ^ 40) ≤ j ∧ j ≤ 2 ^ 40 ∧ (j - i).toNat ≤ 100000 then some (.lst ((rangeL i (j - i).toNat).map .leaf)) else none
  | _, _ => none
theorem rds_rg {K : PySem.W.Frag} {J : Addr → Prop} {H : Hp} (i j : Int) : RDs K J H (rgV i j) (rangeL i (j - i).toNat) := by
  unfold rgV rangeL
  have go : ∀ l : List Nat, RDs K J H (l.map fun k : Nat => V.int (i + (k : Int))) (l.map fun k : Nat => PyData.int (i + (k : Int))) := by
    intro l
    induction l with
    | nil => exact .nil
    | cons k l ih => exact .cons (.int _) ih
  exact go _
theorem ie_lrg {fa fb : M D} {p p2 pos2 : Pos} (hc : X.calm = true) (hg : Gl X "list") (hm : X.mg "list" = none) (hg2 : Gl X "range") (hm2 : X.mg "range" = none) (ha : PE X a (rdD X.K pn fa)) (hb : PE X b (rdD X.K pn fb)) (na : nstar a = true) (nb : nstar b = true) :
    IE X pn (.Call (.Name "list" p) [.Call (.Name "range" p2) [a, b] [] pos2] [] pos) (gBin lrgD fa fb) := by
  refine ie_mk (PE.weak (pe_listRg hc hg hm (prg_2 hg2 hm2 ha hb (star_of na [b] X.env) (star_of nb [] X.env) (by rw [star_of nb [] X.env]; rfl))) fun σ H Q q => ?_)
  have h2 : RuleD X (fun x y H Q => ∃ i j, x = V.int i ∧ y = V.int j ∧ RgOk i j ∧ ∀ q, H q = none → Q (.ref q) (upd H q (.lst (rgV i j)))) lrgD := by
    intro x y t h J H v u jd rx ry Q q
    unfold lrgD at h
    split at h
    · split at h
      · rename_i i j hz
        cases h
        cases rx
        cases ry
        exact ⟨_, _, rfl, rfl, ⟨by omega, by omega, by omega, by omega, by omega⟩, fun z hz => q _ _ _ _ (New.list (rds_rg i j) jd hz)⟩
      · cases h
    · cases h
  exact tOp_rd h2 q
/-- a in range(n) -/
def inrD : D → D → Option T
  | .int i, .int n => if far n then some (.leaf (.bool (decide (0 ≤ i ∧ i < n)))) else none
  | _, _ => none
theorem New.junk {K : PySem.W.Frag} {J : Addr → Prop} {H : Hp} {v : V} {d : D} {p : Addr} {o : HO} (r : RD K J H v d) (jd : ∀ b, J b → H b ≠ none) (hp : H p = none) : New K J H J (upd H p o) v (.leaf d) [] := by
  have keep : ∀ b o', H b = some o' → upd H p o b = some o' := fun b o' e => by rw [upd_ne (ne_of_none e hp)]; exact e
  refine ⟨.leaf (r.mono (fun _ e => e) fun b o' _ e => keep b o' e), .nil, fun _ h => (nomatch h), keep, fun _ e => e, fun _ e => .inl e, fun b z => ?_⟩
  cases q : H b with
  | none => exact absurd q (jd b z)
  | some o' => rw [keep b o' q]; exact fun z => nomatch z
theorem cr_range1 : CallR X (.type "range") (fun vs H Q => ∃ n, vs = [V.int n] ∧ ∀ p, H p = none → Q (.ref p) (upd H p (.rng 0 n))) := by
  intro pins s σ H vs us Q I r h
  obtain ⟨n, rfl, q⟩ := h
  obtain ⟨u1, rfl, ri⟩ := vals1 r
  obtain ⟨t, rfl⟩ := ri
  refine call_range_1 ⟨.ref s.heap.objs.size, upd H s.heap.objs.size (.rng 0 n), I.laid (t' := s.toks + 1 + 1) (fun b o e => Heap.get?_push_of_some _ e) (Nat.le_refl _) ?_, rfl, q _ (I.hok.fresh (Nat.le_refl _))⟩
  exact ⟨_, _, _, Heap.get?_push_size _ rfl⟩
theorem ie_inr {fa fb : M D} {p pos2 : Pos} (hg2 : Gl X "range") (hm2 : X.mg "range" = none) (ha : PE X a (rdD X.K pn fa)) (hb : PE X b (rdD X.K pn fb)) (nb : nstar b = true) (hmk : behindInMarks .In (.Call (.Name "range" p) [b] [] pos2) = false) :
    IE X pn (.Compare a [.In] [.Call (.Name "range" p) [b] [] pos2] pos) (gBin inrD fa fb) := by
  have hs : starEach [b] X.env = (false, eval b X.env) :: starEach [] X.env := star_of nb [] X.env
  have h1 := pe_callTy (p := p) (pos := pos2) cr_range1 hg2 hm2 (by decide +kernel) (pa_cons hb pa_nil hs) (by decide) (by decide) hs (by rfl)
  have key : ∀ σ H Q, rdE X.K pn (gBin inrD fa fb) σ H Q → tOp (fun x y H Q => ∃ i a lo hi, x = V.int i ∧ y = V.ref a ∧ H a = some (.rng lo hi) ∧ Q (.bl (decide (lo ≤ i ∧ i < hi))) H) (rdD X.K pn fa) (tCB (fun vs H Q => ∃ n, vs = [V.int n] ∧ ∀ p, H p = none → Q (.ref p) (upd H p (.rng 0 n))) (tCons (rdD X.K pn fb) tNil)) σ H Q := by
    intro σ H Q h
    obtain ⟨e, J, F, s, t, e', h, q⟩ := h
    obtain ⟨x, e1, h1, h⟩ := bnd_ok h
    obtain ⟨y, e2, h2, h⟩ := bnd_ok h
    obtain ⟨h3, rfl⟩ := opt_ok h
    refine ⟨e, J, F, s, x, e1, h1, fun v H1 J1 F1 s1 r1 tr1 => ?_⟩
    refine ⟨e1, J1, F1, s1, y, _, h2, fun u H2 J2 F2 s2 r2 tr2 => ?_⟩
    unfold inrD at h3
    split at h3
    · split at h3
      · rename_i n i hx hy hz
        cases h3
        cases r1
        cases r2
        refine ⟨_, rfl, fun p hp => ⟨_, p, 0, _, rfl, rfl, upd_same, ?_⟩⟩
        obtain ⟨s3, o3, tr3⟩ := (New.junk (o := .rng 0 _) (.bl _) s2.jd hp).sr s2
        exact q _ _ _ _ _ s3 o3 ((tr1.trans tr2).trans tr3)
      · cases h3
    · cases h3
  exact ⟨PE.weak (pe_cmpR op_in_rng ha h1 hmk) key, fun _ => PT.weak (pt_cmpR op_in_rng ha h1 hmk) fun σ H Q q => key _ _ _ (rdT_of q), rfl⟩
/-- s.join(texts) -/
def strsD : List D → Option (List Str)
  | [] => some []
  | .str b :: r => (strsD r).map (b :: ·)
  | _ => none
theorem strs_rule {K : PySem.W.Frag} {J : Addr → Prop} {H : Hp} : ∀ {ds : List D} {bs : List Str} {vs : List V}, strsD ds = some bs → RDs K J H vs ds → vs = bs.map V.str
  | [], _, _, h, .nil => by cases h; rfl
  | d :: ds, bs, _, h, .cons r s => by
    cases d with
    | str b =>
      unfold strsD at h
      cases hb : strsD ds with
      | none => rw [hb] at h; cases h
      | some bs' =>
        rw [hb] at h
        cases h
        cases r
        rw [strs_rule hb s]
        rfl
    | _ => cases h
def joinD : D → D → Option T
  | .str a, .list ds => (strsD ds).bind fun ys => if (ys.map (·.length)).sum + ys.length * a.length ≤ 100000 then some (.leaf (.str (Txt.join a ys))) else none
  | _, _ => none
theorem ie_join {fa fb : M D} {apos : Pos} (ho : PE X a (rdD X.K pn fa)) (hs : ∀ e x e', fa e = .ok x e' → ∃ z, x = .str z) (hb : PE X b (rdD X.K pn fb)) (nb : nstar b = true) (hbase : attributeBase a "join" X.env (eval a X.env) = eval a X.env) (hline : (apos.endLine == pos.line) = true) :
    IE X pn (.Call (.Attribute a "join" apos) [b] [] pos) (gBin joinD fa fb) := by
  refine ie_mk (PE.weak (pe_join ho hb (star_of nb [] X.env) hbase hline) fun σ H Q h => ?_)
  obtain ⟨e, J, F, s, t, e', h, q⟩ := h
  obtain ⟨x, e1, h1, h⟩ := bnd_ok h
  obtain ⟨y, e2, h2, h⟩ := bnd_ok h
  obtain ⟨h3, rfl⟩ := opt_ok h
  obtain ⟨z, rfl⟩ := hs _ _ _ h1
  refine ⟨e, J, F, s, _, e1, h1, fun v H1 J1 F1 s1 r1 tr1 => ?_⟩
  cases r1
  refine ⟨⟨_, rfl⟩, e1, J1, F1, s1, y, _, h2, fun u H2 J2 F2 s2 r2 tr2 => ?_⟩
  unfold joinD at h3
  split at h3
  · rename_i a1 ds hx
    obtain ⟨ys, hy, h4⟩ := Option.bind_eq_some_iff.mp h3
    split at h4
    · cases hx
      cases h4
      cases r2 with
      | lst j p r =>
        obtain ⟨s3, o3, tr3⟩ := (New.same (K := X.K) (H := H2) (v := .str (Txt.join z ys)) (d := .str (Txt.join z ys)) (.str _) s2.jd).sr s2
        exact ⟨_, _, ys, rfl, rfl, .inl (by rw [← strs_rule hy r]; exact .inl (.inl p)), by omega, q _ _ _ _ _ s3 o3 ((tr1.trans tr2).trans tr3)⟩
    · cases h4
  · cases h3
end
end IL

namespace IL
open PySem PySem.Spec PyProof.Rows L2
theorem adjust_rev (n : Nat) : Builtin.Slice.sliceAdjust none none (-1) (n : Int) = ((n : Int) - 1, -1) := by
  unfold Builtin.Slice.sliceAdjust
  simp
theorem places_rev (n : Nat) : Builtin.Slice.slicePlaces ((n : Int) - 1) (-1) (-1) = n := by
  unfold Builtin.Slice.slicePlaces
  rw [if_neg (by decide)]
  by_cases h : (n : Int) - 1 > -1
  · rw [if_pos h, show (- -1 : Int) = 1 by decide, Int.ediv_one]
    omega
  · rw [if_neg h]
    omega
theorem pick_rev (xs : Array Value) : ((List.range xs.size).filterMap fun (m : Nat) => xs[(((xs.size : Int) - 1) + (m : Int) * (-1)).toNat]?).toArray = xs.toList.reverse.toArray := by
  congr 1
  have e : ∀ (l : List Value), ((List.range l.length).filterMap fun (m : Nat) => l[(((l.length : Int) - 1) + (m : Int) * (-1)).toNat]?) = l.reverse := by
    intro l
    apply List.ext_getElem?
    intro i
    have key : ((List.range l.length).filterMap fun (m : Nat) => l[(((l.length : Int) - 1) + (m : Int) * (-1)).toNat]?) = (List.range l.length).map fun m => l.reverse.getD m Value.none := by
      have : ∀ ms : List Nat, (∀ m ∈ ms, m < l.length) → (ms.filterMap fun (m : Nat) => l[(((l.length : Int) - 1) + (m : Int) * (-1)).toNat]?) = ms.map fun m => l.reverse.getD m Value.none := by
        intro ms
        induction ms with
        | nil => intro _; rfl
        | cons m ms ih =>
          intro h
          have hm := h m List.mem_cons_self
          have e1 : (((l.length : Int) - 1) + (m : Int) * (-1)).toNat = l.length - 1 - m := by omega
          have e2 : l[l.length - 1 - m]? = some (l.reverse.getD m Value.none) := by
            rw [List.getD_eq_getElem?_getD, List.getElem?_reverse hm]
            have : l.length - 1 - m < l.length := by omega
            simp [this]
          rw [List.filterMap_cons, e1, e2, List.map_cons, ih fun x hx => h x (List.mem_cons_of_mem _ hx)]
      exact this _ fun m hm => List.mem_range.mp hm
    rw [key]
    by_cases hi : i < l.length
    · rw [List.getElem?_map, List.getElem?_range hi]
      have : i < l.reverse.length := by simpa using hi
      simp [List.getD_eq_getElem?_getD, List.getElem?_eq_getElem this]
    · have h1 : (List.range l.length).length ≤ i := by simp; omega
      rw [List.getElem?_map, List.getElem?_eq_none h1]
      have h2 : l.reverse.length ≤ i := by simp; omega
      rw [List.getElem?_eq_none h2]
      rfl
  have := e xs.toList
  simpa using this
section
variable {prog : Program} {w : World} {A : Around} {E : Value → Shared → Prop} {s : Shared}
theorem sliceApplied_rev {sl : Addr} {vs : Value} {n : Nat} {Q : Int × Int × Nat → Shared → Prop} (hs : s.heap.IsSliceOf sl .none .none vs) (ps : IsPart vs (some (-1)))
    (h : Q ((n : Int) - 1, -1, n) s) : wpAny (model prog w) A (Builtin.Slice.sliceApplied (.ref sl) (pure (n : Int))) Q E s := by
  obtain ⟨os, hos, hcs, hds⟩ := id hs
  unfold Builtin.Slice.sliceApplied Builtin.Slice.sliceFields
  refine wpAny_bind (wpAny_bind (wpAny_field hos hds (x := .none) rfl (wpAny_bind (wpAny_field hos hds (x := .none) rfl (wpAny_bind (wpAny_field hos hds (x := vs) rfl (wpAny_pure ?_)))))))
  refine wpAny_bind (HT.slicePart_ ps ?_)
  show wpAny _ _ (if ((-1 : Int) == 0) = true then _ else _) _ _ s
  rw [if_neg (by decide)]
  refine wpAny_bind (HT.slicePart_ .none (wpAny_bind (HT.slicePart_ .none (wpAny_bind (wpAny_pure ?_)))))
  show wpAny _ _ (match Builtin.Slice.sliceAdjust none none (-1) (n : Int) with | (lo, hi) => pure (lo, (-1 : Int), Builtin.Slice.slicePlaces lo hi (-1))) _ _ s
  rw [adjust_rev n]
  show wpAny _ _ (pure ((n : Int) - 1, (-1 : Int), Builtin.Slice.slicePlaces ((n : Int) - 1) (-1) (-1))) _ _ s
  rw [places_rev]
  exact wpAny_pure h
theorem getItem_tuple_rev {t sl : Addr} {items : Array Value} {vs : Value} {Q : Value → Shared → Prop} (ht : IsTup s.heap t items) (hs : s.heap.IsSliceOf sl .none .none vs) (ps : IsPart vs (some (-1)))
    (h : Q (.ref s.heap.objs.size) { s with heap := s.heap.push { cls := .type "tuple", data := .seq items.toList.reverse.toArray } })
    (hsz : items.size ≤ sizeLine) : wpAny (model prog w) A (getItem (.ref t) (.ref sl)) Q E s := by
  have htake : sizeOk (.seq items.toList.reverse.toArray) := by
    show items.toList.reverse.toArray.size ≤ sizeLine
    rw [List.size_toArray, List.length_reverse, Array.length_toList]
    omega
  obtain ⟨os, hos, hcs, hds⟩ := id hs
  have hTs : s.TypeIs (.ref sl) "slice" := ⟨os, hos, hcs⟩
  unfold getItem
  try with_reducible refine wpAny_holding ?_
  first | refine wpAny_bind (wpAny_pure ?_) | skip
  refine wpAny_bind (wpAny_sequenceKey ht.typeIs (by decide) ?_)
  refine wpAny_bind (wpAny_callSpecial?_slot (name := Str.ofString "__getitem__") ht.typeIs PyProof.Rows.slot_tuple_getitem
    (wpAny_call_entry PyProof.Rows.slot_tuple_getitem ht.typeIs entry_tuple_getitem ?_ (args_tuple_getitem _ _)))
  show wpAny _ _ (Builtin.Tuple.tupleItemsOf (.ref t) >>= _) _ _ s
  refine wpAny_bind (tupleItemsOf_ ht ?_)
  refine wpAny_bind (wpAny_typeOf hTs ?_)
  rw [if_pos (by decide)]
  refine wpAny_bind (sliceApplied_rev hs ps ?_)
  have hno : ¬ ((((items.size : Int) - 1) == 0 && (-1 : Int) == 1 && items.size == items.size) = true) := by
    intro q
    rw [Bool.and_eq_true, Bool.and_eq_true] at q
    exact absurd q.1.2 (by decide)
  show wpAny _ _ (if (((items.size : Int) - 1) == 0 && (-1 : Int) == 1 && items.size == items.size) = true then _ else _) _ _ s
  rw [if_neg hno, pick_rev]
  first
    | exact wpAny_bind (m := Builtin.Tuple.tupleExact _) (wpAny_newObj_type (wpAny_pure ⟨_, rfl, wpAny_pure h⟩) htake)
    | exact wpAny_bind (m := Builtin.Tuple.tupleExact _) (wpAny_newObj_type (wpAny_bind (wpAny_pure (wpAny_pure ⟨_, rfl, wpAny_pure h⟩))) htake)
    | exact wpAny_bind (wpAny_bind (m := Builtin.Tuple.tupleExact _) (wpAny_newObj_type (wpAny_pure (wpAny_pure ⟨_, rfl, wpAny_pure h⟩)) htake))
    | exact wpAny_bind (wpAny_bind (m := Builtin.Tuple.tupleExact _) (wpAny_newObj_type (wpAny_pure ⟨_, rfl, wpAny_pure h⟩) htake))
end
section
variable {X : Cx}
def tRevS (K : PySem.W.Frag) (te : TE) : TE := fun σ H Q => te σ H fun x H1 => ∃ a xs, x = .ref a ∧ ((SqL K H1 a xs ∧ ∀ p, H1 p = none → Q (.ref p) (upd H1 p (.lst xs.reverse))) ∨ (SqT K H1 a xs ∧ ∀ p, H1 p = none → Q (.ref p) (upd H1 p (.tup xs.reverse))))
theorem pe_revS {e : Expr} {te : TE} {k : Nat} {p1 p2 p3 pos : Pos} (he : PE X e te) : PE X (.Subscript e (.Slice none none (some (.UnaryOp .USub (.Constant (.int 1) k p1) p2)) p3) pos) (tRevS X.K te) := by
  refine ⟨fun pins s σ H Q I h => ?_⟩
  refine Subscript_ (thn (he.run pins s σ H _ I h) fun v s1 ⟨x, H1, I1, r1, q1⟩ => ?_)
  obtain ⟨a, xs, ex, hx⟩ := q1
  subst ex
  cases r1
  have hst : PO X (some (.UnaryOp .USub (.Constant (.int 1) k p1) p2)) (tPart (tUn (rU fun i => .int (-i)) (tC (.int 1)))) := po_some (pe_un un_neg pe_int)
  refine wpAny_Slice (thn (po_none.run pins s1 σ H1 (fun o H2 => o = none ∧ H2 = H1) I1 ⟨rfl, rfl⟩) fun vl s2 ⟨l, H2, I2, pl, el, e2⟩ => ?_)
  subst el e2
  refine thn (po_none.run pins s2 σ H2 (fun o H3 => o = none ∧ H3 = H2) I2 ⟨rfl, rfl⟩) fun vu s3 ⟨u, H3, I3, pu, eu, e3⟩ => ?_
  subst eu e3
  refine thn (hst.run pins s3 σ H3 (fun o H4 => o = some (-1) ∧ H4 = H3) I3 ⟨1, rfl, -1, rfl, rfl, rfl⟩) fun vs s4 ⟨o, H4, I4, ps, eo, e4⟩ => ?_
  subst eo e4
  have I5 : Inv X pins σ H4 { s4 with heap := s4.heap.push { cls := .type "slice", data := .fields #[vl, vu, vs] } } := I4.kept (t' := s4.toks) fun b ob q => Heap.get?_push_of_some _ q
  show wpAny (model X.prog X.w) X.A (subscriptTail e (.Slice none none (some (.UnaryOp .USub (.Constant (.int 1) k p1) p2)) p3) (.ref a) (.ref s4.heap.objs.size)) (EP X pins σ Q) X.xe { s4 with heap := s4.heap.push { cls := .type "slice", data := .fields #[vl, vu, vs] } }
  rcases hx with ⟨hx, q⟩ | ⟨hx, q⟩
  · obtain ⟨its, r, ht, hz⟩ := I5.list hx
    have hlen := r.length
    refine tail_any (ops := [.ref a, .ref s4.heap.objs.size]) ht.isList.typeIs (PySem.slot_list_getitem.lookup) ?_ (by with_unfolding_all rfl)
    refine wpAny_getItem_list_slice ht.isList (Heap.IsSliceOf.new _ vl vu vs) pl pu ps (by decide) ?_ (by rw [List.size_toArray]; omega)
    rw [PySem.W.krv_pick]
    refine ⟨.ref _, _, I5.laid (t' := s4.toks) (o := .lst xs.reverse) (fun b ob q => Heap.get?_push_of_some _ q) (Nat.le_refl _) ?_, rfl, q _ (I5.hok.fresh (Nat.le_refl _))⟩
    exact ⟨by rw [List.length_reverse]; exact hz, _, 0, r.reverse, Heap.get?_push_size _ rfl⟩
  · obtain ⟨its, r, ht, hz⟩ := I5.tuple hx
    have hlen := r.length
    cases pl
    cases pu
    refine tail_any (ops := [.ref a, .ref s4.heap.objs.size]) ht.typeIs PyProof.Rows.slot_tuple_getitem.lookup ?_ (by with_unfolding_all rfl)
    refine getItem_tuple_rev ht (Heap.IsSliceOf.new _ .none .none vs) ps ?_ (by rw [List.size_toArray]; omega)
    refine ⟨.ref _, _, I5.laid (t' := s4.toks) (o := .tup xs.reverse) (fun b ob q => Heap.get?_push_of_some _ q) (Nat.le_refl _) ?_, rfl, q _ (I5.hok.fresh (Nat.le_refl _))⟩
    exact ⟨by rw [List.length_reverse]; exact hz, _, r.reverse, IsTup.new _ _⟩
variable {pn : List (Nat × V)}
/-- xs[::-1] -/
def revD : D → Option T
  | .list ds => some (.lst (ds.reverse.map .leaf))
  | .tuple ds => some (.leaf (.tuple ds.reverse))
  | _ => none
def gRev (f : M D) : M T := bnd f fun d => opt (revD d)
theorem ie_rev {e : Expr} {f : M D} {k : Nat} {p1 p2 p3 pos : Pos} (he : PE X e (rdD X.K pn f)) : IE X pn (.Subscript e (.Slice none none (some (.UnaryOp .USub (.Constant (.int 1) k p1) p2)) p3) pos) (gRev f) := by
  refine ie_mk (PE.weak (pe_revS he) fun σ H Q ⟨e, J, F, s, t, e', h, q⟩ => ?_)
  obtain ⟨x, e1, h1, h⟩ := bnd_ok h
  obtain ⟨h3, rfl⟩ := opt_ok h
  refine ⟨e, J, F, s, x, _, h1, fun v H1 J1 F1 s1 r1 tr1 => ?_⟩
  unfold revD at h3
  split at h3
  · cases h3
    cases r1 with
    | lst j p r =>
      refine ⟨_, _, rfl, .inl ⟨.inl (.inl p), fun z hz => ?_⟩⟩
      obtain ⟨s3, o3, tr3⟩ := (New.list r.rev s1.jd hz).sr s1
      exact q _ _ _ _ _ s3 o3 (tr1.trans tr3)
  · cases h3
    cases r1 with
    | tup p r =>
      refine ⟨_, _, rfl, .inr ⟨p.sq, fun z hz => ?_⟩⟩
      obtain ⟨s3, o3, tr3⟩ := (New.tuple r.rev s1.jd hz).sr s1
      exact q _ _ _ _ _ s3 o3 (tr1.trans tr3)
  · cases h3
end
end IL

namespace IL
open PySem PySem.Spec PyProof.Rows L2
/-! x.pop(k) of an own list whose item there is data -/
theorem RTs.erase {K : PySem.W.Frag} {J : Addr → Prop} {H : Hp} : ∀ {vs : List V} {ts : List T} {fp : List Addr} (j : Nat), RTs K J H vs ts fp → ∃ fp', RTs K J H (vs.eraseIdx j) (ts.eraseIdx j) fp' ∧ (∀ b ∈ fp', b ∈ fp) ∧ (fp.Nodup → fp'.Nodup)
  | _, _, _, _, .nil => ⟨[], .nil, fun _ h => h, fun h => h⟩
  | _, _, _, 0, .cons (f := f) (g := f2) q s => ⟨f2, s, fun b hb => List.mem_append_right _ hb, fun nd => (List.nodup_append.mp nd).2.1⟩
  | _, _, _, j + 1, .cons (f := f) (g := f2) q s => by
    obtain ⟨fp', h1, h2, h3⟩ := RTs.erase j s
    refine ⟨f ++ fp', .cons q h1, fun b hb => ?_, fun nd => ?_⟩
    · rcases List.mem_append.mp hb with z | z
      · exact List.mem_append_left _ z
      · exact List.mem_append_right _ (h2 b z)
    · have n0 := List.nodup_append.mp nd
      exact List.nodup_append.mpr ⟨n0.1, h3 n0.2.1, fun x hx y hy z => n0.2.2 x hx y (h2 y hy) z⟩
def popT (i : Nat) (k : D) : M T := fun e => match e[i]?, k with
  | some (some (.lst ts)), .int z => if ts.length ≤ most then (match ixN ts.length z with
    | some j => (match ts[j]? with
      | some (.leaf d) => .ok (.leaf d) (e.set i (some (.lst (ts.eraseIdx j))))
      | _ => .bad)
    | none => .bad) else .bad
  | _, _ => .bad
def gPop (i : Nat) (f : M D) : M T := bnd (held i) fun _ => bnd (peek i fun t => match t with | .lst _ => some () | _ => none) fun _ => bnd f fun k => popT i k
section
variable {X : Cx} {pn : List (Nat × V)} {a b c : Expr} {pos : Pos} {es : List Expr}
theorem RTs.at? {K : PySem.W.Frag} {J : Addr → Prop} {H : Hp} : ∀ {vs : List V} {ts : List T} {fp : List Addr} {j : Nat} {t : T}, RTs K J H vs ts fp → ts[j]? = some t → ∃ v g, vs[j]? = some v ∧ RT K J H v t g
  | _, _, _, _, _, .nil, h => by simp at h
  | _, _, _, 0, _, .cons q s, h => by cases h; exact ⟨_, _, rfl, q⟩
  | _, _, _, j + 1, _, .cons q s, h => RTs.at? s (j := j) h
theorem ie_pop {i : Nat} {f : M D} {apos : Pos} (ho : PE X a (tVar i)) (hn : nstar b = true) (ha : PE X b (rdD X.K pn f)) (hbase : attributeBase a "pop" X.env (eval a X.env) = eval a X.env) (hline : (apos.endLine == pos.line) = true) :
    IE X pn (.Call (.Attribute a "pop" apos) [b] [] pos) (gPop i f) := by
  have hs : starEach [b] X.env = (false, eval b X.env) :: starEach [] X.env := star_of hn [] X.env
  refine ie_mk (PE.weak (pe_bm PySem.F.plainAttrs_list PySem.F.slot_list_pop PySem.F.type_list_pop mt_popAt ho (pa_cons ha pa_nil hs) hbase (by rw [hs]; rfl) hline hs (by rfl)) fun σ H Q ⟨e, J, F, s, fl, e', h, q⟩ => ?_)
  obtain ⟨_, e0, h1, h2⟩ := bnd_ok h
  obtain ⟨rfl, t0, h0⟩ := held_ok h1
  obtain ⟨_, e1, h3, h4⟩ := bnd_ok h2
  obtain ⟨rfl, t1, h5, h6⟩ := peek_ok h3
  obtain ⟨t, e2, h7, h9⟩ := bnd_ok h4
  split at h6
  · rename_i ts0
    obtain ⟨v, fp, hv, rt⟩ := s.at h5
    cases rt with
    | lst hH rts =>
      refine ⟨_, hv, .inl ⟨rfl, _, .inl (.inl hH)⟩, e1, J, F, s, t, e2, h7, fun w H1 J1 F1 s1 r1 tr1 => ?_⟩
      unfold popT at h9
      split at h9
      · rename_i ts z h11
        split at h9
        · rename_i hmost
          split at h9
          · rename_i j hj
            split at h9
            · rename_i d hd
              cases h9
              obtain ⟨a', vs, hv', ha', fp', rts', go⟩ := s1.turn (ts' := ts.eraseIdx j) (fx := []) h11 (by simpa using s1.nd) (fun _ z => nomatch z)
              rw [hv] at hv'
              cases hv'
              cases r1
              obtain ⟨fp2, k1, k2, k3⟩ := rts'.erase j
              obtain ⟨F', s2, tr2⟩ := go _ fp2 k1 (fun b hb => .inl (k2 b hb)) (fun h => k3 (by simpa using h))
              obtain ⟨w, g, hw, rw'⟩ := rts'.at? hd
              obtain ⟨q1, q2, q3, q4⟩ := ixN_seq hj
              have hml : ts.length ≤ 100000 := hmost
              have tr3 := tr1.trans (by simpa using tr2)
              refine ⟨_, vs, z, j, w, rfl, rfl, ha', by omega, by omega, by rw [rts'.length]; exact q1, hw, ?_⟩
              refine q w _ J1 F' [] s2 ?_ (by simpa using tr3)
              cases rw' with
              | leaf rd => exact ⟨.leaf (rd.step (by simpa using tr2) s1.jf), by simpa using s2.nd, fun _ z => nomatch z⟩
            · cases h9
          · cases h9
        · cases h9
      · cases h9
  · cases h6
/-- x.extend(e) -/
def extT (i : Nat) (ds : List D) : M Unit := fun e => match e[i]? with
  | some (some (.lst ts)) => if ts.length + ds.length ≤ most then .ok () (e.set i (some (.lst (ts ++ ds.map .leaf)))) else .bad
  | _ => .bad
def lstO : D → Option (List D)
  | .list ds => some ds
  | _ => none
def gExt (i : Nat) (f : M D) : M T := bnd (held i) fun _ => bnd (peek i fun t => match t with | .lst _ => some () | _ => none) fun _ => bnd f fun k => bnd (opt (lstO k)) fun ds => bnd (extT i ds) fun _ => ret (.leaf .none)
theorem RDs.own {K : PySem.W.Frag} {J : Addr → Prop} {H : Hp} : ∀ {vs : List V} {ds : List D}, RDs K J H vs ds → RTs K J H vs (ds.map .leaf) []
  | _, _, .nil => .nil
  | _, _, .cons r s => .cons (f := []) (g := []) (.leaf r) (RDs.own s)
theorem ie_ext {i : Nat} {f : M D} {apos : Pos} (ho : PE X a (tVar i)) (hn : nstar b = true) (ha : PE X b (rdD X.K pn f)) (hbase : attributeBase a "extend" X.env (eval a X.env) = eval a X.env) (hline : (apos.endLine == pos.line) = true) :
    IE X pn (.Call (.Attribute a "extend" apos) [b] [] pos) (gExt i f) := by
  have hs : starEach [b] X.env = (false, eval b X.env) :: starEach [] X.env := star_of hn [] X.env
  refine ie_mk (PE.weak (pe_bm PySem.F.plainAttrs_list PySem.F.slot_list_extend PySem.F.type_list_extend mt_extend ho (pa_cons ha pa_nil hs) hbase (by rw [hs]; rfl) hline hs (by rfl)) fun σ H Q ⟨e, J, F, s, fl, e', h, q⟩ => ?_)
  obtain ⟨_, e0, h1, h2⟩ := bnd_ok h
  obtain ⟨rfl, t0, h0⟩ := held_ok h1
  obtain ⟨_, e1, h3, h4⟩ := bnd_ok h2
  obtain ⟨rfl, t1, h5, h6⟩ := peek_ok h3
  obtain ⟨t, e2, h7, h9⟩ := bnd_ok h4
  obtain ⟨ds, e3, h8, h10⟩ := bnd_ok h9
  obtain ⟨h8, rfl⟩ := opt_ok h8
  obtain ⟨_, e4, h11, h12⟩ := bnd_ok h10
  cases h12
  split at h6
  · rename_i ts0
    obtain ⟨v, fp, hv, rt⟩ := s.at h5
    cases rt with
    | lst hH rts =>
      refine ⟨_, hv, .inl ⟨rfl, _, .inl (.inl hH)⟩, e1, J, F, s, t, _, h7, fun w H1 J1 F1 s1 r1 tr1 => ?_⟩
      unfold lstO at h8
      split at h8
      · cases h8
        cases r1 with
        | lst jb hb rb =>
          unfold extT at h11
          split at h11
          · rename_i ts hts
            split at h11
            · rename_i hl
              cases h11
              obtain ⟨a', vs, hv', ha', fp', rts', go⟩ := s1.turn (ts' := ts ++ ds.map .leaf) (fx := []) hts (by simpa using s1.nd) (fun _ z => nomatch z)
              rw [hv] at hv'
              cases hv'
              obtain ⟨F', s2, tr2⟩ := go _ (fp' ++ []) (rts'.append rb.own) (fun b hb => .inl (by simpa using hb)) (fun h => by simpa using h)
              have e1 := rts'.length
              have e2 := rb.length
              have hml : ts.length + ds.length ≤ 100000 := hl
              have z : (100000 : Nat) ≤ sizeLine := by decide
              refine ⟨_, _, vs, _, rfl, rfl, ha', hb, by omega, ?_⟩
              exact q _ _ J1 F' [] s2 ⟨.leaf .non, by simpa using s2.nd, fun _ z => nomatch z⟩ (by simpa using tr1.trans (by simpa using tr2))
            · cases h11
          · cases h11
      · cases h8
  · cases h6
end
end IL

namespace IL
open PySem PySem.Spec PyProof.Rows L2
/-! a starred last target -/
theorem walksFrom {prog : Program} {w : World} {A : Around} (hh : A.handled = none) (I ax : Addr) (hne : ax ≠ I) (items : Array Value) (i : Nat) (hi : i ≤ items.size) :
    Walks prog w A I [I, ax] [I] (items.size - i) (fun j v => items[i + j]? = some v) (fun j h => h.IsTupleIter I ax (i + j) ∧ h.IsTuple ax items) where
  sub := fun b hb => by simp at hb; simp [hb]
  frame := fun _ _ _ st hk => ⟨st.1.at fun o e => hk I (by simp) o e, st.2.at fun o e => hk ax (by simp) o e⟩
  item := fun j s Q E hj st hQ => by
    refine wpAny_pyNext_tuple_item st.1 st.2 (x := items[i + j]'(by omega)) (by simp) fun h' hit' hs' => ?_
    exact hQ _ h' s.toks (by simp) ⟨hit', st.2.extBut hs'.extBut hne⟩ fun b o hb e => hs'.extBut b o (fun h => hb (by simp [h])) e
  done := fun s Q E st hQ => wpAny_pyNext_tuple_end hh st.1 st.2 (by simp; omega) fun h' he' => hQ h' s.toks fun b o hb e => he' b o (fun h => hb (by simp [h])) e
  self := fun _ _ _ _ st hQ => wpAny_pyIter_tupleiter st.1 hQ
section
variable {prog : Program} {w : World} {A : Around} {E : Value → Shared → Prop} {s : Shared}
theorem items_from {items : Array Value} {i : Nat} {acc : Array Value} (hi : i ≤ items.size) (h : ItemsOf (fun j v => items[i + j]? = some v) acc (items.size - i)) : acc.toList = items.toList.drop i := by
  refine List.ext_getElem? fun j => ?_
  rw [List.getElem?_drop, Array.getElem?_toList, Array.getElem?_toList]
  by_cases hj : j < acc.size
  · have := h.2 j acc[j] (by simp [hj])
    rw [this]
    simp [hj]
  · have h1 : acc[j]? = none := by simp; omega
    have h2 : items[i + j]? = none := by have := h.1; simp; omega
    rw [h1, h2]
theorem unpackItems_star {t : Addr} {items : Array Value} {n : Nat} {Q : List Value → Shared → Prop} (hh : A.handled = none) (ht : IsTup s.heap t items) (hn : n ≤ items.size) (hsz : items.size ≤ sizeLine)
    (hQ : ∀ (h' : Heap) (tk : Nat), (∀ b u, s.heap.get? b = some u → h'.get? b = some u) → Q (items.toList.take n ++ [.ref h'.objs.size]) { s with heap := h'.push { cls := .type "list", data := .seq (items.toList.drop n).toArray }, toks := tk }) :
    wpAny (model prog w) A (unpackItems (.ref t) (n + 1) (some n)) Q E s := by
  have hlt : t ≠ s.heap.objs.size := by obtain ⟨o, ho, _⟩ := ht; exact Nat.ne_of_lt (Heap.lt_size ho)
  unfold unpackItems
  refine wpAny_bind ?_
  unfold notIterableAtAll
  refine wpAny_bind (wpAny_specialOf ht.typeIs slot_tuple_iter.lookup ?_)
  refine wpAny_pure ?_
  simp only [Bool.false_eq_true, if_false]
  refine wpAny_bind (wpAny_holding (iter_tuple ht ?_))
  refine wpAny_bind (wpAny_holding (draw_tuple hlt n 0 _ _ ⟨_, Heap.get?_push_size _ rfl, rfl, rfl⟩ (ht.push _) (by omega) fun h₁ hit₁ hs₁ => ?_))
  rw [List.drop_zero]
  have hlen : (items.toList.take n).length = n := by simp; omega
  rw [if_neg (by omega)]
  have ht₁ : IsTup h₁ t items := (ht.push _).extBut hs₁.extBut hlt
  rw [Nat.zero_add] at hit₁
  refine wpAny_bind (wpAny_holding (wpAny_collect_iter (.inr (.inr (.inr rfl))) (walksFrom (A := A.in1) hh s.heap.objs.size t hlt items n hn).toS (fun _ _ st => st.1.typeIs) ⟨hit₁, ht₁⟩ ?_ (by simp) (fun s' acc hm hacc => ?_) (by omega)))
  · intro b hb
    simp only [List.mem_cons, List.not_mem_nil, or_false] at hb
    rcases hb with rfl | rfl
    · obtain ⟨o, ho, _⟩ := hit₁; exact Heap.lt_size ho
    · obtain ⟨o, ho, _⟩ := ht₁; exact Heap.lt_size ho
  · have e := items_from hn hacc
    have m := Moved.eq_with hm
    have kp : ∀ b u, s.heap.get? b = some u → s'.heap.get? b = some u := fun b u q => by
      have hb : b ≠ s.heap.objs.size := Nat.ne_of_lt (Heap.lt_size q)
      exact hm.heap b u (by simpa using hb) (hs₁.extBut b u hb (Heap.get?_push_of_some _ q))
    rw [e]
    have z : n + 1 - 1 - n = 0 := by omega
    simp only [z]
    rw [if_neg (by omega)]
    simp only [Nat.sub_zero, List.take_length, List.drop_length, List.append_nil]
    refine wpAny_bind (wpAny_newObj_type ?_ (by simp [sizeOk]; omega))
    refine wpAny_pure ?_
    rw [m]
    exact hQ s'.heap s'.toks kp
end
section
variable {X : Cx} {pn : List (Nat × V)} {a b c : Expr} {pos : Pos} {es : List Expr}
def gStar (K : PySem.W.Frag) (n : Nat) (t : TGs) : TG := fun v σ H Q => ∃ a xs, v = .ref a ∧ SqT K H a xs ∧ n ≤ xs.length ∧ xs.length ≤ sizeLine ∧ ∀ p, H p = none → t (xs.take n ++ [.ref p]) σ (upd H p (.lst (xs.drop n))) Q
theorem pg_star {k : Nat} {t : TGs} {n : Nat} (hc : X.calm = true) (h : PGs X es t) (hn : (assignEach es X.env).length = n + 1) (hst : (assignEach es X.env).findIdx? (·.1) = some n) : PG X (.Tuple es k pos) (gStar X.K n t) := by
  refine ⟨fun pins s σ H v u Q I r hw => ?_⟩
  obtain ⟨a, xs, e1, hq, hl, hz, hw⟩ := hw
  subst e1
  cases r
  obtain ⟨its, rv, ht, hzz⟩ := I.tuple hq
  have hsz : its.toArray.size = xs.length := by rw [rv.length]; simp
  rw [assign_Tuple]
  refine wpAny_bind (wpAny_standAt ?_)
  unfold unpack
  rw [hn, hst]
  refine wpAny_bind (wpAny_holding (unpackItems_star (I.ok.hd hc) ht (by omega) (by omega) fun h' tk kp => ?_))
  have et : its.toArray.toList = its := rfl
  rw [et]
  have I1 : Inv X pins σ H { s with heap := h', toks := tk } := I.kept kp
  have hf : H h'.objs.size = none := I1.hok.fresh (Nat.le_refl _)
  have rd : Vals (xs.drop n) (its.drop n) := rv.drop n
  have I2 := I1.laid (a := h'.objs.size) (o := .lst (xs.drop n)) (h' := h'.push { cls := .type "list", data := .seq (its.drop n).toArray }) (t' := tk) (fun b u e => Heap.get?_push_of_some _ e) (Nat.le_refl _) ⟨by rw [List.length_drop]; omega, its.drop n, 0, rd, Heap.get?_push_size _ rfl⟩
  exact h.run pins _ σ _ (xs.take n ++ [.ref h'.objs.size]) _ Q I2 ((rv.take n).append (Paired.cons (show L2.RelV (.ref h'.objs.size) (.ref h'.objs.size) from rfl) .nil)) (hw _ hf)
def unS (n : Nat) (g : List D → M Unit) : D → M Unit
  | .tuple ds => if n ≤ ds.length ∧ ds.length ≤ most then g (ds.take n ++ [.list (ds.drop n)]) else bad
  | _ => bad
theorem ig_star {ws : List Nat} {g : List D → M Unit} {k n : Nat} (hc : X.calm = true) (h : PGs X es (rdGs X.K pn ws g)) (hn : (assignEach es X.env).length = n + 1) (hst : (assignEach es X.env).findIdx? (·.1) = some n) : PG X (.Tuple es k pos) (rdG X.K pn ws (unS n g)) :=
  PG.weak (pg_star hc h hn hst) fun v σ H Q ⟨e, J, F, d, s, r, e', h, q⟩ => by
    unfold unS at h
    split at h
    · split at h
      · rename_i ds hl
        cases r with
        | tup p r =>
          rename_i av xs _
          have hlen := r.length
          refine ⟨_, _, rfl, p.sq, by omega, by have := most_lt hl.2; omega, fun c hcn => ?_⟩
          have hne : ∀ b o, H b = some o → upd H c (.lst (xs.drop n)) b = some o := fun b o q => by
            rw [upd_ne (fun z => by subst z; rw [hcn] at q; cases q)]; exact q
          have dm : ∀ b, H b ≠ none → upd H c (.lst (xs.drop n)) b ≠ none := fun b q => by
            cases hb : H b with
            | none => exact absurd hb q
            | some o => rw [hne b o hb]; exact fun z => nomatch z
          have tr0 : Tr J H F (fun b => J b ∨ b = c) (upd H c (.lst (xs.drop n))) F := ⟨fun b o q _ => hne b o q, dm, fun _ j => .inl j, fun b hb => .inl hb, fun b z => z.elim .inl fun e => .inr (.inr (e ▸ hcn))⟩
          have s2 := s.step (J' := fun b => J b ∨ b = c) (H' := upd H c (.lst (xs.drop n))) (fun _ j => .inl j) (fun b o _ q => hne b o q) (fun b z => by
            rcases z with z | z
            · exact dm b (s.jd b z)
            · subst z; rw [upd_same]; exact fun z => nomatch z) (fun b hb z => by
            rcases z with z | z
            · exact s.jf b hb z
            · subst z; exact RE.dom s.re b hb hcn)
          have r2 := r.mono (J' := fun b => J b ∨ b = c) (H' := upd H c (.lst (xs.drop n))) (fun _ j => .inl j) (fun b o _ q => hne b o q)
          have r3 : RDs X.K (fun b => J b ∨ b = c) (upd H c (.lst (xs.drop n))) [V.ref c] [.list (ds.drop n)] := .cons (.lst (.inr rfl) upd_same (r2.drop n)) .nil
          exact ⟨e, _, F, _, s2, (r2.take n).append r3, e', h, fun σ' H' J2 F2 s3 tr sm => q σ' H' J2 F2 s3 (tr0.trans tr) sm⟩
      · cases h
    · cases h
/-- the last of the targets, starred -/
theorem igs_star {x : Str} {p p2 : Pos} {w : List Nat} {f : D → M Unit} (h : PG X (.Name x p) (rdG X.K pn w f)) : PGs X [.Starred (.Name x p) p2] (rdGs X.K pn (w ++ []) (consG f fun ds => match ds with | [] => ret () | _ => bad)) := by
  have k := igs_cons (es := []) h igs_nil rfl
  exact ⟨fun pins s σ H vs us Q I r hw => k.run pins s σ H vs us Q I r hw⟩
end
end IL

namespace IL
open PySem PySem.Spec PyProof.Rows L2
/-! dicts by ints and texts -/
def keyO : D → Option Key
  | .int i => some (.inl i)
  | .str x => some (.inr x)
  | _ => none
theorem keyO_kD (k : Key) : keyO (kD k) = some k := by cases k <;> rfl
theorem keyO_rd {K : PySem.W.Frag} {J : Addr → Prop} {H : Hp} {v : V} {d : D} {k : Key} (h : keyO d = some k) (r : RD K J H v d) : v = kV k := by
  cases r <;> simp [keyO] at h <;> subst h <;> rfl
def valT (kvs : List (Key × T)) (k : Key) : Option T := (kvs.find? fun kv => decide (kv.1 = k)).map (·.2)
def valD (kvs : List (D × D)) (k : Key) : Option D := (kvs.find? fun kv => decide (keyO kv.1 = some k)).map (·.2)
def putT (kvs : List (Key × T)) (k : Key) (t : T) : List (Key × T) :=
  if (kvs.any fun kv => decide (kv.1 = k)) = true then kvs.map (fun kv => if kv.1 = k then (kv.1, t) else kv) else kvs ++ [(k, t)]
section
variable {K : PySem.W.Frag} {J : Addr → Prop} {H : Hp}
theorem RTk.length : ∀ {vs : List (Key × V)} {ts : List (Key × T)} {fp : List Addr}, RTk K J H vs ts fp → vs.length = ts.length
  | _, _, _, .nil => rfl
  | _, _, _, .cons _ s => by simp [RTk.length s]
theorem RTk.val : ∀ {vs : List (Key × V)} {ts : List (Key × T)} {fp : List Addr} (k : Key), RTk K J H vs ts fp → (valV vs k).isSome = (valT ts k).isSome ∧ ∀ t, valT ts k = some t → ∃ v g, valV vs k = some v ∧ RT K J H v t g
  | _, _, _, k, .nil => ⟨rfl, fun t h => by simp [valT] at h⟩
  | _, _, _, k, .cons (k := j) (v := v) (vs := vs) (t := t) (ts := ts) r s => by
    obtain ⟨h1, h2⟩ := RTk.val k s
    by_cases hj : j = k
    · subst hj
      refine ⟨by simp [valV, valT], fun u hu => ?_⟩
      simp [valT] at hu
      subst hu
      exact ⟨v, _, by simp [valV], r⟩
    · have e1 : valV ((j, v) :: vs) k = valV vs k := valV_neg hj
      have e2 : valT ((j, t) :: ts) k = valT ts k := by simp [valT, List.find?_cons, hj]
      rw [e1, e2]
      exact ⟨h1, h2⟩
theorem RDk.val : ∀ {vs : List (Key × V)} {ds : List (D × D)} (k : Key), RDk K J H vs ds → (valV vs k).isSome = (valD ds k).isSome ∧ ∀ t, valD ds k = some t → ∃ v, valV vs k = some v ∧ RD K J H v t
  | _, _, k, .nil => ⟨rfl, fun t h => by simp [valD] at h⟩
  | _, _, k, .cons (k := j) (v := v) (vs := vs) (d := t) (ds := ts) r s => by
    obtain ⟨h1, h2⟩ := RDk.val k s
    by_cases hj : j = k
    · subst hj
      refine ⟨by simp [valV, valD, keyO_kD], fun u hu => ?_⟩
      simp [valD, keyO_kD] at hu
      subst hu
      exact ⟨v, by simp [valV], r⟩
    · have e1 : valV ((j, v) :: vs) k = valV vs k := valV_neg hj
      have e2 : valD ((kD j, t) :: ts) k = valD ts k := by simp [valD, List.find?_cons, keyO_kD, hj]
      rw [e1, e2]
      exact ⟨h1, h2⟩
theorem RTk.any : ∀ {vs : List (Key × V)} {ts : List (Key × T)} {fp : List Addr} (k : Key), RTk K J H vs ts fp → (vs.any fun kv => decide (kv.1 = k)) = (ts.any fun kv => decide (kv.1 = k))
  | _, _, _, k, .nil => rfl
  | _, _, _, k, .cons r s => by simp only [List.any_cons]; rw [RTk.any k s]
theorem RTk.app : ∀ {vs : List (Key × V)} {ts : List (Key × T)} {fp : List Addr} {k : Key} {w : V} {t : T} {g : List Addr}, RTk K J H vs ts fp → RT K J H w t g → RTk K J H (vs ++ [(k, w)]) (ts ++ [(k, t)]) (fp ++ g)
  | _, _, _, k, w, t, g, .nil, r => by simpa using RTk.cons r .nil
  | _, _, _, k, w, t, g, .cons q s, r => by
    have := RTk.app (k := k) s r
    rw [List.append_assoc]
    exact .cons q this
/-- data put in -/
theorem RTk.repl {w : V} {d : D} (r : RD K J H w d) (k : Key) : ∀ {vs : List (Key × V)} {ts : List (Key × T)} {fp : List Addr}, RTk K J H vs ts fp → ∃ fp', RTk K J H (vs.map fun kv => if kv.1 = k then (kv.1, w) else kv) (ts.map fun kv => if kv.1 = k then (kv.1, .leaf d) else kv) fp' ∧ (∀ b ∈ fp', b ∈ fp) ∧ (fp.Nodup → fp'.Nodup)
  | _, _, _, .nil => ⟨[], .nil, fun _ h => h, fun h => h⟩
  | _, _, _, .cons (k := j) (f := f) (g := f2) q s => by
    obtain ⟨fp', h1, h2, h3⟩ := RTk.repl r k s
    by_cases hj : j = k
    · refine ⟨[] ++ fp', by simpa [hj] using RTk.cons (k := k) (RT.leaf r) h1, fun b hb => List.mem_append_right _ (h2 b (by simpa using hb)), fun nd => by simpa using h3 (List.nodup_append.mp nd).2.1⟩
    · refine ⟨f ++ fp', by simpa [hj] using RTk.cons q h1, fun b hb => ?_, fun nd => ?_⟩
      · rcases List.mem_append.mp hb with z | z
        · exact List.mem_append_left _ z
        · exact List.mem_append_right _ (h2 b z)
      · have n0 := List.nodup_append.mp nd
        exact List.nodup_append.mpr ⟨n0.1, h3 n0.2.1, fun x hx y hy z => n0.2.2 x hx y (h2 y hy) z⟩
theorem RTk.put {w : V} {d : D} (r : RD K J H w d) (k : Key) {vs : List (Key × V)} {ts : List (Key × T)} {fp : List Addr} (s : RTk K J H vs ts fp) : ∃ fp', RTk K J H (putK vs k w) (putT ts k (.leaf d)) fp' ∧ (∀ b ∈ fp', b ∈ fp) ∧ (fp.Nodup → fp'.Nodup) := by
  unfold putK putT
  rw [s.any k]
  split
  · exact RTk.repl r k s
  · exact ⟨fp ++ [], s.app (.leaf r), fun b hb => by simpa using hb, fun h => by simpa using h⟩
variable {pn : List (Nat × V)}
/-- the dict in slot i gets what vs, ts say -/
theorem SR.turnK {σ : L2.St} {e : En} {F : List Addr} (s : SR K pn σ H e J F) {i : Nat} {ts ts' : List (Key × T)} (h : e[i]? = some (some (.dct ts))) :
    ∃ a vs, σ[i]? = some (some (.ref a)) ∧ H a = some (.dK vs) ∧ ∃ fp, RTk K J H vs ts fp ∧ ∀ vs' fp', RTk K J H vs' ts' fp' → (∀ b ∈ fp', b ∈ fp) → (fp.Nodup → fp'.Nodup) →
      ∃ F', SR K pn σ (upd H a (.dK vs')) (e.set i (some (.dct ts'))) J F' ∧ Tr J H F J (upd H a (.dK vs')) F' := by
  obtain ⟨v, fp0, F1, hv, o, s1, pm⟩ := s.take h
  cases hrt : o.rt with
  | dct ha rts =>
    rename_i a vs fp
    refine ⟨a, vs, hv, ha, fp, rts, fun vs' fp' r' hsub hnd => ?_⟩
    have ndF : (F1 ++ (a :: fp)).Nodup := o.nd
    have hF1 : a ∉ F1 := fun z => (List.nodup_append.mp ndF).2.2 a z a List.mem_cons_self rfl
    have hafp : a ∉ fp := (List.nodup_cons.mp (List.nodup_append.mp ndF).2.1).1
    have hJ : ¬ J a := o.jf a List.mem_cons_self
    have hafp' : a ∉ fp' := fun z => hafp (hsub a z)
    have keep : ∀ b u, b ≠ a → H b = some u → upd H a (.dK vs') b = some u := fun b u hb q => by rw [upd_ne hb]; exact q
    have dm : ∀ b, H b ≠ none → upd H a (.dK vs') b ≠ none := fun b q => by
      by_cases hb : b = a
      · subst hb; rw [upd_same]; exact fun z => nomatch z
      · rw [upd_ne hb]; exact q
    have s2 : SR K pn σ (upd H a (.dK vs')) (e.set i none) J F1 := s1.step (fun _ j => j) (fun b u z q => keep b u (fun w => by
      subst w
      rcases z with z | z
      · exact hJ z
      · exact hF1 z) q) (fun b z => dm b (s.jd b z)) s1.jf
    have o2 : Own K J (upd H a (.dK vs')) F1 (.ref a) (.dct ts') (a :: fp') := by
      refine ⟨.dct upd_same (r'.mono (fun _ j => j) (fun b u j q => keep b u (fun w => hJ (w ▸ j)) q) fun b u hb q => keep b u (fun w => hafp' (w ▸ hb)) q), ?_, fun b hb => ?_⟩
      · refine List.nodup_append.mpr ⟨s1.nd, List.nodup_cons.mpr ⟨hafp', hnd (List.nodup_cons.mp (List.nodup_append.mp ndF).2.1).2⟩, fun x hx y hy z => ?_⟩
        subst z
        rcases List.mem_cons.mp hy with rfl | hy
        · exact hF1 hx
        · exact (List.nodup_append.mp ndF).2.2 x hx x (List.mem_cons_of_mem _ (hsub x hy)) rfl
      · rcases List.mem_cons.mp hb with rfl | hb
        · exact hJ
        · exact o.jf b (List.mem_cons_of_mem _ (hsub b hb))
    have hi : i < e.length := (List.getElem?_eq_some_iff.mp h).1
    obtain ⟨F', s3, pm3⟩ := s2.put (i := i) (by simp [hi]) hv o2
    rw [List.set_set] at s3
    refine ⟨F', s3, ⟨fun b u q hb => keep b u (fun w => ?_) q, dm, fun _ j => j, fun b hb => ?_, fun b z => .inl z⟩⟩
    · subst w
      exact hb (pm.mem_iff.mpr (List.mem_append_right _ List.mem_cons_self))
    · left
      rcases List.mem_append.mp (pm3.mem_iff.mp hb) with z | z
      · exact pm.mem_iff.mpr (List.mem_append_left _ z)
      · rcases List.mem_cons.mp z with rfl | z
        · exact pm.mem_iff.mpr (List.mem_append_right _ List.mem_cons_self)
        · exact pm.mem_iff.mpr (List.mem_append_right _ (List.mem_cons_of_mem _ (hsub b z)))
end
/-! what is looked up -/
def hasT (t : T) (k : D) : Option Bool := match t, keyO k with
  | .dct kvs, some j => some (valT kvs j).isSome
  | .leaf (.dict ds), some j => some (valD ds j).isSome
  | _, _ => none
def getT (t : T) (k : D) : Option D := match t, keyO k with
  | .dct kvs, some j => (match valT kvs j with
    | some (.leaf d) => some d
    | _ => none)
  | .leaf (.dict ds), some j => valD ds j
  | _, _ => none
def gDin (neg : Bool) (f : M D) (i : Nat) : M T := bnd f fun k => bnd (peek i fun t => hasT t k) fun b => ret (.leaf (.bool (b != neg)))
def gDix (i : Nat) (f : M D) : M D := bnd (held i) fun _ => bnd f fun k => peek i fun t => getT t k
def dputT (i : Nat) (k d : D) : M Unit := fun e => match e[i]?, keyO k with
  | some (some (.dct ts)), some j => if ts.length < most then .ok () (e.set i (some (.dct (putT ts j (.leaf d))))) else .bad
  | _, _ => .bad
def gDput (i : Nat) (fk fv : M D) : M Fl := bnd fv fun d => bnd (held i) fun _ => bnd fk fun k => bnd (dputT i k d) fun _ => ret .nx
section
variable {X : Cx} {pn : List (Nat × V)} {a b c : Expr} {pos pos' : Pos} {es : List Expr}
theorem dget_of {K : PySem.W.Frag} {J : Addr → Prop} {H : Hp} {v y : V} {t : T} {k : D} {fp : List Addr} {b : Bool} (h : hasT t k = some b) (rt : RT K J H v t fp) (ry : RD K J H y k) : ∃ a o, v = .ref a ∧ DGet H a y o ∧ o.isSome = b := by
  unfold hasT at h
  split at h
  · rename_i kvs j hj
    cases h
    cases rt with
    | dct ha rk =>
      have e := keyO_rd hj ry
      subst e
      exact ⟨_, _, rfl, DGet.k ha, (rk.val j).1⟩
  · rename_i ds j hj
    cases h
    cases rt with
    | leaf r =>
      cases r with
      | dct jj ha rk =>
        have e := keyO_rd hj ry
        subst e
        exact ⟨_, _, rfl, DGet.k ha, (rk.val j).1⟩
  · cases h
theorem dget_at {K : PySem.W.Frag} {J : Addr → Prop} {H : Hp} {v y : V} {t : T} {k d : D} {fp : List Addr} (h : getT t k = some d) (rt : RT K J H v t fp) (ry : RD K J H y k) : ∃ a w, v = .ref a ∧ DGet H a y (some w) ∧ RD K J H w d := by
  unfold getT at h
  split at h
  · rename_i kvs j hj
    split at h
    · rename_i d' hd
      cases h
      cases rt with
      | dct ha rk =>
        have e := keyO_rd hj ry
        subst e
        obtain ⟨w, g, h1, h2⟩ := (rk.val j).2 _ hd
        cases h2 with
        | leaf rd => exact ⟨_, w, rfl, h1 ▸ DGet.k ha, rd⟩
    · cases h
  · rename_i ds j hj
    cases rt with
    | leaf r =>
      cases r with
      | dct jj ha rk =>
        have e := keyO_rd hj ry
        subst e
        obtain ⟨w, h1, h2⟩ := (rk.val j).2 _ h
        exact ⟨_, w, rfl, h1 ▸ DGet.k ha, h2⟩
  · cases h
theorem ie_din {neg : Bool} {i : Nat} {f : M D} {op : CmpOp} (hop : op = (if neg then .NotIn else .In)) (hu : X.A.units + 1 < cLine) (hb : PE X a (rdD X.K pn f)) (ha : PE X b (tVar i)) (hm : behindInMarks op b = false) : IE X pn (.Compare a [op] [b] pos) (gDin neg f i) := by
  have w1 : ∀ (σ : L2.St) (H : Hp) (Q : VK), rdE X.K pn (gDin neg f i) σ H Q → rdD X.K pn f σ H fun y H1 => tVar i σ H1 fun x H2 => ∃ a o, x = .ref a ∧ DGet H2 a y o ∧ Q (.bl (o.isSome != neg)) H2 := by
    rintro σ H Q ⟨e, J, F, s, t, e', h, q⟩
    obtain ⟨k, e1, h1, h2⟩ := bnd_ok h
    obtain ⟨bb, e2, h3, h4⟩ := bnd_ok h2
    obtain ⟨rfl, t0, h5, h6⟩ := peek_ok h3
    cases h4
    refine ⟨e, J, F, s, k, _, h1, fun y H1 J1 F1 s1 r1 tr1 => ?_⟩
    obtain ⟨v, fp, hv, rt⟩ := s1.at h5
    obtain ⟨aa, o, rfl, g, ho⟩ := dget_of h6 rt r1
    refine ⟨_, hv, aa, o, rfl, g, ?_⟩
    rw [ho]
    exact q _ H1 J1 F1 [] s1 ⟨.leaf (.bl _), by simpa using s1.nd, fun _ z => nomatch z⟩ (by simpa using tr1)
  cases neg with
  | true =>
    simp only [if_true] at hop
    subst hop
    have w2 : ∀ (σ : L2.St) (H : Hp) (Q : VK), rdE X.K pn (gDin true f i) σ H Q → tDNotIn (rdD X.K pn f) (tVar i) σ H Q := fun σ H Q q => by
      have := w1 σ H Q q
      simpa [tDNotIn] using this
    exact ⟨PE.weak (pe_cmp (pc_dnotin hu hb ha) hm) w2, fun _ => PT.weak (pt_cmp (pc_dnotin hu hb ha) hm) fun σ H Q q => w2 _ _ _ (rdT_of q), rfl⟩
  | false =>
    simp only [Bool.false_eq_true, if_false] at hop
    subst hop
    have w2 : ∀ (σ : L2.St) (H : Hp) (Q : VK), rdE X.K pn (gDin false f i) σ H Q → tDIn (rdD X.K pn f) (tVar i) σ H Q := fun σ H Q q => by
      have := w1 σ H Q q
      simpa [tDIn] using this
    exact ⟨PE.weak (pe_cmp (pc_din hu hb ha) hm) w2, fun _ => PT.weak (pt_cmp (pc_din hu hb ha) hm) fun σ H Q q => w2 _ _ _ (rdT_of q), rfl⟩
theorem ie_dix {i : Nat} {f : M D} (hu : X.A.units + 1 < cLine) (ha : PE X a (tVar i)) (hb : PE X b (rdD X.K pn f)) (hs : isPlain b = true) : IE X pn (.Subscript a b pos) (lf (gDix i f)) :=
  ie_mk (pe_lf (PE.weak (pe_dget hu ha hb (plain_of' hs)) fun σ H Q ⟨e, J, F, s, t, e', h, q⟩ => by
    obtain ⟨_, e0, h1, h2⟩ := bnd_ok h
    obtain ⟨rfl, t0, h0⟩ := held_ok h1
    obtain ⟨y, e1, h3, h4⟩ := bnd_ok h2
    obtain ⟨rfl, x, hx, h5⟩ := peek_ok h4
    obtain ⟨v, fp0, hv, _⟩ := s.at h0
    refine ⟨v, hv, _, J, F, s, y, _, h3, fun u H2 J2 F2 s2 r2 tr2 => ?_⟩
    obtain ⟨v', fp, hv', rt⟩ := s2.at hx
    rw [hv] at hv'
    cases hv'
    obtain ⟨aa, w, rfl, g, rw'⟩ := dget_at h5 rt r2
    exact ⟨aa, w, rfl, g, q w H2 J2 F2 s2 rw' tr2⟩))
theorem is_dput {i : Nat} {fk fv : M D} (hu : X.A.units + 1 < cLine) (ho : PE X a (tVar i)) (hi : PE X b (rdD X.K pn fk)) (hv : PE X c (rdD X.K pn fv)) (hs : swapsWith c (some (.Subscript a b pos')) pos.line X.env = pure false) :
    PS X (.Assign [.Subscript a b pos'] c pos) (rdS X.K pn (gDput i fk fv)) := PS.weak (ps_dput hu ho hi hv hs) fun D σ H ⟨e, J, F, s, fl, e', h, q⟩ => by
  obtain ⟨d, e1, h1, h2⟩ := bnd_ok h
  obtain ⟨_, e2, h3, h4⟩ := bnd_ok h2
  obtain ⟨rfl, t0, h0⟩ := held_ok h3
  obtain ⟨k, e3, h5, h6⟩ := bnd_ok h4
  obtain ⟨_, e4, h7, h8⟩ := bnd_ok h6
  cases h8
  refine ⟨e, J, F, s, d, _, h1, fun v H1 J1 F1 s1 r1 tr1 => ?_⟩
  obtain ⟨ov, fpo, hov, _⟩ := s1.at h0
  refine ⟨ov, hov, _, J1, F1, s1, k, e3, h5, fun y H2 J2 F2 s2 r2 tr2 => ?_⟩
  unfold dputT at h7
  split at h7
  · rename_i ts j hts hj
    split at h7
    · rename_i hl
      cases h7
      obtain ⟨aa, vs, hv', ha', fp, rk, go⟩ := s2.turnK (ts' := putT ts j (.leaf d)) hts
      rw [hov] at hv'
      cases hv'
      have ek := keyO_rd hj r2
      subst ek
      have rd := r1.step tr2 s1.jf
      obtain ⟨fp', k1, k2, k3⟩ := RTk.put rd j rk
      obtain ⟨F', s3, tr3⟩ := go _ fp' k1 k2 k3
      refine ⟨aa, _, rfl, DPut.k ha' (by rw [rk.length]; exact most_lt (Nat.le_of_lt hl)), ?_⟩
      exact q σ _ J2 F' s3 (tr1.trans (tr2.trans tr3))
    · cases h7
  · cases h7
end
/-! a display of constants -/
def dV : D → V
  | .int i => .int i
  | .str x => .str x
  | .bool b => .bl b
  | _ => .non
def conOk : Expr → D → Bool
  | .Constant (.int i) _ _, .int j => decide (i = j)
  | .Constant (.str x) _ _, .str y => decide (x = y)
  | .Constant (.bool b) _ _, .bool c => decide (b = c)
  | .Constant .none _ _, .none => true
  | _, _ => false
section
variable {X : Cx} {pn : List (Nat × V)} {a b c : Expr} {pos pos' : Pos} {es : List Expr}
theorem con_pe {e : Expr} {d : D} (h : conOk e d = true) : PE X e (tC (dV d)) ∧ ∀ {K : PySem.W.Frag} {J : Addr → Prop} {H : Hp}, RD K J H (dV d) d := by
  unfold conOk at h
  split at h
  · have := of_decide_eq_true h; subst this; exact ⟨pe_int, .int _⟩
  · have := of_decide_eq_true h; subst this; exact ⟨pe_str, .str _⟩
  · have := of_decide_eq_true h; subst this; exact ⟨pe_bl, .bl _⟩
  · exact ⟨pe_non, .non⟩
  · cases h
theorem dV_kD (k : Key) : dV (kD k) = kV k := by cases k <;> rfl
def chkKvs : List (Key × D) → List (Option Expr) → List Expr → Bool
  | [], [], [] => true
  | kv :: r, some k :: ks, v :: vs => conOk k (kD kv.1) && conOk v kv.2 && chkKvs r ks vs
  | _, _, _ => false
def kvT (kvs : List (Key × D)) : List (TE × TE) := kvs.map fun kv => (tC (kV kv.1), tC (dV kv.2))
theorem chk_pps : ∀ {kvs : List (Key × D)} {ks : List (Option Expr)} {vs : List Expr}, chkKvs kvs ks vs = true → PPs X pos ks vs (kvT kvs) ∧ ks.all (·.isSome) = true ∧ ks.length = vs.length ∧ ks.length = kvs.length ∧ ∀ {K : PySem.W.Frag} {J : Addr → Prop} {H : Hp}, RTk K J H (kvs.map fun kv => (kv.1, dV kv.2)) (kvs.map fun kv => (kv.1, .leaf kv.2)) []
  | [], [], [], _ => ⟨pps_nil, rfl, rfl, rfl, .nil⟩
  | kv :: r, some k :: ks, v :: vs, h => by
    simp only [chkKvs, Bool.and_eq_true] at h
    obtain ⟨⟨h1, h2⟩, h3⟩ := h
    obtain ⟨q1, q2, q3, q4, q5⟩ := chk_pps h3
    obtain ⟨k1, _⟩ := con_pe (X := X) h1
    obtain ⟨v1, v2⟩ := con_pe (X := X) h2
    rw [dV_kD] at k1
    exact ⟨pps_cons k1 v1 q1, by simp [q2], by simp [q3], by simp [q4], RTk.cons (.leaf v2) q5⟩
  | [], [], _ :: _, h => by simp [chkKvs] at h
  | [], _ :: _, _, h => by simp [chkKvs] at h
  | _ :: _, [], _, h => by simp [chkKvs] at h
  | _ :: _, none :: _, _, h => by simp [chkKvs] at h
  | _ :: _, some _ :: _, [], h => by simp [chkKvs] at h
theorem kv_pairs {σ : L2.St} : ∀ {kvs : List (Key × D)} {H : Hp} {Q : List (V × V) → Hp → Prop}, Q (kvs.map fun kv => (kV kv.1, dV kv.2)) H → tPairs (kvT kvs) σ H Q
  | [], _, _, h => h
  | kv :: r, H, Q, h => kv_pairs (kvs := r) (Q := fun ps H3 => Q ((kV kv.1, dV kv.2) :: ps) H3) h
theorem merge_nodup : ∀ {l acc : List (Key × V)}, ((acc ++ l).map (·.1)).Nodup → mergeK acc l = acc ++ l
  | [], acc, _ => by simp [mergeK]
  | p :: r, acc, h => by
    have hn : (acc.any fun kv => decide (kv.1 = p.1)) = false := by
      rw [List.any_eq_false]
      intro q hq z
      have e := of_decide_eq_true z
      rw [List.map_append, List.nodup_append] at h
      exact h.2.2 q.1 (List.mem_map_of_mem hq) p.1 (by simp) e
    have e : putK acc p.1 p.2 = acc ++ [p] := by unfold putK; rw [hn]; rfl
    show mergeK (putK acc p.1 p.2) r = _
    rw [e, merge_nodup (by simpa using h)]
    simp
def gDlit (kvs : List (Key × D)) : M T := ret (.dct (kvs.map fun kv => (kv.1, .leaf kv.2)))
theorem new_dct {K : PySem.W.Frag} {J : Addr → Prop} {H : Hp} {p : Addr} {vs : List (Key × V)} {ts : List (Key × T)} (hp : H p = none) (jd : ∀ a, J a → H a ≠ none) (r : RTk K J (upd H p (.dK vs)) vs ts []) : New K J H J (upd H p (.dK vs)) (.ref p) (.dct ts) [p] where
  rt := .dct upd_same r
  nd := by simp
  fr := fun a ha => by
    simp only [List.mem_cons, List.not_mem_nil, or_false] at ha
    subst ha
    exact ⟨hp, fun j => jd _ j hp⟩
  keep := fun b o q => by rw [upd_ne (fun z => by subst z; rw [hp] at q; cases q)]; exact q
  jj := fun _ j => j
  jnew := fun _ j => .inl j
  jd := fun b j => by
    by_cases hb : b = p
    · subst hb; rw [upd_same]; exact fun z => nomatch z
    · rw [upd_ne hb]; exact jd b j
theorem ie_dlit {kvs : List (Key × D)} {ks : List (Option Expr)} {vs : List Expr} (h : chkKvs kvs ks vs = true) (h15 : kvs.length ≤ 15) (hn : (kvs.map (·.1)).Nodup) : IE X pn (.Dict ks vs pos) (gDlit kvs) := by
  obtain ⟨q1, q2, q3, q4, q5⟩ := chk_pps (X := X) (pos := pos) h
  refine ie_mk ?_
  cases kvs with
  | nil =>
    have e1 : ks = [] := by cases ks with | nil => rfl | cons _ _ => simp at q4
    subst e1
    have e2 : vs = [] := by cases vs with | nil => rfl | cons _ _ => simp at q3
    subst e2
    refine PE.weak pe_dnewK fun σ H Q ⟨e, J, F, s, t, e', h, q⟩ => ?_
    cases h
    intro p hp
    obtain ⟨s1, o1, tr1⟩ := (new_dct (ts := []) hp s.jd .nil).sr s
    exact q _ _ J F [p] s1 o1 tr1
  | cons kv r =>
    refine PE.weak (pe_disp q1 q2 q3 (fun z => by rw [z] at q4; simp at q4) (by omega)) fun σ H Q ⟨e, J, F, s, t, e', h, q⟩ => ?_
    cases h
    intro p hp
    refine kv_pairs ⟨upd_same, (kv :: r).map fun kv => (kv.1, dV kv.2), by simp, by simpa using h15, ?_⟩
    rw [merge_nodup (by rw [List.nil_append, List.map_map]; exact hn), List.nil_append]
    have hu : ∀ (x y : HO), upd (upd H p x) p y = upd H p y := fun x y => by
      funext b
      by_cases hb : b = p
      · subst hb; rw [upd_same, upd_same]
      · rw [upd_ne hb, upd_ne hb, upd_ne hb]
    rw [hu]
    obtain ⟨s1, o1, tr1⟩ := (new_dct hp s.jd q5).sr s
    exact q _ _ J F [p] s1 o1 tr1
end
end IL

namespace IL
open PySem PySem.Spec PyProof.Rows L2

/-! ### the written programs, without places -/
inductive Bop where
  | add | sub | mul | fdv | mod | pow | rep
  deriving DecidableEq
def Bop.o : Bop → Operator
  | .add => .Add | .sub => .Sub | .mul => .Mult | .fdv => .FloorDiv | .mod => .Mod | .pow => .Pow | .rep => .Mult
def Bop.d : Bop → D → D → Option T
  | .add => addD | .sub => subD | .mul => mulD | .fdv => fdvD | .mod => modD | .pow => powD | .rep => repD
inductive Cop where
  | eq | ne | lt | le | gt | ge | is | isnt | in | nin
  deriving DecidableEq
def Cop.o : Cop → CmpOp
  | .eq => .Eq | .ne => .NotEq | .lt => .Lt | .le => .LtE | .gt => .Gt | .ge => .GtE | .is => .Is | .isnt => .IsNot | .in => .In | .nin => .NotIn
def Cop.d : Cop → D → D → Option T
  | .eq => eqD | .ne => neD | .lt => ltD | .le => leD | .gt => gtD | .ge => geD | .is => isD | .isnt => isntD | .in => inD | .nin => ninD
inductive Bif where
  | len | abs | list | tuple | all | any | sum | max | min | repr | str | int | maxL | minL
  deriving DecidableEq
def Bif.nm : Bif → Str
  | .len => "len" | .abs => "abs" | .list => "list" | .tuple => "tuple" | .all => "all" | .any => "any" | .sum => "sum" | .max => "max" | .min => "min" | .repr => "repr" | .str => "str" | .int => "int" | .maxL => "max" | .minL => "min"
def Bif.d : Bif → List D → Option T
  | .len => lenD | .abs => absD | .list => listD | .tuple => tupleD | .all => allD | .any => anyD | .sum => sumD | .max => max2D | .min => min2D | .repr => reprD | .str => strOfD | .int => intOfD | .maxL => maxLD | .minL => minLD
mutual
inductive C where
  | var (i : Nat)
  | int (n : Int)
  | str (s : Str)
  | bl (b : Bool)
  | non
  | glb (x : Str)
  | bin (op : Bop) (a b : C)
  | neg (a : C)
  | cmp (op : Cop) (a b : C)
  | vcmp (op : Cop) (i : Nat) (b : C)
  | cinv (op : Cop) (a : C) (i : Nat)
  | vlen (i : Nat)
  | chain (op op' : Cop) (a b c : C)
  | and (a b : C)
  | or (a b : C)
  | not (a : C)
  | ite (c a b : C)
  | ix (a b : C)
  | vix (i : Nat) (b : C)
  | sl (a : C) (lo hi : Co)
  | tup (cs : Cs)
  | lst (cs : Cs)
  | call (f : Str) (cs : Cs)
  | bif (b : Bif) (cs : Cs)
  | isi (t : Ty) (a : C)
  | comp (vs : List Nat) (tg : Tg) (it : It2) (t : Co) (el : C)
  | push (i : Nat) (a : C)
  | cnt (a b : C)
  | lrg (a b : C)
  | inr (a b : C)
  | join (s : Str) (a : C)
  | rev (a : C)
  | pop (i : Nat) (k : C)
  | ext (i : Nat) (a : C)
  | din (neg : Bool) (a : C) (i : Nat)
  | dix (i : Nat) (k : C)
  | dlit (kvs : List (Key × D))
inductive Co where
  | no
  | so (c : C)
inductive Cs where
  | nil
  | val (c : C) (r : Cs)
  | own (c : C) (r : Cs)
  | lend (i : Nat) (r : Cs)
  | lendL (i : Nat) (r : Cs)
inductive Tg where
  | nm (i : Nat)
  | tp (ts : Tgs)
  | tps (ts : Tgs)
  | sub (i : Nat) (k : C)
inductive Tgs where
  | nil
  | cons (t : Tg) (r : Tgs)
  | star (i : Nat)
inductive It2 where
  | seq (c : C)
  | rng1 (c : Cs)
  | rng2 (c : Cs)
  | zip (c : Cs)
  | enm (c : Cs)
end
mutual
inductive S where
  | set (i : Nat) (c : C)
  | fed (i : Nat) (f : Str)
  | asg (t : Tg) (c : C)
  | dput (i : Nat) (k c : C)
  | par (i j : Nat) (cs : Cs)
  | ret (c : C)
  | retN
  | exp (c : C)
  | ifs (c : C) (a b : Ss)
  | whl (n : Nat) (c : C) (b : Ss)
  | fore (t : Tg) (it : It2) (b : Ss)
  | brk
  | cnt
  | pass
inductive Ss where
  | nil
  | cons (s : S) (r : Ss)
end
/-- what stands around: the defs, the module's constants, what the law is fed -/
structure Fe where
  np : Nat
  lent : List Nat
  sem : FSem
structure Wd where
  fn : Str → Option Fe
  glb : Str → Option D
  feed : Option T := none

/-! ### what they tell -/
def gGlb (o : Option D) : M D := opt o
def gNeg (f : M D) : M T := bnd f fun d => match d with
  | .int i => ret (.leaf (.int (-i)))
  | _ => bad
/-- a name's value looked at, as it is then -/
def onlyB (o : Option T) : Option T := match o with
  | some (.leaf (.bool b)) => some (.leaf (.bool b))
  | _ => none
def gVcmp (g : D → D → Option T) (i : Nat) (fb : M D) : M T := bnd (held i) fun _ => bnd fb fun y => peek i fun t => onlyB (g (frz t) y)
def gCinv (g : D → D → Option T) (f : M D) (i : Nat) : M T := bnd f fun y => peek i fun t => onlyB (g y (frz t))
def onlyI (o : Option T) : Option T := match o with
  | some (.leaf (.int n)) => some (.leaf (.int n))
  | _ => none
def gVlen (i : Nat) : M T := peek i fun t => onlyI (lenD [frz t])
def lens : Cs → List (Option Nat)
  | .nil => []
  | .val _ r => none :: lens r
  | .own _ r => none :: lens r
  | .lend i r => some i :: lens r
  | .lendL i r => some i :: lens r
mutual
def evC (W : Wd) : C → M T
  | .var i => lf (gVar i)
  | .int n => lf (ret (.int n))
  | .str s => lf (ret (.str s))
  | .bl b => lf (ret (.bool b))
  | .non => lf (ret .none)
  | .glb x => lf (gGlb (W.glb x))
  | .bin op a b => gBin op.d (fz (evC W a)) (fz (evC W b))
  | .neg a => gNeg (fz (evC W a))
  | .cmp op a b => gBin op.d (fz (evC W a)) (fz (evC W b))
  | .vcmp op i b => gVcmp op.d i (fz (evC W b))
  | .cinv op a i => gCinv op.d (fz (evC W a)) i
  | .vlen i => gVlen i
  | .chain op op' a b c => gChain op.d op'.d (fz (evC W a)) (fz (evC W b)) (fz (evC W c))
  | .and a b => gAnd (evC W a) (evC W b)
  | .or a b => gOr (evC W a) (evC W b)
  | .not a => gNot (evC W a)
  | .ite c a b => cond (tst (evC W c)) (evC W a) (evC W b)
  | .ix a b => lf (gIx (fz (evC W a)) (fz (evC W b)))
  | .vix i b => lf (gVix i (fz (evC W b)))
  | .sl a lo hi => gSl (fz (evC W a)) (evO W lo) (evO W hi)
  | .tup cs => gTup (evCs W cs)
  | .lst cs => gLst (evCs W cs)
  | .call f cs => (match W.fn f with
    | some fe => if (lens cs).length = fe.np then gCallF fe.sem fe.lent (lens cs) (evCs W cs) else bad
    | none => bad)
  | .bif b cs => gCall b.d (fzs (evCs W cs))
  | .isi t a => isiG t (fz (evC W a))
  | .comp vs tg it t el => bnd (evI W it) fun ds => gLc vs (evTg W tg) (evCond W t) (fz (evC W el)) ds []
  | .push i a => gPush i (evC W a)
  | .cnt a b => gBin cntD (fz (evC W a)) (fz (evC W b))
  | .lrg a b => gBin lrgD (fz (evC W a)) (fz (evC W b))
  | .inr a b => gBin inrD (fz (evC W a)) (fz (evC W b))
  | .join s a => gBin joinD (IL.ret (.str s)) (fz (evC W a))
  | .rev a => gRev (fz (evC W a))
  | .pop i k => gPop i (fz (evC W k))
  | .ext i a => gExt i (fz (evC W a))
  | .din neg a i => gDin neg (fz (evC W a)) i
  | .dix i k => lf (gDix i (fz (evC W k)))
  | .dlit kvs => gDlit kvs
def evO (W : Wd) : Co → M (Option Int)
  | .no => ret none
  | .so c => gPart (fz (evC W c))
def evCond (W : Wd) : Co → M Bool
  | .no => ret true
  | .so c => tst (evC W c)
def evCs (W : Wd) : Cs → M (List T)
  | .nil => ret []
  | .val c r => consM (lf (fz (evC W c))) (evCs W r)
  | .own c r => consM (evC W c) (evCs W r)
  | .lend i r => consM (gTake i) (evCs W r)
  | .lendL i r => consL i (evCs W r)
def evTg (W : Wd) : Tg → D → M Unit
  | .nm i => fun d => store i (.leaf d)
  | .tp ts => unT (tgN ts) (evTgs W ts)
  | .tps ts => unS (tgN ts - 1) (evTgs W ts)
  | .sub i k => gPut i (fz (evC W k))
def evTgs (W : Wd) : Tgs → List D → M Unit
  | .nil => fun ds => match ds with
    | [] => ret ()
    | _ => bad
  | .cons t r => consG (evTg W t) (evTgs W r)
  | .star i => consG (fun d => store i (.leaf d)) fun ds => match ds with
    | [] => ret ()
    | _ => bad
def tgN : Tgs → Nat
  | .nil => 0
  | .cons _ r => tgN r + 1
  | .star _ => 1
def evI (W : Wd) : It2 → M (List D)
  | .seq c => gItr (fz (evC W c))
  | .rng1 cs => gRng rng1 (fzs (evCs W cs))
  | .rng2 cs => gRng rng2 (fzs (evCs W cs))
  | .zip cs => gRng zip2 (fzs (evCs W cs))
  | .enm cs => gRng enum1 (fzs (evCs W cs))
end
mutual
def evS (W : Wd) : S → M Fl
  | .set i c => gSet i (evC W c)
  | .fed i _ => (match W.feed with
    | some t => gSet i (ret t)
    | none => bad)
  | .asg t c => gAsg (fz (evC W c)) (evTg W t)
  | .dput i k c => gDput i (fz (evC W k)) (fz (evC W c))
  | .par i j cs => gPar i j (evCs W cs)
  | .ret c => gRet (evC W c)
  | .retN => ret (.rt (.leaf .none))
  | .exp c => gExp (evC W c)
  | .ifs c a b => gIfS (tst (evC W c)) (evSs W a) (evSs W b)
  | .whl n c b => gWhile n (tst (evC W c)) (evSs W b)
  | .fore t it b => bnd (evI W it) (gFor (evTg W t) (evSs W b))
  | .brk => ret .bk
  | .cnt => ret .ct
  | .pass => ret .nx
def evSs (W : Wd) : Ss → M Fl
  | .nil => ret .nx
  | .cons s r => gSeq (evS W s) (evSs W r)
end
end IL

namespace IL
open PySem PySem.Spec PyProof.Rows L2

/-! ### does a text say what a written program says -/
def nmOk (x : Str) : Bool := !(x == ("__debug__" : Str)) && !(x == ("__classdict__" : Str))
def visB (sc : Scope) (x : Str) : Bool := match sc.names.lookup x with
  | some .local => true
  | some .cell => true
  | some .free => true
  | _ => false
def gloB (sc : Scope) (x : Str) : Bool := match sc.names.lookup x with
  | some .globalImplicit => true
  | _ => false
def isNm (N : List Str) (sc : Scope) (i : Nat) : Expr → Bool
  | .Name x _ => decide (N[i]? = some x) && visB sc x && nmOk x
  | _ => false
def isGl (sc : Scope) (x : Str) : Expr → Bool
  | .Name y _ => decide (y = x) && gloB sc x && nmOk x
  | _ => false
def one (e : Expr) : Expr := match e with
  | .BoolOp _ [y] _ => if notIf y then y else e
  | _ => e
def starT : Tgs → Bool
  | .nil => false
  | .cons _ r => starT r
  | .star _ => true
mutual
def chkC (N : List Str) (L : List Nat) (sc : Scope) : C → Expr → Bool
  | .var i, e => isNm N sc i e
  | .int n, e => (match e with
    | .Constant (.int m) _ _ => decide (m = n)
    | _ => false)
  | .str s, e => (match e with
    | .Constant (.str m) _ _ => decide (m = s)
    | _ => false)
  | .bl s, e => (match e with
    | .Constant (.bool m) _ _ => decide (m = s)
    | _ => false)
  | .non, e => (match e with
    | .Constant .none _ _ => true
    | _ => false)
  | .glb x, e => isGl sc x e
  | .bin op a b, e => (match e with
    | .BinOp ea o eb _ => decide (o = op.o) && chkC N L sc a ea && chkC N L sc b eb
    | _ => false)
  | .neg a, e => (match e with
    | .UnaryOp .USub ea _ => chkC N L sc a ea
    | _ => false)
  | .cmp op a b, e => (match e with
    | .Compare ea [o] [eb] _ => decide (o = op.o) && chkC N L sc a ea && chkC N L sc b eb && !behindInMarks o eb
    | _ => false)
  | .vcmp op i b, e => (match e with
    | .Compare ea [o] [eb] _ => decide (o = op.o) && isNm N sc i ea && chkC N L sc b eb && !behindInMarks o eb
    | _ => false)
  | .cinv op a i, e => (match e with
    | .Compare ea [o] [eb] _ => decide (o = op.o) && chkC N L sc a ea && isNm N sc i eb && !behindInMarks o eb
    | _ => false)
  | .vlen i, e => (match e with
    | .Call g [ea] [] _ => isGl sc "len" g && isNm N sc i ea
    | _ => false)
  | .chain op op' a b c, e => (match e with
    | .Compare ea [o, o'] [eb, ec] _ => decide (o = op.o) && decide (o' = op'.o) && chkC N L sc a ea && chkC N L sc b eb && chkC N L sc c ec && !lastMarks [o, o'] [eb, ec]
    | _ => false)
  | .and a b, e => (match e with
    | .BoolOp .And (x :: y :: r) p => chkC N L sc a x && notIf x && chkC N L sc b (one (.BoolOp .And (y :: r) p))
    | _ => false)
  | .or a b, e => (match e with
    | .BoolOp .Or (x :: y :: r) p => chkC N L sc a x && notIf x && chkC N L sc b (one (.BoolOp .Or (y :: r) p))
    | _ => false)
  | .not a, e => (match e with
    | .UnaryOp .Not ea _ => chkC N L sc a ea && notIf ea
    | _ => false)
  | .ite c a b, e => (match e with
    | .IfExp ec ea eb _ => chkC N L sc c ec && notIf ec && chkC N L sc a ea && chkC N L sc b eb
    | _ => false)
  | .ix a b, e => (match e with
    | .Subscript ea eb _ => chkC N L sc a ea && chkC N L sc b eb && isPlain eb
    | _ => false)
  | .vix i b, e => (match e with
    | .Subscript ea eb _ => isNm N sc i ea && chkC N L sc b eb && isPlain eb
    | _ => false)
  | .sl a lo hi, e => (match e with
    | .Subscript ea (.Slice l h none _) _ => chkC N L sc a ea && chkO N L sc lo l && chkO N L sc hi h
    | _ => false)
  | .tup cs, e => (match e with
    | .Tuple es _ _ => chkCs N L sc cs es
    | _ => false)
  | .lst cs, e => (match e with
    | .List es _ => chkCs N L sc cs es
    | _ => false)
  | .call f cs, e => (match e with
    | .Call g es [] _ => isGl sc f g && chkCs N L sc cs es
    | _ => false)
  | .bif b cs, e => (match e with
    | .Call g (a :: es) [] _ => isGl sc b.nm g && chkCs N L sc cs (a :: es)
    | _ => false)
  | .isi t a, e => (match e with
    | .Call g [ea, h] [] _ => isGl sc "isinstance" g && chkC N L sc a ea && isGl sc t.nmS h
    | _ => false)
  | .comp vs tg it t el, e => (match e with
    | .ListComp elt [⟨etg, iter, ifs, 0⟩] scope _ =>
      decide ((vs.filterMap fun i => N[i]?.map fun x => (x, i)).map (·.2) = vs) && blkC N sc scope (vs.filterMap fun i => N[i]?.map fun x => (x, i)) && (vs.all fun i => !L.contains i) &&
      chkI N L sc it etg iter && chkTg N L (relS scope sc) true vs tg etg && chkIf N L (relS scope sc) t ifs && chkC N L (relS scope sc) el elt
    | _ => false)
  | .push i a, e => (match e with
    | .Call (.Attribute o at' apos) [ea] [] pos => decide (at' = ("append" : Str)) && isNm N sc i o && chkC N L sc a ea && (apos.endLine == pos.line)
    | _ => false)
  | .cnt a b, e => (match e with
    | .Call (.Attribute (.List es lp) at' apos) [eb] [] pos => decide (at' = ("count" : Str)) && chkC N L sc a (.List es lp) && chkC N L sc b eb && (apos.endLine == pos.line)
    | _ => false)
  | .lrg a b, e => (match e with
    | .Call g [.Call g2 [ea, eb] [] _] [] _ => isGl sc "list" g && isGl sc "range" g2 && chkC N L sc a ea && chkC N L sc b eb
    | _ => false)
  | .inr a b, e => (match e with
    | .Compare ea [.In] [.Call g [eb] [] p] _ => isGl sc "range" g && chkC N L sc a ea && chkC N L sc b eb && !behindInMarks .In (.Call g [eb] [] p)
    | _ => false)
  | .join s a, e => (match e with
    | .Call (.Attribute (.Constant (.str m) k p) at' apos) [ea] [] pos => decide (at' = ("join" : Str)) && decide (m = s) && chkC N L sc a ea && (apos.endLine == pos.line)
    | _ => false)
  | .rev a, e => (match e with
    | .Subscript ea (.Slice none none (some (.UnaryOp .USub (.Constant (.int 1) _ _) _)) _) _ => chkC N L sc a ea
    | _ => false)
  | .pop i a, e => (match e with
    | .Call (.Attribute o at' apos) [ea] [] pos => decide (at' = ("pop" : Str)) && isNm N sc i o && chkC N L sc a ea && (apos.endLine == pos.line)
    | _ => false)
  | .ext i a, e => (match e with
    | .Call (.Attribute o at' apos) [ea] [] pos => decide (at' = ("extend" : Str)) && isNm N sc i o && chkC N L sc a ea && (apos.endLine == pos.line)
    | _ => false)
  | .din neg a i, e => (match e with
    | .Compare ea [o] [eb] _ => decide (o = if neg then .NotIn else .In) && chkC N L sc a ea && isNm N sc i eb && !behindInMarks o eb
    | _ => false)
  | .dix i b, e => (match e with
    | .Subscript ea eb _ => isNm N sc i ea && chkC N L sc b eb && isPlain eb
    | _ => false)
  | .dlit kvs, e => (match e with
    | .Dict ks vs _ => chkKvs kvs ks vs && decide (kvs.length ≤ 15) && decide ((kvs.map (·.1)).Nodup)
    | _ => false)
def chkO (N : List Str) (L : List Nat) (sc : Scope) : Co → Option Expr → Bool
  | .no, e => (match e with
    | none => true
    | _ => false)
  | .so c, e => (match e with
    | some ec => chkC N L sc c ec
    | _ => false)
def chkIf (N : List Str) (L : List Nat) (sc : Scope) : Co → List Expr → Bool
  | .no, e => (match e with
    | [] => true
    | _ => false)
  | .so c, e => (match e with
    | [ec] => chkC N L sc c ec && notIf ec
    | _ => false)
def chkCs (N : List Str) (L : List Nat) (sc : Scope) : Cs → List Expr → Bool
  | .nil, es => (match es with
    | [] => true
    | _ => false)
  | .val c r, es => (match es with
    | e :: es => chkC N L sc c e && chkCs N L sc r es
    | _ => false)
  | .own c r, es => (match es with
    | e :: es => chkC N L sc c e && chkCs N L sc r es
    | _ => false)
  | .lend i r, es => (match es with
    | e :: es => isNm N sc i e && chkCs N L sc r es
    | _ => false)
  | .lendL i r, es => (match es with
    | e :: es => isNm N sc i e && chkCs N L sc r es
    | _ => false)
def chkTg (N : List Str) (L : List Nat) (sc : Scope) (blk : Bool) (vs : List Nat) : Tg → Expr → Bool
  | .nm i, e => (match e with
    | .Name x _ => decide (N[i]? = some x) && (decide (sc.names.lookup x = some .local) || (!blk && decide (sc.names.lookup x = some .cell))) && !L.contains i && (!blk || vs.contains i)
    | _ => false)
  | .tp ts, e => (match e with
    | .Tuple es _ _ => chkTgs N L sc blk vs ts es && !starT ts
    | _ => false)
  | .tps ts, e => (match e with
    | .Tuple es _ _ => chkTgs N L sc blk vs ts es && starT ts
    | _ => false)
  | .sub i k, e => (match e with
    | .Subscript a b _ => isNm N sc i a && chkC N L sc k b && isPlain b
    | _ => false)
def chkTgs (N : List Str) (L : List Nat) (sc : Scope) (blk : Bool) (vs : List Nat) : Tgs → List Expr → Bool
  | .nil, es => (match es with
    | [] => true
    | _ => false)
  | .cons t r, es => (match es with
    | e :: es => chkTg N L sc blk vs t e && chkTgs N L sc blk vs r es
    | _ => false)
  | .star i, es => (match es with
    | [.Starred (.Name x _) _] => decide (N[i]? = some x) && (decide (sc.names.lookup x = some .local) || (!blk && decide (sc.names.lookup x = some .cell))) && !L.contains i && (!blk || vs.contains i)
    | _ => false)
def chkI (N : List Str) (L : List Nat) (sc : Scope) : It2 → Expr → Expr → Bool
  | .seq c, _, e => chkC N L sc c e && (match e with
    | .Set .. => false
    | _ => true)
  | .rng1 cs, _, e => (match e with
    | .Call g [a] [] _ => isGl sc "range" g && chkCs N L sc cs [a] && nstar a
    | _ => false)
  | .rng2 cs, _, e => (match e with
    | .Call g [a, b] [] _ => isGl sc "range" g && chkCs N L sc cs [a, b] && nstar a && nstar b
    | _ => false)
  | .zip cs, tg, e => (match tg, e with
    | .Tuple .., .Call g [a, b] [] _ => isGl sc "zip" g && chkCs N L sc cs [a, b] && nstar a && nstar b
    | _, _ => false)
  | .enm cs, tg, e => (match tg, e with
    | .Tuple .., .Call g [a] [] _ => isGl sc "enumerate" g && chkCs N L sc cs [a] && nstar a
    | _, _ => false)
end
def notComp : Expr → Bool
  | .ListComp .. => false
  | .SetComp .. => false
  | .DictComp .. => false
  | _ => true
/-- a display to names would be stored the other way round -/
def fairTo (a b : Expr) : Bool := match b with
  | .Tuple .. => (match a with
    | .Tuple [.Subscript .., .Subscript ..] _ _ => true
    | .Tuple [.Tuple .., .Tuple ..] _ _ => true
    | .Subscript .. => true
    | _ => false)
  | _ => (match a with
    | .Tuple .. => true
    | .Subscript .. => true
    | _ => false)
mutual
def chkS (N : List Str) (L : List Nat) (sc : Scope) : S → Stmt → Bool
  | .set i c, st => (match st with
    | .Assign [.Name x px] e p => decide (N[i]? = some x) && !L.contains i && chkC N L sc c e &&
      (if notComp e then decide (sc.names.lookup x = some .local) || decide (sc.names.lookup x = some .cell)
       else (match e with
        | .ListComp _ [⟨_, _, _, 0⟩] scope q => (decide (sc.names.lookup x = some .local) && (px.line == q.line) && !(scope.names.any fun (n, k) => n == x && (k == .local || k == .cell))) || decide (sc.names.lookup x = some .cell)
        | _ => false))
    | _ => false)
  | .fed i f, st => (match st with
    | .Assign [.Name x px] (.Call g [h] [] _) p => decide (N[i]? = some x) && !L.contains i && isGl sc f g && isNm N sc 0 h && (decide (sc.names.lookup x = some .local) || decide (sc.names.lookup x = some .cell))
    | _ => false)
  | .asg t c, st => (match st with
    | .Assign [a] e _ => chkTg N L sc false [] t a && chkC N L sc c e && fairTo a e
    | _ => false)
  | .dput i k c, st => (match st with
    | .Assign [.Subscript a b _] e _ => isNm N sc i a && chkC N L sc k b && isPlain b && chkC N L sc c e && notComp e
    | _ => false)
  | .par i j cs, st => (match st with
    | .Assign [.Tuple [.Name x px, .Name y py] _ _] (.Tuple [a, b] _ _) _ => decide (N[i]? = some x) && decide (N[j]? = some y) && decide (i ≠ j) && decide (sc.names.lookup x = some .local) && decide (sc.names.lookup y = some .local) && !L.contains i && !L.contains j &&
      chkCs N L sc cs [a, b] && nstar a && nstar b && (px.line == py.line) && !([a, b].all (foldedForSure 8)) && !([a, b].all (constantsAlone 8)) && decide (x ≠ y)
    | _ => false)
  | .ret c, st => (match st with
    | .Return (some e) _ => chkC N L sc c e
    | _ => false)
  | .retN, st => (match st with
    | .Return none _ => true
    | _ => false)
  | .exp c, st => (match st with
    | .Expr e _ => chkC N L sc c e && notComp e
    | _ => false)
  | .ifs c a b, st => (match st with
    | .If e sa sb _ => chkC N L sc c e && notIf e && chkSs N L sc a sa && chkSs N L sc b sb
    | _ => false)
  | .whl _ c b, st => (match st with
    | .While e sb [] _ => chkC N L sc c e && notIf e && chkSs N L sc b sb
    | _ => false)
  | .fore t it b, st => (match st with
    | .For a e sb [] _ => chkTg N L sc false [] t a && chkI N L sc it a e && chkSs N L sc b sb
    | _ => false)
  | .brk, st => (match st with
    | .Break _ => true
    | _ => false)
  | .cnt, st => (match st with
    | .Continue _ => true
    | _ => false)
  | .pass, st => (match st with
    | .Pass _ => true
    | _ => false)
def chkSs (N : List Str) (L : List Nat) (sc : Scope) : Ss → List Stmt → Bool
  | .nil, sts => (match sts with
    | [] => true
    | _ => false)
  | .cons s r, sts => (match sts with
    | st :: sts => chkS N L sc s st && chkSs N L sc r sts
    | _ => false)
end
end IL

namespace IL
open PySem PySem.Spec PyProof.Rows L2

def bltNames : List Str := ["len", "abs", "list", "tuple", "all", "any", "sum", "max", "min", "repr", "isinstance", "int", "bool", "str", "dict", "range", "zip", "enumerate"]
structure GX (X : Cx) (W : Wd) (N : List Str) (sc : Scope) (L : List Nat) (pn : List (Nat × V)) (blk : Bool) : Prop where
  calm : X.calm = true
  xe : X.xe = fun _ _ => False
  hN : X.N = N
  nd : N.Nodup
  hsc : X.env.scope = sc
  kd : sc.kind = .function
  units : X.A.units + 66 < cLine
  gd : X.A.guards = some []
  blt : ∀ x ∈ bltNames, X.mg x = none
  fn : ∀ x fe, W.fn x = some fe → ∃ k f fd ps, FnG X.prog X.w X.K X.mg X.base CX0 k f fd ps (spG X.K fe.np fe.lent fe.sem) ∧ Room k X.A ∧ X.mg x = some (.ref f) ∧ PySem.W.keepIn X.K (.ref f) = true ∧ Binds X.K fd ps []
  glb : ∀ x d, W.glb x = some d → ∃ v u, X.mg x = some u ∧ RelV v u ∧ ∀ J H, RD X.K J H v d
  feed : blk = false → ∀ t, W.feed = some t → ∀ f g h pos, isGl sc f g = true → isNm N sc 0 h = true → PE X (.Call g [h] [] pos) (rdE X.K pn (ret t))
  pin : ∀ p ∈ pn, p.1 ∈ L
  fnl : blk = false → ∀ x, X.fn x = true
section
variable {X : Cx} {W : Wd} {N : List Str} {sc : Scope} {L : List Nat} {pn : List (Nat × V)} {blk : Bool}
theorem ie_bad {e : Expr} (h : nstar e = true) : IE X pn e bad :=
  ⟨⟨fun pins s σ H Q I ⟨e, J, F, s', t, e', h, q⟩ => by cases h⟩, fun _ => ⟨fun pins s σ H Q I ⟨e, J, F, s', t, e', h, q⟩ => by cases h⟩, h⟩
theorem nmOk_d {x : Str} (h : nmOk x = true) : (x == ("__debug__" : Str)) = false ∧ (x == ("__classdict__" : Str)) = false := by
  unfold nmOk at h
  simp only [Bool.and_eq_true, Bool.not_eq_true'] at h
  exact h
theorem visB_vis {x : Str} (h : visB sc x = true) : Vis sc x := by
  unfold visB at h
  split at h
  · exact .inl (by assumption)
  · exact .inr (.inl (by assumption))
  · exact .inr (.inr (by assumption))
  · cases h
theorem nm_var (g : GX X W N sc L pn blk) {i : Nat} {e : Expr} (h : isNm N sc i e = true) : ∃ x p, e = .Name x p ∧ PE X e (tVar i) := by
  unfold isNm at h
  split at h
  · rename_i x p
    simp only [Bool.and_eq_true, decide_eq_true_eq] at h
    obtain ⟨⟨h1, h2⟩, h3⟩ := h
    obtain ⟨d1, d2⟩ := nmOk_d h3
    refine ⟨x, p, rfl, pe_var (by rw [g.hN]; exact h1) ?_ d1 d2⟩
    rw [g.hsc]
    exact visB_vis h2
  · cases h
theorem gl_name (g : GX X W N sc L pn blk) {x : Str} {e : Expr} (h : isGl sc x e = true) : ∃ p, e = .Name x p ∧ Gl X x ∧ (x == ("__debug__" : Str)) = false := by
  unfold isGl at h
  split at h
  · rename_i y p
    simp only [Bool.and_eq_true, decide_eq_true_eq] at h
    obtain ⟨⟨rfl, h2⟩, h3⟩ := h
    refine ⟨p, rfl, ?_, (nmOk_d h3).1⟩
    unfold gloB at h2
    split at h2
    · show X.env.scope.names.lookup y = _
      rw [g.hsc]
      assumption
    · cases h2
  · cases h
theorem ie_of_one {e : Expr} {f : M T} (h : IE X pn (one e) f) : IE X pn e f := by
  unfold one at h
  split at h
  · rename_i op y p
    split at h
    · exact ie_one h (by assumption)
    · exact h
  · exact h
theorem bif_mem (b : Bif) : b.nm ∈ bltNames := by cases b <;> simp [Bif.nm, bltNames]
theorem ie_bif (g : GX X W N sc L pn blk) {b : Bif} {p pos : Pos} {a : Expr} {es : List Expr} {f : M (List T)} (hg : Gl X b.nm) (hdb : (b.nm == ("__debug__" : Str)) = false) (hs : starEach (a :: es) X.env = (false, eval a X.env) :: starEach es X.env) (hpl : (backTo pos (starEach es X.env)).any (·.1) = false)
    (h : PA X (a :: es) (rdEs X.K pn f)) : IE X pn (.Call (.Name b.nm p) (a :: es) [] pos) (gCall b.d (fzs f)) := by
  have hm : X.mg b.nm = none := g.blt _ (bif_mem b)
  have fin : ∀ {id : String}, bootBuiltins b.nm = some (.builtin id) → CallS X (.builtin id) b.d → b.nm ≠ "__name__" → IE X pn (.Call (.Name b.nm p) (a :: es) [] pos) (gCall b.d (fzs f)) := fun hv ⟨r, h1, h2⟩ hn =>
    ie_mk (PE.weak (pe_callB h1 hg hm hv (pa_fzs h) hn hdb hs hpl) fun σ H Q q => tCB_rd h2 q)
  have finT : ∀ {id : String}, bootBuiltins b.nm = some (.type id) → CallS X (.type id) b.d → b.nm ≠ "__name__" → IE X pn (.Call (.Name b.nm p) (a :: es) [] pos) (gCall b.d (fzs f)) := fun hv ⟨r, h1, h2⟩ hn =>
    ie_mk (PE.weak (pe_callTy h1 hg hm hv (pa_fzs h) hn hdb hs hpl) fun σ H Q q => tCB_rd h2 q)
  cases b with
  | len => exact fin (by decide +kernel) cs_len (by decide)
  | abs => exact fin (by decide +kernel) cs_abs (by decide)
  | list => exact finT (by decide +kernel) cs_list (by decide)
  | tuple => exact finT (by decide +kernel) cs_tuple (by decide)
  | all => exact fin (by decide +kernel) (cs_all g.calm) (by decide)
  | any => exact fin (by decide +kernel) (cs_any g.calm) (by decide)
  | sum => exact fin (by decide +kernel) (cs_sum g.calm) (by decide)
  | max => exact fin (by decide +kernel) (cs_max2 g.calm) (by decide)
  | min => exact fin (by decide +kernel) (cs_min2 g.calm) (by decide)
  | repr => exact fin (by decide +kernel) (cs_repr g.units g.gd) (by decide)
  | str => exact finT (by decide +kernel) cs_str (by decide)
  | int => exact finT (by decide +kernel) cs_int (by decide)
  | maxL => exact fin (by decide +kernel) (cs_maxL g.calm) (by decide)
  | minL => exact fin (by decide +kernel) (cs_minL g.calm) (by decide)
theorem bop_ok (g : GX X W N sc L pn blk) (op : Bop) : OpS X (binaryOp op.o) op.d := by
  cases op with
  | add => exact os_add
  | sub => exact os_sub
  | mul => exact os_mul
  | fdv => exact os_fdv
  | mod => exact os_mod
  | pow => exact os_pow
  | rep => exact os_rep
theorem cop_ok (g : GX X W N sc L pn blk) (op : Cop) : OpS X (compareOp op.o) op.d := by
  have h1 : X.A.units + 64 < cLine := by have := g.units; omega
  have h2 : X.A.units + 65 < cLine := by have := g.units; omega
  cases op with
  | eq => exact os_eq h1
  | ne => exact os_ne h1
  | lt => exact os_lt
  | le => exact os_le
  | gt => exact os_gt
  | ge => exact os_ge
  | is => exact os_is
  | isnt => exact os_isnt
  | «in» => exact os_in h2
  | nin => exact os_notIn h2
theorem onlyB_some {o : Option T} {t : T} (h : onlyB o = some t) : ∃ b, o = some (.leaf (.bool b)) ∧ t = .leaf (.bool b) := by
  unfold onlyB at h
  split at h
  · cases h; exact ⟨_, rfl, rfl⟩
  · cases h
theorem vcmp_rd {i : Nat} {gg : D → D → Option T} {r : R2} (h2 : RuleD X r gg) {fb : M D} {σ : L2.St} {H : Hp} {Q : VK} (h : rdE X.K pn (gVcmp gg i fb) σ H Q) : tOp r (tVar i) (rdD X.K pn fb) σ H Q := by
  obtain ⟨e, J, F, s, t, e', h, q⟩ := h
  obtain ⟨_, e0, k1, k2⟩ := bnd_ok h
  obtain ⟨rfl, t0, h0⟩ := held_ok k1
  obtain ⟨y, e1, k3, k4⟩ := bnd_ok k2
  obtain ⟨rfl, x, hx, k5⟩ := peek_ok k4
  obtain ⟨b, k6, rfl⟩ := onlyB_some k5
  obtain ⟨v, fp0, hv, _⟩ := s.at h0
  refine ⟨v, hv, _, J, F, s, y, _, k3, fun u H2 J2 F2 s2 r2 tr2 => ?_⟩
  obtain ⟨v', fp, hv', rt⟩ := s2.at hx
  rw [hv] at hv'
  cases hv'
  have jd' : ∀ a, (J2 a ∨ a ∈ fp) → H2 a ≠ none := fun a z => by
    rcases z with z | z
    · exact s2.jd a z
    · exact RT.dom rt a z
  refine h2 (frz x) y _ k6 (fun a => J2 a ∨ a ∈ fp) H2 v u jd' (rt.frz (fun _ j => .inl j) fun _ z => .inr z) (r2.mono (fun _ j => .inl j) fun _ _ _ q => q) Q fun w H' J' fpw n => ?_
  have hrt := n.rt
  have e2 : w = .bl b := by
    cases hrt with
    | leaf r => cases r; rfl
  subst e2
  have dm : ∀ a, H2 a ≠ none → H' a ≠ none := fun a z => by
    cases q' : H2 a with
    | none => exact absurd q' z
    | some o => rw [n.keep a o q']; exact fun z => nomatch z
  have s3 : SR X.K pn σ H' _ J2 F2 := s2.step (fun _ j => j) (fun a o _ q => n.keep a o q) (fun a z => dm a (s2.jd a z)) s2.jf
  exact q _ H' J2 F2 [] s3 (own_leaf_bl s3.nd) (by
    rw [List.append_nil]
    exact tr2.trans ⟨fun a o q _ => n.keep a o q, dm, fun _ j => j, fun a z => .inl z, fun a z => .inl z⟩)
theorem cinv_rd {i : Nat} {gg : D → D → Option T} {r : R2} (h2 : RuleD X r gg) {fa : M D} {σ : L2.St} {H : Hp} {Q : VK} (h : rdE X.K pn (gCinv gg fa i) σ H Q) : tOp r (rdD X.K pn fa) (tVar i) σ H Q := by
  obtain ⟨e, J, F, s, t, e', h, q⟩ := h
  obtain ⟨y, e1, k3, k4⟩ := bnd_ok h
  obtain ⟨rfl, x, hx, k5⟩ := peek_ok k4
  obtain ⟨b, k6, rfl⟩ := onlyB_some k5
  refine ⟨e, J, F, s, y, _, k3, fun u H2 J2 F2 s2 r2 tr2 => ?_⟩
  obtain ⟨v, fp, hv, rt⟩ := s2.at hx
  refine ⟨v, hv, ?_⟩
  have jd' : ∀ a, (J2 a ∨ a ∈ fp) → H2 a ≠ none := fun a z => by
    rcases z with z | z
    · exact s2.jd a z
    · exact RT.dom rt a z
  refine h2 y (frz x) _ k6 (fun a => J2 a ∨ a ∈ fp) H2 u v jd' (r2.mono (fun _ j => .inl j) fun _ _ _ q => q) (rt.frz (fun _ j => .inl j) fun _ z => .inr z) Q fun w H' J' fpw n => ?_
  have hrt := n.rt
  have e2 : w = .bl b := by
    cases hrt with
    | leaf r => cases r; rfl
  subst e2
  have dm : ∀ a, H2 a ≠ none → H' a ≠ none := fun a z => by
    cases q' : H2 a with
    | none => exact absurd q' z
    | some o => rw [n.keep a o q']; exact fun z => nomatch z
  have s3 : SR X.K pn σ H' _ J2 F2 := s2.step (fun _ j => j) (fun a o _ q => n.keep a o q) (fun a z => dm a (s2.jd a z)) s2.jf
  exact q _ H' J2 F2 [] s3 (own_leaf_bl s3.nd) (by
    rw [List.append_nil]
    exact tr2.trans ⟨fun a o q _ => n.keep a o q, dm, fun _ j => j, fun a z => .inl z, fun a z => .inl z⟩)
theorem onlyI_some {o : Option T} {t : T} (h : onlyI o = some t) : ∃ b, o = some (.leaf (.int b)) ∧ t = .leaf (.int b) := by
  unfold onlyI at h
  split at h
  · cases h; exact ⟨_, rfl, rfl⟩
  · cases h
theorem ie_vlen {i : Nat} {a : Expr} {p pos : Pos} (hp : PE X a (tVar i)) (hn : nstar a = true) (hg : Gl X "len") (hm : X.mg "len" = none) : IE X pn (.Call (.Name "len" p) [a] [] pos) (gVlen i) := by
  obtain ⟨r, h1, h2⟩ := cs_len (X := X)
  have hs : starEach [a] X.env = (false, eval a X.env) :: starEach [] X.env := star_of hn [] X.env
  refine ie_mk (PE.weak (pe_callB h1 hg hm (by decide +kernel) (pa_cons hp pa_nil hs) (by decide) (by decide) hs rfl) fun σ H Q ⟨e, J, F, s, t, e', h, q⟩ => ?_)
  obtain ⟨rfl, x, hx, k5⟩ := peek_ok h
  obtain ⟨b, k6, rfl⟩ := onlyI_some k5
  obtain ⟨v, fp, hv, rt⟩ := s.at hx
  refine ⟨v, hv, ?_⟩
  have jd' : ∀ a, (J a ∨ a ∈ fp) → H a ≠ none := fun a z => by
    rcases z with z | z
    · exact s.jd a z
    · exact RT.dom rt a z
  refine h2 [frz x] _ k6 (fun a => J a ∨ a ∈ fp) H [v] jd' (.cons (rt.frz (fun _ j => .inl j) fun _ z => .inr z) .nil) Q fun w H' J' fpw n => ?_
  have hrt := n.rt
  have e2 : w = .int b := by
    cases hrt with
    | leaf r => cases r; rfl
  subst e2
  have dm : ∀ a, H a ≠ none → H' a ≠ none := fun a z => by
    cases q' : H a with
    | none => exact absurd q' z
    | some o => rw [n.keep a o q']; exact fun z => nomatch z
  have s3 : SR X.K pn σ H' _ J F := s.step (fun _ j => j) (fun a o _ q => n.keep a o q) (fun a z => dm a (s.jd a z)) s.jf
  exact q _ H' J F [] s3 ⟨.leaf (.int _), by simpa using s3.nd, fun _ z => nomatch z⟩ (by
    rw [List.append_nil]
    exact ⟨fun a o q _ => n.keep a o q, dm, fun _ j => j, fun a z => .inl z, fun a z => .inl z⟩)
/-- the context of a comprehension's block -/
theorem GX.block (g : GX X W N sc L pn blk) {s : Shared} {H : Hp} {scope : Scope} {C : Addr} {cl : List (Str × Addr)} {fp : List Addr} (hk : scope.kind = .function) :
    GX (X.blk s H scope (compEnvC scope cl C X.env) fp) W N (relS scope sc) L pn true where
  calm := g.calm
  xe := rfl
  hN := g.hN
  nd := g.nd
  hsc := by
    show relS scope X.env.scope = _
    rw [g.hsc]
  kd := hk
  units := g.units
  gd := g.gd
  blt := g.blt
  fn := g.fn
  glb := g.glb
  feed := fun h => by cases h
  pin := g.pin
  fnl := fun h => by cases h

mutual
def tgVs : Tg → List Nat
  | .nm i => [i]
  | .tp ts => tgsVs ts
  | .tps ts => tgsVs ts
  | .sub _ _ => []
def tgsVs : Tgs → List Nat
  | .nil => []
  | .cons t r => tgVs t ++ tgsVs r
  | .star i => [i]
end
mutual
theorem okTgVs : ∀ (t : Tg) {sc : Scope} {vs : List Nat} {e : Expr}, chkTg N L sc true vs t e = true → ∀ i ∈ tgVs t, i ∈ vs
  | .nm i, sc, vs, e, h => by
    unfold chkTg at h
    split at h
    · simp only [Bool.and_eq_true, Bool.or_eq_true, Bool.not_true, Bool.false_eq_true, false_or, List.contains_eq_mem, decide_eq_true_eq] at h
      intro j hj
      simp [tgVs] at hj
      subst hj
      exact h.2
    · cases h
  | .tp ts, sc, vs, e, h => by
    unfold chkTg at h
    split at h
    · simp only [Bool.and_eq_true] at h
      exact okTgsVs ts h.1
    · cases h
  | .tps ts, sc, vs, e, h => by
    unfold chkTg at h
    split at h
    · simp only [Bool.and_eq_true] at h
      exact okTgsVs ts h.1
    · cases h
  | .sub i k, sc, vs, e, h => fun j hj => by simp [tgVs] at hj
theorem okTgsVs : ∀ (t : Tgs) {sc : Scope} {vs : List Nat} {e : List Expr}, chkTgs N L sc true vs t e = true → ∀ i ∈ tgsVs t, i ∈ vs
  | .nil, sc, vs, e, h => fun j hj => by simp [tgsVs] at hj
  | .cons t r, sc, vs, e, h => by
    unfold chkTgs at h
    split at h
    · simp only [Bool.and_eq_true] at h
      intro j hj
      simp only [tgsVs, List.mem_append] at hj
      rcases hj with hj | hj
      · exact okTgVs t h.1 j hj
      · exact okTgsVs r h.2 j hj
    · cases h
  | .star i, sc, vs, e, h => by
    unfold chkTgs at h
    split at h
    · simp only [Bool.and_eq_true, Bool.or_eq_true, Bool.not_true, Bool.false_eq_true, false_or, List.contains_eq_mem, decide_eq_true_eq] at h
      intro j hj
      simp [tgsVs] at hj
      subst hj
      exact h.2
    · cases h
end
theorem notIf_one {e : Expr} (h : notIf e = true) : notIf e = true := h
def nstars : List Expr → Bool
  | [] => true
  | e :: r => nstar e && nstars r
theorem stars_none : ∀ {es : List Expr} (pos : Pos), nstars es = true → (backTo pos (starEach es X.env)).any (·.1) = false
  | [], _, _ => rfl
  | e :: r, pos, h => by
    simp only [nstars, Bool.and_eq_true] at h
    rw [star_of h.1]
    have := stars_none (es := r) pos h.2
    unfold backTo at this ⊢
    simpa using this
theorem cmp_not {e : Expr} (h : nstar e = true) : nstar e = true := h
mutual
theorem okC : ∀ (c : C) {X : Cx} {sc : Scope} {pn : List (Nat × V)} {blk : Bool}, GX X W N sc L pn blk → ∀ (e : Expr), chkC N L sc c e = true → IE X pn e (evC W c)
  | .var i, X, sc, pn, blk, g, e, h => by
    unfold chkC at h
    obtain ⟨x, p, rfl, hp⟩ := nm_var g h
    exact ie_mk (pe_lf (pe_var' hp))
  | .int n, X, sc, pn, blk, g, e, h => by
    unfold chkC at h
    split at h
    · simp only [decide_eq_true_eq] at h
      subst h
      exact ie_mk (pe_lf (pe_const' pe_int fun _ _ => .int _))
    · cases h
  | .str n, X, sc, pn, blk, g, e, h => by
    unfold chkC at h
    split at h
    · simp only [decide_eq_true_eq] at h
      subst h
      exact ie_mk (pe_lf (pe_const' pe_str fun _ _ => .str _))
    · cases h
  | .bl n, X, sc, pn, blk, g, e, h => by
    unfold chkC at h
    split at h
    · simp only [decide_eq_true_eq] at h
      subst h
      exact ie_mk (pe_lf (pe_const' pe_bl fun _ _ => .bl _))
    · cases h
  | .non, X, sc, pn, blk, g, e, h => by
    unfold chkC at h
    split at h
    · exact ie_mk (pe_lf (pe_const' pe_non fun _ _ => .non))
    · cases h
  | .glb x, X, sc, pn, blk, g, e, h => by
    unfold chkC at h
    obtain ⟨p, rfl, hg, hd⟩ := gl_name g h
    unfold evC gGlb
    cases hx : W.glb x with
    | none =>
      refine ie_mk (pe_lf ⟨fun pins s σ H Q I ⟨e, J, F, s', t, e', h, q⟩ => by cases h⟩)
    | some d =>
      obtain ⟨v, u, h1, h2, h3⟩ := g.glb x d hx
      exact ie_mk (pe_lf (pe_const' (pe_glob hg h1 h2 hd) h3))
  | .bin op a b, X, sc, pn, blk, g, e, h => by
    unfold chkC at h
    split at h
    · simp only [Bool.and_eq_true, decide_eq_true_eq] at h
      obtain ⟨⟨rfl, ha⟩, hb⟩ := h
      exact ie_bin (bop_ok g op) (pe_fz (okC a g _ ha).pe) (pe_fz (okC b g _ hb).pe)
    · cases h
  | .neg a, X, sc, pn, blk, g, e, h => by
    unfold chkC at h
    split at h
    · refine ie_mk (PE.weak (pe_un un_neg (pe_fz (okC a g _ h).pe)) fun σ H Q ⟨e, J, F, s, t, e', h, q⟩ => ?_)
      unfold evC gNeg at h
      obtain ⟨d, e1, k1, k2⟩ := bnd_ok h
      refine ⟨e, J, F, s, d, e1, k1, fun v H1 J1 F1 s1 r1 tr1 => ?_⟩
      split at k2
      · cases k2
        exact ⟨_, r1.int_inv, q _ H1 J1 F1 [] s1 ⟨.leaf (.int _), by simpa using s1.nd, fun _ z => nomatch z⟩ (by simpa using tr1)⟩
      · cases k2
    · cases h
  | .cmp op a b, X, sc, pn, blk, g, e, h => by
    unfold chkC at h
    split at h
    · simp only [Bool.and_eq_true, decide_eq_true_eq, Bool.not_eq_true'] at h
      obtain ⟨⟨⟨rfl, ha⟩, hb⟩, hm⟩ := h
      exact ie_cmp (cop_ok g op) (pe_fz (okC a g _ ha).pe) (pe_fz (okC b g _ hb).pe) hm
    · cases h
  | .cinv op a i, X, sc, pn, blk, g, e, h => by
    unfold chkC at h
    split at h
    · simp only [Bool.and_eq_true, decide_eq_true_eq, Bool.not_eq_true'] at h
      obtain ⟨⟨⟨rfl, ha⟩, hb⟩, hm⟩ := h
      obtain ⟨x, p, rfl, hp⟩ := nm_var g hb
      obtain ⟨r, h1, h2⟩ := cop_ok g op
      have ha' := pe_fz (okC a g _ ha).pe
      exact ⟨PE.weak (pe_cmpR h1 ha' hp hm) fun σ H Q q => cinv_rd h2 q, fun _ => PT.weak (pt_cmpR h1 ha' hp hm) fun σ H Q q => cinv_rd h2 (rdT_of q), rfl⟩
    · cases h
  | .vlen i, X, sc, pn, blk, g, e, h => by
    unfold chkC at h
    split at h
    · simp only [Bool.and_eq_true] at h
      obtain ⟨p, rfl, hgl, hd⟩ := gl_name g h.1
      obtain ⟨x, p2, rfl, hv⟩ := nm_var g h.2
      exact ie_vlen hv rfl hgl (g.blt _ (by simp [bltNames]))
    · cases h
  | .vcmp op i b, X, sc, pn, blk, g, e, h => by
    unfold chkC at h
    split at h
    · simp only [Bool.and_eq_true, decide_eq_true_eq, Bool.not_eq_true'] at h
      obtain ⟨⟨⟨rfl, ha⟩, hb⟩, hm⟩ := h
      obtain ⟨x, p, rfl, hp⟩ := nm_var g ha
      obtain ⟨r, h1, h2⟩ := cop_ok g op
      have hb' := pe_fz (okC b g _ hb).pe
      exact ⟨PE.weak (pe_cmpR h1 hp hb' hm) fun σ H Q q => vcmp_rd h2 q, fun _ => PT.weak (pt_cmpR h1 hp hb' hm) fun σ H Q q => vcmp_rd h2 (rdT_of q), rfl⟩
    · cases h
  | .chain op op' a b c, X, sc, pn, blk, g, e, h => by
    unfold chkC at h
    split at h
    · simp only [Bool.and_eq_true, decide_eq_true_eq, Bool.not_eq_true'] at h
      obtain ⟨⟨⟨⟨⟨rfl, rfl⟩, ha⟩, hb⟩, hc⟩, hm⟩ := h
      exact pe_chain' (cop_ok g op) (cop_ok g op') (pe_fz (okC a g _ ha).pe) (pe_fz (okC b g _ hb).pe) (pe_fz (okC c g _ hc).pe) hm
    · cases h
  | .and a b, X, sc, pn, blk, g, e, h => by
    unfold chkC at h
    split at h
    · simp only [Bool.and_eq_true] at h
      obtain ⟨⟨ha, hn⟩, hb⟩ := h
      exact ie_and (okC a g _ ha) hn (ie_of_one (okC b g _ hb))
    · cases h
  | .or a b, X, sc, pn, blk, g, e, h => by
    unfold chkC at h
    split at h
    · simp only [Bool.and_eq_true] at h
      obtain ⟨⟨ha, hn⟩, hb⟩ := h
      exact ie_or (okC a g _ ha) hn (ie_of_one (okC b g _ hb))
    · cases h
  | .not a, X, sc, pn, blk, g, e, h => by
    unfold chkC at h
    split at h
    · simp only [Bool.and_eq_true] at h
      exact ie_not (okC a g _ h.1) h.2
    · cases h
  | .ite c a b, X, sc, pn, blk, g, e, h => by
    unfold chkC at h
    split at h
    · simp only [Bool.and_eq_true] at h
      obtain ⟨⟨⟨hc, hn⟩, ha⟩, hb⟩ := h
      exact ie_ite (okC c g _ hc) hn (okC a g _ ha) (okC b g _ hb)
    · cases h
  | .ix a b, X, sc, pn, blk, g, e, h => by
    unfold chkC at h
    split at h
    · simp only [Bool.and_eq_true] at h
      obtain ⟨⟨ha, hb⟩, hp⟩ := h
      exact ie_ix (pe_fz (okC a g _ ha).pe) (pe_fz (okC b g _ hb).pe) hp
    · cases h
  | .vix i b, X, sc, pn, blk, g, e, h => by
    unfold chkC at h
    split at h
    · simp only [Bool.and_eq_true] at h
      obtain ⟨⟨ha, hb⟩, hp⟩ := h
      obtain ⟨x, p, rfl, hv⟩ := nm_var g ha
      exact ie_vix hv (pe_fz (okC b g _ hb).pe) hp
    · cases h
  | .sl a lo hi, X, sc, pn, blk, g, e, h => by
    unfold chkC at h
    split at h
    · simp only [Bool.and_eq_true] at h
      obtain ⟨⟨ha, hl⟩, hh⟩ := h
      exact ie_sl (pe_fz (okC a g _ ha).pe) (okO lo g _ hl) (okO hi g _ hh)
    · cases h
  | .tup cs, X, sc, pn, blk, g, e, h => by
    unfold chkC at h
    split at h
    · exact ie_tup (okCs cs g _ h).2.1
    · cases h
  | .lst cs, X, sc, pn, blk, g, e, h => by
    unfold chkC at h
    split at h
    · exact ie_lst (okCs cs g _ h).2.1
    · cases h
  | .call f cs, X, sc, pn, blk, g, e, h => by
    unfold chkC at h
    split at h
    · rename_i gf es pos
      simp only [Bool.and_eq_true] at h
      obtain ⟨hg, hc⟩ := h
      obtain ⟨p, rfl, hgl, hd⟩ := gl_name g hg
      obtain ⟨hs, _, hl, hn⟩ := okCs cs g _ hc
      unfold evC
      cases hf : W.fn f with
      | none => exact ie_bad rfl
      | some fe =>
        dsimp only
        split
        · rename_i hlen
          obtain ⟨k, fa, fd, ps, G, room, hmg, hk, hb⟩ := g.fn f fe hf
          cases es with
          | nil =>
            refine ie_mk (PE.weak (pe_callG0 G room g.gd hgl hmg hk hb .nil pass0 hd) fun σ H Q q => ?_)
            have q2 := call_rd (E := E0) (n := fe.np) (fun e ts e' hh => by rw [hn e ts e' hh]; exact hlen) q
            cases cs with
            | nil =>
              obtain ⟨e, J, F, s, t, e', h, q3⟩ := q2
              cases h
              exact q3 [] H J F [] s ⟨.nil, by simpa using s.nd, fun _ z => nomatch z⟩ (by simpa using Tr.refl) fun j i hj => by simp [lens] at hj
            | val c r => simp [chkCs] at hc
            | own c r => simp [chkCs] at hc
            | lend i r => simp [chkCs] at hc
            | lendL i r => simp [chkCs] at hc
          | cons e1 es =>
            have hs' := hs
            simp only [nstars, Bool.and_eq_true] at hs'
            refine ie_mk (PE.weak (pe_callG G room g.gd hgl hmg hk hb .nil pass0 hl hd (star_of hs'.1 es X.env) (stars_none pos hs'.2)) fun σ H Q q => ?_)
            exact call_rd (E := E0) (n := fe.np) (fun e ts e' hh => by rw [hn e ts e' hh]; exact hlen) q
        · exact ie_bad rfl
    · cases h
  | .bif b cs, X, sc, pn, blk, g, e, h => by
    unfold chkC at h
    split at h
    · rename_i gf e1 es pos
      simp only [Bool.and_eq_true] at h
      obtain ⟨hg, hc⟩ := h
      obtain ⟨p, rfl, hgl, hd⟩ := gl_name g hg
      obtain ⟨hs, hl, _, hn⟩ := okCs cs g _ hc
      simp only [nstars, Bool.and_eq_true] at hs
      exact ie_bif g hgl hd (star_of hs.1 es X.env) (stars_none pos hs.2) hl
    · cases h
  | .isi t a, X, sc, pn, blk, g, e, h => by
    unfold chkC at h
    split at h
    · simp only [Bool.and_eq_true] at h
      obtain ⟨⟨hg, ha⟩, ht⟩ := h
      obtain ⟨p, rfl, hgl, hd⟩ := gl_name g hg
      obtain ⟨p2, rfl, hgl2, hd2⟩ := gl_name g ht
      exact ie_isi hgl (g.blt _ (by simp [bltNames])) (okC a g _ ha) hgl2 (g.blt _ (by cases t <;> simp [bltNames, Ty.nmS]))
    · cases h
  | .comp vs tg it t el, X, sc, pn, blk, g, e, h => by
    unfold chkC at h
    split at h
    · rename_i elt etg iter ifs scope pos
      simp only [Bool.and_eq_true, decide_eq_true_eq] at h
      obtain ⟨⟨⟨⟨⟨⟨h1, h2⟩, h3⟩, h4⟩, h5⟩, h6⟩, h7⟩ := h
      have ok := blkOk_by h2
      have gb : ∀ (s : Shared) (H : Hp) (C : Addr) (cl : List (Str × Addr)) (fp : List Addr), GX (X.blk s H scope (compEnvC scope cl C X.env) fp) W N (relS scope sc) L pn true := fun s H C cl fp => g.block ok.kind
      have hp : ∀ p ∈ pn, p.1 ∉ vs := fun p hp hv => by
        have a1 := List.all_eq_true.mp h3 _ hv
        simp only [Bool.not_eq_true', List.contains_eq_mem, decide_eq_false_iff_not] at a1
        exact a1 (g.pin p hp)
      obtain ⟨ws, hw, hg⟩ : ∃ ws : List Nat, (∀ i ∈ ws, i ∈ vs) ∧ ∀ (s : Shared) (H : Hp) (C : Addr) (cl : List (Str × Addr)) (fp : List Addr), PG (X.blk s H scope (compEnvC scope cl C X.env) fp) etg (rdG X.K pn ws (evTg W tg)) :=
        ⟨tgVs tg, okTgVs tg h5, fun s H C cl fp => okTg tg (gb s H C cl fp) h5⟩
      have hI := okI it g h4
      have okB : BlkOk X.N X.env.scope scope (vs.filterMap fun i => N[i]?.map fun x => (x, i)) := by rw [g.hN, g.hsc]; exact ok
      refine ie_mk (PE.weak (pe_lc (g := rdG X.K pn ws (evTg W tg)) (tt := rdT X.K pn (evCond W t)) (te := rdD X.K pn (fz (evC W el))) g.calm (by rw [g.hN]; exact g.nd) hI.1 okB hg (fun s H C cl fp => okIf t (gb s H C cl fp) h6) (fun s H C cl fp => pe_fz (okC el (gb s H C cl fp) _ h7).pe) hI.2) fun σ H Q q => ?_)
      rw [h1]
      exact tLc_rd hp hw q
    · cases h
  | .push i a, X, sc, pn, blk, g, e, h => by
    unfold chkC at h
    split at h
    · simp only [Bool.and_eq_true, decide_eq_true_eq] at h
      obtain ⟨⟨⟨rfl, ho⟩, ha⟩, hl⟩ := h
      obtain ⟨x, p, rfl, hv⟩ := nm_var g ho
      have hA := okC a g _ ha
      exact ie_push hv hA.ns hA.pe rfl hl
    · cases h
  | .pop i a, X, sc, pn, blk, g, e, h => by
    unfold chkC at h
    split at h
    · simp only [Bool.and_eq_true, decide_eq_true_eq] at h
      obtain ⟨⟨⟨rfl, ho⟩, ha⟩, hl⟩ := h
      obtain ⟨x, p, rfl, hv⟩ := nm_var g ho
      have hA := okC a g _ ha
      exact ie_pop hv hA.ns (pe_fz hA.pe) rfl hl
    · cases h
  | .ext i a, X, sc, pn, blk, g, e, h => by
    unfold chkC at h
    split at h
    · simp only [Bool.and_eq_true, decide_eq_true_eq] at h
      obtain ⟨⟨⟨rfl, ho⟩, ha⟩, hl⟩ := h
      obtain ⟨x, p, rfl, hv⟩ := nm_var g ho
      have hA := okC a g _ ha
      exact ie_ext hv hA.ns (pe_fz hA.pe) rfl hl
    · cases h
  | .din neg a i, X, sc, pn, blk, g, e, h => by
    unfold chkC at h
    split at h
    · simp only [Bool.and_eq_true, decide_eq_true_eq, Bool.not_eq_true'] at h
      obtain ⟨⟨⟨h1, ha⟩, hb⟩, hm⟩ := h
      obtain ⟨x, p, rfl, hv⟩ := nm_var g hb
      exact ie_din h1 (by have := g.units; omega) (pe_fz (okC a g _ ha).pe) hv hm
    · cases h
  | .dix i b, X, sc, pn, blk, g, e, h => by
    unfold chkC at h
    split at h
    · simp only [Bool.and_eq_true] at h
      obtain ⟨⟨h1, hb⟩, hp⟩ := h
      obtain ⟨x, p, rfl, hv⟩ := nm_var g h1
      exact ie_dix (by have := g.units; omega) hv (pe_fz (okC b g _ hb).pe) hp
    · cases h
  | .dlit kvs, X, sc, pn, blk, g, e, h => by
    unfold chkC at h
    split at h
    · simp only [Bool.and_eq_true, decide_eq_true_eq] at h
      obtain ⟨⟨h1, h2⟩, h3⟩ := h
      exact ie_dlit h1 h2 h3
    · cases h
  | .cnt a b, X, sc, pn, blk, g, e, h => by
    unfold chkC at h
    split at h
    · simp only [Bool.and_eq_true, decide_eq_true_eq] at h
      obtain ⟨⟨⟨rfl, ha⟩, hb⟩, hl⟩ := h
      have hA := okC a g _ ha
      have hB := okC b g _ hb
      exact ie_cnt (pe_fz hA.pe) hB.ns (pe_fz hB.pe) rfl hl
    · cases h
  | .lrg a b, X, sc, pn, blk, g, e, h => by
    unfold chkC at h
    split at h
    · simp only [Bool.and_eq_true, decide_eq_true_eq] at h
      obtain ⟨⟨⟨hg, hg2⟩, ha⟩, hb⟩ := h
      obtain ⟨p, rfl, hgl, hd⟩ := gl_name g hg
      obtain ⟨p2, rfl, hgl2, hd2⟩ := gl_name g hg2
      have hA := okC a g _ ha
      have hB := okC b g _ hb
      exact ie_lrg g.calm hgl (g.blt _ (by simp [bltNames])) hgl2 (g.blt _ (by simp [bltNames])) (pe_fz hA.pe) (pe_fz hB.pe) hA.ns hB.ns
    · cases h
  | .inr a b, X, sc, pn, blk, g, e, h => by
    unfold chkC at h
    split at h
    · simp only [Bool.and_eq_true, decide_eq_true_eq, Bool.not_eq_true'] at h
      obtain ⟨⟨⟨hg, ha⟩, hb⟩, hm⟩ := h
      obtain ⟨p, rfl, hgl, hd⟩ := gl_name g hg
      have hA := okC a g _ ha
      have hB := okC b g _ hb
      exact ie_inr hgl (g.blt _ (by simp [bltNames])) (pe_fz hA.pe) (pe_fz hB.pe) hB.ns hm
    · cases h
  | .join s a, X, sc, pn, blk, g, e, h => by
    unfold chkC at h
    split at h
    · simp only [Bool.and_eq_true, decide_eq_true_eq] at h
      obtain ⟨⟨⟨rfl, rfl⟩, ha⟩, hl⟩ := h
      have hA := okC a g _ ha
      exact ie_join (pe_const' pe_str fun _ _ => .str _) (fun _ _ _ z => by cases z; exact ⟨_, rfl⟩) (pe_fz hA.pe) hA.ns rfl hl
    · cases h
  | .rev a, X, sc, pn, blk, g, e, h => by
    unfold chkC at h
    split at h
    · exact ie_rev (pe_fz (okC a g _ h).pe)
    · cases h
theorem okO : ∀ (c : Co) {X : Cx} {sc : Scope} {pn : List (Nat × V)} {blk : Bool}, GX X W N sc L pn blk → ∀ (e : Option Expr), chkO N L sc c e = true → PO X e (rdO X.K pn (evO W c))
  | .no, X, sc, pn, blk, g, e, h => by
    unfold chkO at h
    split at h
    · exact po_none'
    · cases h
  | .so c, X, sc, pn, blk, g, e, h => by
    unfold chkO at h
    split at h
    · exact po_some' (pe_fz (okC c g _ h).pe)
    · cases h
theorem okIf : ∀ (c : Co) {X : Cx} {sc : Scope} {pn : List (Nat × V)} {blk : Bool}, GX X W N sc L pn blk → ∀ {e : List Expr}, chkIf N L sc c e = true → PTs X e (rdT X.K pn (evCond W c))
  | .no, X, sc, pn, blk, g, e, h => by
    unfold chkIf at h
    split at h
    · exact ⟨fun pins s σ H Q I hw => pts_nil.run pins s σ H Q I (by
        obtain ⟨e, J, F, s, t, e', h, q⟩ := hw
        cases h
        exact q H J F s .refl)⟩
    · cases h
  | .so c, X, sc, pn, blk, g, e, h => by
    unfold chkIf at h
    split at h
    · simp only [Bool.and_eq_true] at h
      exact pts_one ((okC c g _ h.1).pt h.2)
    · cases h
theorem okCs : ∀ (c : Cs) {X : Cx} {sc : Scope} {pn : List (Nat × V)} {blk : Bool}, GX X W N sc L pn blk → ∀ (es : List Expr), chkCs N L sc c es = true → nstars es = true ∧ PA X es (rdEs X.K pn (evCs W c)) ∧ PA X es (rdAs X.K pn (lens c) (evCs W c)) ∧ ∀ e ts e', evCs W c e = .ok ts e' → ts.length = (lens c).length
  | .nil, X, sc, pn, blk, g, es, h => by
    unfold chkCs at h
    split at h
    · exact ⟨rfl, pa_nil', al_nil, fun e ts e' h => by cases h; rfl⟩
    · cases h
  | .val c r, X, sc, pn, blk, g, es, h => by
    unfold chkCs at h
    split at h
    · simp only [Bool.and_eq_true] at h
      obtain ⟨s1, p1, a1, n1⟩ := okCs r g _ h.2
      have hc := okC c g _ h.1
      refine ⟨by simp only [nstars, hc.ns, s1, Bool.and_self], pa_cons' (pe_lf (pe_fz hc.pe)) hc.ns p1, al_val (pe_lf (pe_fz hc.pe)) hc.ns a1, fun e ts e' hh => ?_⟩
      obtain ⟨t, e1, k1, k2⟩ := bnd_ok hh
      obtain ⟨ts', e2, k3, k4⟩ := bnd_ok k2
      cases k4
      simp [lens, n1 _ _ _ k3]
    · cases h
  | .own c r, X, sc, pn, blk, g, es, h => by
    unfold chkCs at h
    split at h
    · simp only [Bool.and_eq_true] at h
      obtain ⟨s1, p1, a1, n1⟩ := okCs r g _ h.2
      have hc := okC c g _ h.1
      refine ⟨by simp only [nstars, hc.ns, s1, Bool.and_self], pa_cons' hc.pe hc.ns p1, al_val hc.pe hc.ns a1, fun e ts e' hh => ?_⟩
      obtain ⟨t, e1, k1, k2⟩ := bnd_ok hh
      obtain ⟨ts', e2, k3, k4⟩ := bnd_ok k2
      cases k4
      simp [lens, n1 _ _ _ k3]
    · cases h
  | .lend i r, X, sc, pn, blk, g, es, h => by
    unfold chkCs at h
    split at h
    · simp only [Bool.and_eq_true] at h
      obtain ⟨s1, p1, a1, n1⟩ := okCs r g _ h.2
      obtain ⟨x, p, rfl, hv⟩ := nm_var g h.1
      refine ⟨by simp only [nstars, s1]; rfl, ?_, al_lend hv rfl a1, fun e ts e' hh => ?_⟩
      · exact pa_lend hv rfl p1
      · obtain ⟨t, e1, k1, k2⟩ := bnd_ok hh
        obtain ⟨ts', e2, k3, k4⟩ := bnd_ok k2
        cases k4
        simp [lens, n1 _ _ _ k3]
    · cases h
  | .lendL i r, X, sc, pn, blk, g, es, h => by
    unfold chkCs at h
    split at h
    · simp only [Bool.and_eq_true] at h
      obtain ⟨s1, p1, a1, n1⟩ := okCs r g _ h.2
      obtain ⟨x, p, rfl, hv⟩ := nm_var g h.1
      refine ⟨by simp only [nstars, s1]; rfl, ?_, al_lendL hv rfl a1, fun e ts e' hh => ?_⟩
      · exact pa_lendL hv rfl p1
      · obtain ⟨_, e0, k0, k1⟩ := bnd_ok hh
        obtain ⟨ts', e2, k3, k4⟩ := bnd_ok k1
        obtain ⟨t, e3, k5, k6⟩ := bnd_ok k4
        cases k6
        simp [lens, n1 _ _ _ k3]
    · cases h
theorem okTg : ∀ (t : Tg) {X : Cx} {sc : Scope} {pn : List (Nat × V)} {blk : Bool} {vs : List Nat}, GX X W N sc L pn blk → ∀ {e : Expr}, chkTg N L sc blk vs t e = true → PG X e (rdG X.K pn (tgVs t) (evTg W t))
  | .nm i, X, sc, pn, blk, vs, g, e, h => by
    unfold chkTg at h
    split at h
    · rename_i x p
      simp only [Bool.and_eq_true, Bool.or_eq_true, decide_eq_true_eq, Bool.not_eq_true', List.contains_eq_mem, decide_eq_false_iff_not] at h
      obtain ⟨⟨⟨h1, h2⟩, h3⟩, h4⟩ := h
      have hL : Loc X.env.scope x := by
        rw [g.hsc]
        rcases h2 with h2 | h2
        · exact .inl h2
        · exact .inr h2.2
      have hf : X.fn x = true ∨ X.env.scope.names.lookup x = some .local := by
        rw [g.hsc]
        rcases h2 with h2 | h2
        · exact .inr h2
        · exact .inl (g.fnl h2.1 x)
      exact ig_name (pg_name (by rw [g.hN]; exact g.nd) (by rw [g.hN]; exact h1) hL hf) fun p hp z => h3 (z ▸ g.pin p hp)
    · cases h
  | .tp ts, X, sc, pn, blk, vs, g, e, h => by
    unfold chkTg at h
    split at h
    · simp only [Bool.and_eq_true, Bool.not_eq_true'] at h
      obtain ⟨h1, h2, h3, _⟩ := okTgs ts g h.1
      exact ig_tup g.calm h1 h2 (h3 h.2)
    · cases h
  | .tps ts, X, sc, pn, blk, vs, g, e, h => by
    unfold chkTg at h
    split at h
    · simp only [Bool.and_eq_true] at h
      obtain ⟨h1, h2, _, h3, h4⟩ := okTgs ts g h.1
      have hp := h4 h.2
      exact ig_star g.calm h1 (by rw [h2]; omega) (h3 h.2)
    · cases h
  | .sub i k, X, sc, pn, blk, vs, g, e, h => by
    unfold chkTg at h
    split at h
    · simp only [Bool.and_eq_true] at h
      obtain ⟨⟨h1, h2⟩, h3⟩ := h
      obtain ⟨x, p, rfl, hv⟩ := nm_var g h1
      refine ig_sub hv (pe_fz (okC k g _ h2).pe) (ha := fun v => ?_)
      rename_i eb ps
      clear h2
      cases eb <;> first | rfl | cases h3
    · cases h
theorem okTgs : ∀ (t : Tgs) {X : Cx} {sc : Scope} {pn : List (Nat × V)} {blk : Bool} {vs : List Nat}, GX X W N sc L pn blk → ∀ {es : List Expr}, chkTgs N L sc blk vs t es = true → PGs X es (rdGs X.K pn (tgsVs t) (evTgs W t)) ∧ (assignEach es X.env).length = tgN t ∧ (starT t = false → (assignEach es X.env).findIdx? (·.1) = none) ∧ (starT t = true → (assignEach es X.env).findIdx? (·.1) = some (tgN t - 1)) ∧ (starT t = true → 0 < tgN t)
  | .nil, X, sc, pn, blk, vs, g, es, h => by
    unfold chkTgs at h
    split at h
    · exact ⟨igs_nil, rfl, fun _ => rfl, fun z => (nomatch z), fun z => (nomatch z)⟩
    · cases h
  | .cons t r, X, sc, pn, blk, vs, g, es, h => by
    unfold chkTgs at h
    split at h
    · rename_i e es
      simp only [Bool.and_eq_true] at h
      have h1 := okTg t g h.1
      obtain ⟨h2, h3, h4, h5, h6⟩ := okTgs r g h.2
      obtain ⟨k1, k2⟩ : (assignEach (e :: es) X.env).map (·.2) = assign e X.env :: (assignEach es X.env).map (·.2) ∧ ((assignEach (e :: es) X.env).length = (assignEach es X.env).length + 1 ∧ ((assignEach (e :: es) X.env).findIdx? (·.1) = ((assignEach es X.env).findIdx? (·.1)).map (· + 1))) := by
        have hh := h.1
        unfold chkTg at hh
        cases t <;> (simp only at hh; split at hh <;> first | exact ⟨rfl, rfl, by simp [assignEach, List.findIdx?_cons]⟩ | cases hh)
      refine ⟨igs_cons h1 h2 k1, by rw [k2.1, h3]; rfl, fun z => by rw [k2.2, h4 z]; rfl, fun z => ?_, fun z => Nat.succ_pos _⟩
      have p := h6 z
      rw [k2.2, h5 z]
      show some (tgN r - 1 + 1) = some (tgN r + 1 - 1)
      congr 1
      omega
    · cases h
  | .star i, X, sc, pn, blk, vs, g, es, h => by
    unfold chkTgs at h
    split at h
    · rename_i x p p2
      simp only [Bool.and_eq_true, Bool.or_eq_true, decide_eq_true_eq, Bool.not_eq_true', List.contains_eq_mem, decide_eq_false_iff_not] at h
      obtain ⟨⟨⟨h1, h2⟩, h3⟩, h4⟩ := h
      have hL : Loc X.env.scope x := by
        rw [g.hsc]
        rcases h2 with h2 | h2
        · exact .inl h2
        · exact .inr h2.2
      have hf : X.fn x = true ∨ X.env.scope.names.lookup x = some .local := by
        rw [g.hsc]
        rcases h2 with h2 | h2
        · exact .inr h2
        · exact .inl (g.fnl h2.1 x)
      have k := ig_name (i := i) (pn := pn) (pg_name (pos := p) (by rw [g.hN]; exact g.nd) (by rw [g.hN]; exact h1) hL hf) fun p hp z => h3 (z ▸ g.pin p hp)
      exact ⟨igs_star k, rfl, fun z => (nomatch z), fun _ => rfl, fun _ => Nat.one_pos⟩
    · cases h
theorem okI : ∀ (t : It2) {X : Cx} {sc : Scope} {pn : List (Nat × V)} {blk : Bool}, GX X W N sc L pn blk → ∀ {tg e : Expr}, chkI N L sc t tg e = true → PI X tg e (rdI X.K pn (evI W t)) ∧ ∀ x, foldedSetIterable e X.env x = pure x
  | .seq c, X, sc, pn, blk, g, tg, e, h => by
    unfold chkI at h
    simp only [Bool.and_eq_true] at h
    refine ⟨ii_seq (pe_fz (okC c g _ h.1).pe), fun x => ?_⟩
    have h2 := h.2
    cases e <;> first | rfl | cases h2
  | .rng1 cs, X, sc, pn, blk, g, tg, e, h => by
    unfold chkI at h
    split at h
    · simp only [Bool.and_eq_true] at h
      obtain ⟨⟨h1, h2⟩, h3⟩ := h
      obtain ⟨p, rfl, hgl, hd⟩ := gl_name g h1
      exact ⟨ii_rng1 hgl (g.blt _ (by simp [bltNames])) (pa_fzs (okCs cs g _ h2).2.1) (star_of h3 [] X.env), fun x => rfl⟩
    · cases h
  | .rng2 cs, X, sc, pn, blk, g, tg, e, h => by
    unfold chkI at h
    split at h
    · simp only [Bool.and_eq_true] at h
      obtain ⟨⟨⟨h1, h2⟩, h3⟩, h4⟩ := h
      obtain ⟨p, rfl, hgl, hd⟩ := gl_name g h1
      exact ⟨ii_rng2 hgl (g.blt _ (by simp [bltNames])) (pa_fzs (okCs cs g _ h2).2.1) (by rw [star_of h3, star_of h4]; rfl) (star_of h4 [] X.env), fun x => rfl⟩
    · cases h
  | .zip cs, X, sc, pn, blk, g, tg, e, h => by
    unfold chkI at h
    split at h
    · simp only [Bool.and_eq_true] at h
      obtain ⟨⟨⟨h1, h2⟩, h3⟩, h4⟩ := h
      obtain ⟨p, rfl, hgl, hd⟩ := gl_name g h1
      exact ⟨ii_zip hgl (g.blt _ (by simp [bltNames])) (pa_fzs (okCs cs g _ h2).2.1) (by rw [star_of h3, star_of h4]; rfl) (star_of h4 [] X.env), fun x => rfl⟩
    · cases h
  | .enm cs, X, sc, pn, blk, g, tg, e, h => by
    unfold chkI at h
    split at h
    · simp only [Bool.and_eq_true] at h
      obtain ⟨⟨h1, h2⟩, h3⟩ := h
      obtain ⟨p, rfl, hgl, hd⟩ := gl_name g h1
      exact ⟨ii_enum hgl (g.blt _ (by simp [bltNames])) (pa_fzs (okCs cs g _ h2).2.1) (star_of h3 [] X.env), fun x => rfl⟩
    · cases h
end
end
end IL

namespace IL
open PySem PySem.Spec PyProof.Rows L2
section
variable {X : Cx} {W : Wd} {N : List Str} {sc : Scope} {L : List Nat} {pn : List (Nat × V)}
theorem own_neg (g : GX X W N sc L pn false) {i : Nat} (h : (!L.contains i) = true) : ∀ p ∈ pn, p.1 ≠ i := fun p hp z => by
  simp only [Bool.not_eq_true', List.contains_eq_mem, decide_eq_false_iff_not] at h
  exact h (z ▸ g.pin p hp)
theorem passes (g : GX X W N sc L pn false) : PassesOwn (model X.prog X.w) X.A X.env X.xe := by rw [g.xe]; exact PassesOwn.never
theorem swaps_no {e : Expr} (h : notComp e = true) (t : Option Expr) (l : Nat) (env : PySem.Env) : swapsWith e t l env = pure false := by
  cases e <;> first | rfl | cases h
theorem fold_no {e : Expr} {env : PySem.Env} (h : (match e with | .Set .. => false | _ => true) = true) : ∀ x, foldedSetIterable e env x = pure x := fun x => by
  cases e <;> first | rfl | cases h
theorem swaps_cell {elt : Expr} {gs : List Comprehension} {scope : Scope} {q px : Pos} {x : Str} {l : Nat} (hk : X.env.scope.names.lookup x = some .cell) : swapsWith (.ListComp elt gs scope q) (some (.Name x px)) l X.env = pure false := by
  have ky : X.env.kindOf x = some .cell := hk
  unfold swapsWith
  have z : (NameKind.cell == NameKind.local) = false := rfl
  simp only [ky]
  simp [z]
theorem fair_sole {a b : Expr} {l : Nat} {env : PySem.Env} (h : fairTo a b = true) : swapsWithSole [a] b l env = pure false := by
  show swapsWith b (some a) l env = pure false
  cases a with
  | Tuple ts k p => cases b <;> rfl
  | Subscript u v p => cases b <;> rfl
  | _ => cases b <;> cases h
theorem fair_stores {a b : Expr} {env : PySem.Env} (h : fairTo a b = true) : swappedStores [a] b env = pure none := by
  unfold fairTo at h
  split at h
  · split at h
    · unfold swappedStores
      simp
    · unfold swappedStores
      simp
    · rfl
    · cases h
  · rename_i hb
    split at h
    · cases b <;> first | rfl | exact absurd rfl (hb _ _ _)
    · cases b <;> rfl
    · cases h
theorem fair_one {a b : Expr} {env : PySem.Env} (h : fairTo a b = true) : (assignEach [a] env).map (·.2) = [assign a env] := by
  cases a with
  | Tuple ts k p => rfl
  | Subscript u v p => rfl
  | _ => cases b <;> cases h
theorem st_no (e : Expr) (h : nstar e = true) : (fun e : Expr => match e with | .Starred .. => true | _ => false) e = false := by
  cases e <;> first | rfl | cases h
theorem nost {a b : Expr} (ha : nstar a = true) (hb : nstar b = true) : ([a, b].any fun | .Starred .. => true | _ => false) = false := by
  simp only [List.any_cons, List.any_nil, Bool.or_false, Bool.or_eq_false_iff]
  exact ⟨st_no a ha, st_no b hb⟩
theorem par_stores {x y : Str} {px py pt : Pos} {kt : Nat} {a b : Expr} {k2 : Nat} {p2 : Pos} (hkd : X.env.scope.kind = .function) (hx : X.env.scope.names.lookup x = some .local) (hy : X.env.scope.names.lookup y = some .local) (ha : nstar a = true) (hb : nstar b = true)
    (hl : (px.line == py.line) = true) (h1 : ([a, b].all (foldedForSure 8)) = false) (h2 : ([a, b].all (constantsAlone 8)) = false) (hxy : x ≠ y) :
    swappedStores [.Tuple [.Name x px, .Name y py] kt pt] (.Tuple [a, b] k2 p2) X.env = pure (some [x, y]) := by
  have kx : X.env.kindOf x = some .local := hx
  have ky : X.env.kindOf y = some .local := hy
  have hbk : X.env.blockKind = .function := by unfold Env.blockKind; rw [hkd]; rfl
  have e1 : px.line = py.line := by simpa using hl
  have hst : ([a, b].any fun | .Starred .. => true | _ => false) = false := nost ha hb
  have hee : (NameKind.local == NameKind.local) = true := rfl
  have hsf : (ScopeKind.function != ScopeKind.function) = false := rfl
  have hed : ([x, y].eraseDups).length = 2 := by
    simp [List.eraseDups_cons, Ne.symm hxy]
  unfold swappedStores
  simp only [hbk, hst, h1, h2, hsf]
  simp [kx, ky, hee, Expr.pos, e1, hed]
  rintro (hh | hh)
  · exact absurd (hh.symm.trans (st_no a ha)) (by decide)
  · exact absurd (hh.symm.trans (st_no b hb)) (by decide)
theorem chk_lc (c : C) {N : List Str} {L : List Nat} {sc : Scope} {e elt tg iter : Expr} {ifs : List Expr} {scope : Scope} {q : Pos} (he : e = .ListComp elt [⟨tg, iter, ifs, 0⟩] scope q) (h : chkC N L sc c e = true) : ∃ vs ctg it t el, c = .comp vs ctg it t el := by
  cases c with
  | comp vs ctg it t el => exact ⟨vs, ctg, it, t, el, rfl⟩
  | _ => (unfold chkC at h; subst he; first | cases h | (simp [isNm, isGl] at h))
theorem chk_comp {N : List Str} {L : List Nat} {sc : Scope} {vs : List Nat} {ctg : Tg} {it : It2} {t : Co} {el : C} {e elt tg iter : Expr} {ifs : List Expr} {scope : Scope} {q : Pos} (he : e = .ListComp elt [⟨tg, iter, ifs, 0⟩] scope q) (h : chkC N L sc (.comp vs ctg it t el) e = true) :
    (decide ((vs.filterMap fun i => N[i]?.map fun x => (x, i)).map (·.2) = vs) && blkC N sc scope (vs.filterMap fun i => N[i]?.map fun x => (x, i)) && (vs.all fun i => !L.contains i) &&
      chkI N L sc it tg iter && chkTg N L (relS scope sc) true vs ctg tg && chkIf N L (relS scope sc) t ifs && chkC N L (relS scope sc) el elt) = true := by
  unfold chkC at h
  subst he
  exact h
theorem okSetLc (c : C) (g : GX X W N sc L pn false) {i : Nat} {x : Str} {px : Pos} {elt tg iter : Expr} {ifs : List Expr} {scope : Scope} {q p : Pos} (h : chkC N L sc c (.ListComp elt [⟨tg, iter, ifs, 0⟩] scope q) = true) (nd : X.N.Nodup) (hi : X.N[i]? = some x)
    (hy : X.env.scope.names.lookup x = some .local) (hp0 : ∀ p ∈ pn, p.1 ≠ i) (hkd : X.env.scope.kind = .function) (hl : (px.line == q.line) = true) (ha : (scope.names.any fun (n, k) => n == x && (k == .local || k == .cell)) = false) :
    PS X (.Assign [.Name x px] (.ListComp elt [⟨tg, iter, ifs, 0⟩] scope q) p) (rdS X.K pn (gSet i (evC W c))) := by
  obtain ⟨vs, ctg, it, t, el, rfl⟩ := chk_lc c rfl h
  · replace h := chk_comp rfl h
    simp only [Bool.and_eq_true, decide_eq_true_eq] at h
    obtain ⟨⟨⟨⟨⟨⟨h1, h2⟩, h3⟩, h4⟩, h5⟩, h6⟩, h7⟩ := h
    have ok := blkOk_by h2
    have gb : ∀ (s : Shared) (H : Hp) (C : Addr) (cl : List (Str × Addr)) (fp : List Addr), GX (X.blk s H scope (compEnvC scope cl C X.env) fp) W N (relS scope sc) L pn true := fun s H C cl fp => g.block ok.kind
    have hp : ∀ p ∈ pn, p.1 ∉ vs := fun p hp hv => by
      have a1 := List.all_eq_true.mp h3 _ hv
      simp only [Bool.not_eq_true', List.contains_eq_mem, decide_eq_false_iff_not] at a1
      exact a1 (g.pin p hp)
    obtain ⟨ws, hw, hg⟩ : ∃ ws : List Nat, (∀ i ∈ ws, i ∈ vs) ∧ ∀ (s : Shared) (H : Hp) (C : Addr) (cl : List (Str × Addr)) (fp : List Addr), PG (X.blk s H scope (compEnvC scope cl C X.env) fp) tg (rdG X.K pn ws (evTg W ctg)) :=
      ⟨tgVs ctg, okTgVs ctg h5, fun s H C cl fp => okTg ctg (gb s H C cl fp) h5⟩
    have hI := okI it g h4
    have okB : BlkOk X.N X.env.scope scope (vs.filterMap fun i => N[i]?.map fun x => (x, i)) := by rw [g.hN, g.hsc]; exact ok
    refine PS.weak (ps_setLc (g := rdG X.K pn ws (evTg W ctg)) (tt := rdT X.K pn (evCond W t)) (te := rdD X.K pn (fz (evC W el))) g.calm nd hi hy (sw_true hkd hy hl ha) hI.1 okB hg (fun s H C cl fp => okIf t (gb s H C cl fp) h6) (fun s H C cl fp => pe_fz (okC el (gb s H C cl fp) _ h7).pe) hI.2) fun D σ H ⟨e, J, F, s, fl, e', h, qq⟩ => ?_
    rw [h1]
    refine tLc_rd hp hw ?_
    obtain ⟨t0, e1, k1, k2⟩ := bnd_ok h
    obtain ⟨_, e2, k3, k4⟩ := bnd_ok k2
    cases k4
    obtain ⟨k5, rfl⟩ := store_ok' k3
    refine ⟨e, J, F, s, t0, e1, k1, fun v H1 J1 F1 fp s1 o1 tr1 => ?_⟩
    obtain ⟨F', s2, hF⟩ := s1.set k5 hp0 o1
    exact qq _ H1 J1 F' s2 (tr1.trans (Tr.sub hF))
mutual
theorem okS : ∀ (s : S) {X : Cx} {sc : Scope} {pn : List (Nat × V)}, GX X W N sc L pn false → ∀ (st : Stmt), chkS N L sc s st = true → PS X st (rdS X.K pn (evS W s))
  | .set i c, X, sc, pn, g, st, h => by
    unfold chkS at h
    split at h
    · rename_i x px e p
      simp only [Bool.and_eq_true, decide_eq_true_eq] at h
      obtain ⟨⟨⟨h1, h2⟩, h3⟩, h4⟩ := h
      have he := okC c g e h3
      have hp := own_neg g h2
      have hi : X.N[i]? = some x := by rw [g.hN]; exact h1
      have nd : X.N.Nodup := by rw [g.hN]; exact g.nd
      have hf : X.fn x = true ∨ X.env.scope.names.lookup x = some .local := .inl (g.fnl rfl x)
      split at h4
      · rename_i hc
        simp only [Bool.or_eq_true, decide_eq_true_eq] at h4
        have hL : Loc X.env.scope x := by
          rw [g.hsc]
          exact h4
        exact is_set nd hi hL hp he (swaps_no hc _ _ _) hf
      · split at h4
        · rename_i elt tg iter ifs scope q _
          simp only [Bool.or_eq_true, Bool.and_eq_true, decide_eq_true_eq, Bool.not_eq_true'] at h4
          rcases h4 with ⟨⟨h5, h6⟩, h7⟩ | h5
          · -- stored within the block's frame
            have hy : X.env.scope.names.lookup x = some .local := by rw [g.hsc]; exact h5
            have hkd : X.env.scope.kind = .function := by rw [g.hsc]; exact g.kd
            exact okSetLc c g h3 nd hi hy hp hkd h6 h7
          · have hL : Loc X.env.scope x := by
              rw [g.hsc]
              exact .inr h5
            exact is_set nd hi hL hp he (swaps_cell (by rw [g.hsc]; exact h5)) hf
        · cases h4
    · cases h
  | .fed i f, X, sc, pn, g, st, h => by
    unfold chkS at h
    split at h
    · rename_i x px gf hh q p
      simp only [Bool.and_eq_true, Bool.or_eq_true, decide_eq_true_eq] at h
      obtain ⟨⟨⟨⟨h1, h2⟩, h3⟩, h4⟩, h5⟩ := h
      unfold evS
      cases hf : W.feed with
      | none => exact ⟨fun pins s σ H D I ⟨e, J, F, s', fl, e', h, q⟩ => by cases h⟩
      | some t =>
        have hL : Loc X.env.scope x := by
          rw [g.hsc]
          exact h5
        exact is_set (by rw [g.hN]; exact g.nd) (by rw [g.hN]; exact h1) hL (own_neg g h2) (ie_mk (g.feed rfl t hf f gf hh q h3 h4)) rfl (.inl (g.fnl rfl x))
    · cases h
  | .asg t c, X, sc, pn, g, st, h => by
    unfold chkS at h
    split at h
    · simp only [Bool.and_eq_true] at h
      obtain ⟨⟨h1, h2⟩, h3⟩ := h
      exact is_asg (pe_fz (okC c g _ h2).pe) (okTg t g h1) (fair_sole h3) (fair_stores h3) (fair_one h3)
    · cases h
  | .dput i k c, X, sc, pn, g, st, h => by
    unfold chkS at h
    split at h
    · simp only [Bool.and_eq_true] at h
      obtain ⟨⟨⟨⟨h1, h2⟩, _⟩, h3⟩, h4⟩ := h
      obtain ⟨x, p, rfl, hv⟩ := nm_var g h1
      exact is_dput (by have := g.units; omega) hv (pe_fz (okC k g _ h2).pe) (pe_fz (okC c g _ h3).pe) (swaps_no h4 _ _ _)
    · cases h
  | .par i j cs, X, sc, pn, g, st, h => by
    unfold chkS at h
    split at h
    · simp only [Bool.and_eq_true, decide_eq_true_eq, Bool.not_eq_true'] at h
      obtain ⟨⟨⟨⟨⟨⟨⟨⟨⟨⟨⟨⟨⟨a1, a2⟩, a3⟩, a4⟩, a5⟩, a6⟩, a7⟩, a8⟩, a9⟩, a10⟩, a11⟩, a12⟩, a13⟩, a14⟩ := h
      have hkd : X.env.scope.kind = .function := by rw [g.hsc]; exact g.kd
      have lx := a4
      have ly := a5
      rw [← g.hsc] at lx ly
      exact is_par g.calm (by rw [g.hN]; exact g.nd) (by rw [g.hN]; exact a1) (by rw [g.hN]; exact a2) a3 lx ly (own_neg g (by simpa using a6)) (own_neg g (by simpa using a7)) (okCs cs g _ a8).2.1 (par_stores hkd lx ly a9 a10 a11 a12 a13 a14) rfl
    · cases h
  | .ret c, X, sc, pn, g, st, h => by
    unfold chkS at h
    split at h
    · exact is_ret (okC c g _ h)
    · cases h
  | .retN, X, sc, pn, g, st, h => by
    unfold chkS at h
    split at h
    · exact is_retN
    · cases h
  | .exp c, X, sc, pn, g, st, h => by
    unfold chkS at h
    split at h
    · simp only [Bool.and_eq_true] at h
      exact is_exp (okC c g _ h.1) (swaps_no h.2 _ _ _)
    · cases h
  | .ifs c a b, X, sc, pn, g, st, h => by
    unfold chkS at h
    split at h
    · simp only [Bool.and_eq_true] at h
      obtain ⟨⟨⟨h1, h2⟩, h3⟩, h4⟩ := h
      exact is_if (okC c g _ h1) h2 (okSs a g _ h3) (okSs b g _ h4)
    · cases h
  | .whl n c b, X, sc, pn, g, st, h => by
    unfold chkS at h
    split at h
    · simp only [Bool.and_eq_true] at h
      obtain ⟨⟨h1, h2⟩, h3⟩ := h
      exact is_while (passes g) (okC c g _ h1) h2 (okSs b g _ h3)
    · cases h
  | .fore t it b, X, sc, pn, g, st, h => by
    unfold chkS at h
    split at h
    · simp only [Bool.and_eq_true] at h
      obtain ⟨⟨h1, h2⟩, h3⟩ := h
      have hI := okI it g h2
      exact is_for (passes g) g.calm hI.1 (okTg t g h1) (okSs b g _ h3) hI.2
    · cases h
  | .brk, X, sc, pn, g, st, h => by
    unfold chkS at h
    split at h
    · exact is_break
    · cases h
  | .cnt, X, sc, pn, g, st, h => by
    unfold chkS at h
    split at h
    · exact is_cont
    · cases h
  | .pass, X, sc, pn, g, st, h => by
    unfold chkS at h
    split at h
    · exact is_pass
    · cases h
theorem okSs : ∀ (s : Ss) {X : Cx} {sc : Scope} {pn : List (Nat × V)}, GX X W N sc L pn false → ∀ (st : List Stmt), chkSs N L sc s st = true → PSs X st (rdS X.K pn (evSs W s))
  | .nil, X, sc, pn, g, st, h => by
    unfold chkSs at h
    split at h
    · exact is_nil
    · cases h
  | .cons s r, X, sc, pn, g, st, h => by
    unfold chkSs at h
    split at h
    · simp only [Bool.and_eq_true] at h
      exact is_cons (okS s g _ h.1) (okSs r g _ h.2)
    · cases h
end
end
end IL

namespace IL
open PySem PySem.Spec PyProof.Rows L2

/-- the defs and constants around, proved to a level -/
structure Tab (P : Program) (w : World) (K : PySem.W.Frag) (mg : Str → Option Value) (base : Heap) (k : Nat) (W : Wd) : Prop where
  blt : ∀ x ∈ bltNames, mg x = none
  fn : ∀ x fe, W.fn x = some fe → ∃ f fd ps, FnG P w K mg base CX0 k f fd ps (spG K fe.np fe.lent fe.sem) ∧ mg x = some (.ref f) ∧ PySem.W.keepIn K (.ref f) = true ∧ Binds K fd ps []
  glb : ∀ x d, W.glb x = some d → ∃ v u, mg x = some u ∧ RelV v u ∧ ∀ J H, RD K J H v d
  feed : W.feed = none
def Wd.add (W : Wd) (x : Str) (fe : Fe) : Wd := { W with fn := fun y => if y = x then some fe else W.fn y }
/-- a def as it stands -/
structure Df (K : PySem.W.Frag) (mg : Str → Option Value) (x : Str) (st : Stmt) (N ps : List Str) : Prop where
  fn : ∃ f fd, Fun K x x st f fd ∧ mg x = some (.ref f) ∧ Binds K fd ps []
  sc : FnScope N ps (defScope st)
section
variable {P : Program} {w : World} {K : PySem.W.Frag} {mg : Str → Option Value} {base : Heap}
theorem gx_of {k : Nat} {W : Wd} {X : Cx} {N ps : List Str} {sc : Scope} {L : List Nat} {pn : List (Nat × V)} (t : Tab P w K mg base k W) (S : FnScope N ps sc)
    (h1 : X.prog = P) (h2 : X.w = w) (h3 : X.K = K) (h4 : X.mg = mg) (h5 : X.base = base) (h6 : X.N = N) (h7 : X.env.scope = sc) (h8 : X.calm = true) (h9 : X.xe = fun _ _ => False) (h10 : Room k X.A) (h11 : X.A.guards = some []) (h12 : ∀ y, X.fn y = true) (h13 : ∀ p ∈ pn, p.1 ∈ L) : GX X W N sc L pn false := by
  subst h1 h2 h3 h4 h5
  exact ⟨h8, h9, h6, S.nd, h7, S.kind, by have := h10.un; omega, h11, t.blt, fun x fe hx => by
    obtain ⟨f, fd, ps', G, a, b, c⟩ := t.fn x fe hx
    exact ⟨k, f, fd, ps', G, h10, a, b, c⟩, t.glb, fun _ t' ht => (by rw [t.feed] at ht; cases ht), h13, fun _ => h12⟩
/-- one def more -/
theorem Tab.add {k : Nat} {W : Wd} (t : Tab P w K mg base k W) {x : Str} {st : Stmt} {N ps : List Str} (d : Df K mg x st N ps) {L : List Nat} {c : Ss} (hc : chkSs N L (defScope st) c (defBody st) = true) {np : Nat} (hnp : ps.length = np) {F : FSem}
    (hF : ∀ ts r, ts.length = np → F ts = some r → runM N.length np L (evSs W c) ts = some r) : Tab P w K mg base (k + 1) (W.add x ⟨np, L, F⟩) := by
  subst hnp
  obtain ⟨f, fd, Fu, hmg, hb⟩ := d.fn
  have G : FnG P w K mg base CX0 (k + 1) f fd ps (spG K ps.length L F) := by
    have G0 := fnG_body (P := P) (w := w) (mg := mg) (base := base) (k := k) (L := L) (g := evSs W c) Fu d.sc fun X pn h1 h2 h3 h4 h5 h6 h7 h8 h9 h10 h11 h12 h13 =>
      okSs c (gx_of t d.sc h1 h2 h3 h4 h5 h6 h7 h8 h9 h10 h11 h12 h13) _ hc
    exact (G0.imp runM_sp).imp (spG.imp hF)
  refine ⟨t.blt, fun y fe hy => ?_, t.glb, t.feed⟩
  unfold Wd.add at hy
  simp only at hy
  split at hy
  · rename_i e
    subst e
    cases hy
    exact ⟨f, fd, ps, G, hmg, Fu.kp, hb⟩
  · obtain ⟨f', fd', ps', G', a, b, c'⟩ := t.fn y fe hy
    exact ⟨f', fd', ps', G'.mono (Nat.le_succ k), a, b, c'⟩
/-- a def that calls itself: what it tells in m turns -/
theorem Tab.recur {k : Nat} {W : Wd} (t : Tab P w K mg base k W) {x : Str} {st : Stmt} {N ps : List Str} (d : Df K mg x st N ps) {L : List Nat} {c : Ss} (hc : chkSs N L (defScope st) c (defBody st) = true) {np : Nat} (hnp : ps.length = np) {F : Nat → FSem}
    (h0 : ∀ ts, F 0 ts = none) (hF : ∀ m ts r, ts.length = np → F (m + 1) ts = some r → runM N.length np L (evSs (W.add x ⟨np, L, F m⟩) c) ts = some r) : ∀ m, Tab P w K mg base (k + m) (W.add x ⟨np, L, F m⟩)
  | 0 => by
    subst hnp
    obtain ⟨f, fd, Fu, hmg, hb⟩ := d.fn
    refine ⟨t.blt, fun y fe hy => ?_, t.glb, t.feed⟩
    unfold Wd.add at hy
    simp only at hy
    split at hy
    · rename_i e
      subst e
      cases hy
      exact ⟨f, fd, ps, ⟨fun vs H Q E h => h.1, fun B o s H args us vs Q E hr hg he hb hv h => by
        obtain ⟨_, J, fp, ts, _, t, outs, hF, _⟩ := h
        simp only [h0] at hF
        cases hF⟩, hmg, Fu.kp, hb⟩
    · exact t.fn y fe hy
  | m + 1 => by
    have t' := Tab.recur t d hc hnp h0 hF m
    have t2 := t'.add d hc hnp (hF m)
    have e : ((W.add x ⟨np, L, F m⟩).add x ⟨np, L, F (m + 1)⟩) = W.add x ⟨np, L, F (m + 1)⟩ := by
      unfold Wd.add
      simp only
      congr
      funext y
      split <;> rfl
    rw [e] at t2
    exact t2
end
end IL

namespace IL
open PySem PySem.Spec PyProof.Rows L2

/-! ### what a law is fed -/
def spFeed (K : PySem.W.Frag) : Sp := fun vs H Q _ => ∃ (a : Addr) (ns : List Int), vs = [.ref a] ∧ SqL K H a (ns.map V.int) ∧ ns.length ≤ 63 ∧
  ∀ H' p c, p ≠ c → H' p = some (.lst [.ref c, .int 0, .int 0, .int 0]) → H' c = some (.lst (ns.map V.int)) → Q (.ref p) H'
theorem cut63 (xs : List V) (h : xs.length ≤ 63) : cutV xs none (some 63) = xs := by
  unfold cutV
  rw [HT.sIx_none, show HT.sIx xs.length xs.length (some 63) = min 63 xs.length from HT.sIx_nat _ _ 63]
  rw [Nat.min_eq_right h, List.drop_zero, Nat.sub_zero, List.take_length]
section
variable {P : Program} {w : World} {K : PySem.W.Frag} {mg : Str → Option Value} {base : Heap}
theorem feed_ok {k : Nat} {f : Addr} {x : Str} {st : Stmt} {fd : FuncData} {s : Str} {p1 p2 p3 p4 p5 p6 p7 p8 p9 : Pos} {j1 j2 j3 j4 : Nat} (F : Fun K x x st f fd) (S : FnScope [s] [s] (defScope st)) (hv : Vis (defScope st) s) (hd : nmOk s = true)
    (hb : defBody st = [.Return (some (.List [.Subscript (.Name s p1) (.Slice none (some (.Constant (.int 63) j1 p2)) none p3) p4, .Constant (.int 0) j2 p5, .Constant (.int 0) j3 p6, .Constant (.int 0) j4 p7] p8)) p9]) :
    FnG P w K mg base CX0 (k + 1) f fd [s] (spFeed K) := by
  refine fnG_of F S (fun vs H Q E h => by obtain ⟨a, ns, rfl, _⟩ := h; rfl) fun cdv B around s1 H vs Q E hr hg h => ?_
  obtain ⟨a, ns, rfl, hS, hl, q⟩ := h
  rw [hb]
  obtain ⟨d1, d2⟩ := nmOk_d hd
  have hvar : PE (cxOf CX0 P w K mg base [s] x (defScope st) f cdv B around s1 H E) (.Name s p1) (tVar 0) := pe_var rfl hv d1 d2
  refine ⟨_, pss_one (ps_ret (pe_lst (pa_cons (pe_slice sl_list hvar po_none (po_some pe_int)) (pa_cons pe_int (pa_cons pe_int (pa_cons pe_int pa_nil)))))), ?_⟩
  refine ⟨.ref a, rfl, 63, rfl, a, ns.map V.int, rfl, hS, fun c hc => ?_⟩
  refine ⟨by show 4 ≤ sizeLine; decide, fun p hp => ?_⟩
  have hpc : p ≠ c := fun z => by
    subst z
    rw [upd_same] at hp
    cases hp
  rw [cut63 _ (by rw [List.length_map]; exact hl)] at hp ⊢
  exact q _ p c hpc upd_same (by rw [upd_ne (Ne.symm hpc), upd_same])
def spLawG (K : PySem.W.Frag) : Sp := fun vs H Q _ => ∃ (a : Addr) (ns : List Int), vs = [.ref a] ∧ SqL K H a (ns.map V.int) ∧ ns.length ≤ 63 ∧ ∀ H', Q (.bl true) H'
/-- the feed as a tree -/
def feedT (cells : List Int) : T := .lst [.leaf (.list (cells.map .int)), .leaf (.int 0), .leaf (.int 0), .leaf (.int 0)]
theorem re_none {J : Addr → Prop} {H : Hp} : ∀ σ : L2.St, RE K J H σ (List.replicate σ.length none) []
  | [] => .nil
  | _ :: σ => .out (re_none σ)
theorem rds_ints {J : Addr → Prop} {H : Hp} : ∀ ns : List Int, RDs K J H (ns.map V.int) (ns.map PyData.int)
  | [] => .nil
  | n :: r => .cons (.int n) (rds_ints r)
theorem law_ok {k i : Nat} {W : Wd} {f ff : Addr} {fd ffd : FuncData} {st : Stmt} {N : List Str} {s y fe : Str} {c : Ss} {rest : List Stmt} {p1 p2 p3 p4 p5 : Pos} (t : Tab P w K mg base k W)
    (F : Fun K "law" "law" st f fd) (S : FnScope N [s] (defScope st)) (G : FnG P w K mg base CX0 k ff ffd [s] (spFeed K)) (hmg : mg fe = some (.ref ff)) (hkp : PySem.W.keepIn K (.ref ff) = true) (hbi : Binds K ffd [s] [])
    (hb : defBody st = .Assign [.Name y p1] (.Call (.Name fe p2) [.Name s p3] [] p4) p5 :: rest) (hi : N[i]? = some y) (h0 : N[0]? = some s) (hy : Loc (defScope st) y) (hs : visB (defScope st) s = true) (hd : nmOk s = true) (hfe : gloB (defScope st) fe = true) (hfd : nmOk fe = true)
    (hc : chkSs N [] (defScope st) c rest = true)
    (hrun : ∀ cells : List Int, cells.length ≤ 63 → ∃ e', evSs W c ((List.replicate N.length none).set i (some (feedT cells))) = .ok (.rt (.leaf (.bool true))) e') : FnG P w K mg base CX0 (k + 1) f fd [s] (spLawG K) := by
  refine fnG_of F S (fun vs H Q E h => by obtain ⟨a, ns, rfl, _⟩ := h; rfl) fun cdv B around s1 H vs Q E hr hg h => ?_
  obtain ⟨a, ns, rfl, hS, hl, q⟩ := h
  have g : GX (cxOf CX0 P w K mg base N "law" (defScope st) f cdv B around s1 H E).nox W N (defScope st) [] [] false := gx_of t S rfl rfl rfl rfl rfl rfl rfl rfl rfl hr hg (fun _ => rfl) (fun _ h => (nomatch h))
  have hrest := okSs c g rest hc
  obtain ⟨d1, d2⟩ := nmOk_d hd
  have hgl : Gl (cxOf CX0 P w K mg base N "law" (defScope st) f cdv B around s1 H E).nox fe := by
    unfold gloB at hfe
    split at hfe
    · assumption
    · cases hfe
  have hvar : PE (cxOf CX0 P w K mg base N "law" (defScope st) f cdv B around s1 H E).nox (.Name s p3) (tVar 0) := pe_var h0 (visB_vis hs) d1 d2
  have hcall := pe_callG (X := (cxOf CX0 P w K mg base N "law" (defScope st) f cdv B around s1 H E).nox) (pos := p4) (p := p2) G hr hg hgl hmg hkp hbi .nil pass0 (pa_cons hvar pa_nil) (nmOk_d hfd).1 rfl rfl
  have hset := ps_set (X := (cxOf CX0 P w K mg base N "law" (defScope st) f cdv B around s1 H E).nox) (pos := p5) (pos' := p1) S.nd hi hy hcall rfl (.inl rfl)
  rw [hb]
  refine ⟨_, PSs.nox (pss_cons hset hrest), ?_⟩
  have hps : 1 ≤ N.length := by
    have := (List.getElem?_eq_some_iff.mp h0).1
    omega
  have hst : (L2.start N [V.ref a])[0]? = some (some (.ref a)) := rfl
  refine ⟨.ref a, hst, a, ns, rfl, hS, hl, fun H' p cc hpc hp hcc => ?_⟩
  obtain ⟨e', he⟩ := hrun ns hl
  have hlen : (L2.start N [V.ref a]).length = N.length := by
    unfold L2.start
    simp
    omega
  have s0 : SR K [] (L2.start N [V.ref a]) H' (List.replicate N.length none) (fun b => b = cc) [] := by
    refine ⟨by rw [← hlen]; exact re_none _, .nil, fun _ h => (nomatch h), fun b z => ?_, fun _ h => (nomatch h)⟩
    subst z
    rw [hcc]
    exact fun z => nomatch z
  have ow : Own K (fun b => b = cc) H' [] (.ref p) (feedT ns) [p] := by
    refine ⟨.lst hp (.cons (f := []) (.leaf (.lst rfl hcc (rds_ints ns))) (.cons (f := []) (.leaf (.int 0)) (.cons (f := []) (.leaf (.int 0)) (.cons (f := []) (.leaf (.int 0)) .nil)))), by simp, fun b hb => ?_⟩
    simp at hb
    subst hb
    exact hpc
  have hilt : i < N.length := (List.getElem?_eq_some_iff.mp hi).1
  obtain ⟨F1, s2, _⟩ := s0.set (i := i) (by simpa using hilt) (fun _ h => (nomatch h)) ow
  exact ⟨_, _, F1, s2, _, e', he, fun v σ' H2 J' F' fp s' o' tr => by
    obtain ⟨rfl, _⟩ := own_bool o'
    exact q H2⟩
end

/-! ### the law's call, from the heap behind the top -/
theorem lawG_call {P : Program} {w : World} {K : PySem.W.Frag} {mg nb : Str → Option Value} {k : Nat} {fa a : Addr} {fd : FuncData} {x : Str} {sp : Sp} {s : Shared} {us : List Value} {ns : List Int}
    (inK : K.In s.heap) (glob : s.heap.Ns mainGlobals mg) (blts : s.heap.Ns builtinsNs nb) (bltsAre : ∀ x : Str, x ≠ "__name__" → nb x = bootBuiltins x) (nolim : s.heap.NoLimit) (nogen : s.gens = #[])
    (here : s.heap.get? a = some { cls := .type "list", data := .seq us.toArray }) (are : IntsAre us ns) (few : ns.length ≤ sizeLine) (room : Room k callerA)
    (G : ∀ base : Heap, K.In base → base.Ns mainGlobals mg → FnG P w K mg base CX0 k fa fd [x] sp) (bd : ∀ (s : Shared) (u : Value), BindsTo s fd ⟨[u], []⟩ [(x, u)])
    (want : ∀ H : Hp, SqL K H a (ns.map V.int) → sp [.ref a] H (fun v _ => v = .bl true) fun _ _ _ => False) :
    codeAny (model P w) callerA (.call (.ref fa) ⟨[.ref a], []⟩) (fun r s' => r = .ok (.ret (.bool true)) ∧ OldK s.heap s'.heap ∧ s'.os = s.os ∧ AllBare s'.gens) s := by
  have vals := vals_ints are
  have usLen := are.length
  have go : ∀ H : Hp, (∀ b, H b = none ∨ ∃ o xs, H b = some (.frz o (.lst xs))) → SqL K H a (ns.map V.int) → HOk P w H s.heap → (∀ b, H b ≠ none → b = a) → (H a ≠ none → K.lookup a = none) →
      codeAny (model P w) callerA (.call (.ref fa) ⟨[.ref a], []⟩) (fun r s' => r = .ok (.ret (.bool true)) ∧ OldK s.heap s'.heap ∧ s'.os = s.os ∧ AllBare s'.gens) s := by
    intro H lone hS good just notK
    have shown : ∀ {b : Addr} {o : Obj}, s.heap.get? b = some o → H b = none → (hidT s.heap H).get? b = some o := fun e n => hidT_get e n
    have apart : ∀ {b : Addr} {o : Obj}, s.heap.get? b = some o → (∀ us n, o.data ≠ .seq us n) → H b = none := fun {b o} e d => by
      cases q : H b with
      | none => rfl
      | some u =>
        have z : b = a := just b (by rw [q]; exact fun z => (nomatch z))
        rw [z, here] at e
        cases e
        exact absurd rfl (d _ _)
    have nsOf : ∀ {b : Addr} {m : Str → Option Value}, s.heap.Ns b m → (hidT s.heap H).Ns b m := by
      rintro b m ⟨o, es, ep, e, d, r⟩
      exact ⟨o, es, ep, shown e (apart e fun us n z => by rw [d] at z; cases z), d, r⟩
    have inB : K.In (hidT s.heap H) := fun b o e => shown (inK b o e) (by
      cases q : H b with
      | none => rfl
      | some u =>
        have nz : H b ≠ none := by rw [q]; exact fun z => nomatch z
        have z : b = a := just b nz
        subst z
        rw [notK nz] at e
        cases e)
    obtain ⟨ml, l1, l2⟩ := nolim
    have md : Mod K mg (hidT s.heap H) := ⟨inB, nsOf glob, ⟨nb, nsOf blts, bltsAre⟩, ml, nsOf l1, l2⟩
    have env : Env0 P w K mg (hidT s.heap H) callerA [] s H := ⟨rfl, md, fun b o e => of_hidT e, Nat.le_of_eq (hidT_size _ _), trivial, fun b hb => (nomatch hb), good, .of_eq nogen⟩
    refine codeAny_mono ((G _ inB (nsOf glob)).run callerA [] s H ⟨[.ref a], []⟩ [.ref a] [.ref a] _ _ room rfl env (bd s (.ref a)) (.cons rfl .nil) (want H hS)) ?_
    rintro r s' hq
    match r, hq with
    | .error e, hq => exact hq.elim
    | .ok .next, hq => exact hq.elim
    | .ok .brk, hq => exact hq.elim
    | .ok .cont, hq => exact hq.elim
    | .ok (.ret u), ⟨v, H', os, bare, un, good', ru, q⟩ =>
      have q2 : v = .bl true := q
      subst q2
      have ru2 : u = Value.bool true := ru
      subst ru2
      refine ⟨rfl, OldK.of_keep fun b o e => ?_, os, bare⟩
      rcases lone b with n | ⟨ob, xs, z⟩
      · exact un.keep b o e n (fun z => (nomatch z)) (fun z => (nomatch z))
      · obtain ⟨e1, _⟩ := good b _ z
        obtain ⟨e2, _⟩ := good' b _ (un.frzs b ob _ z)
        rw [e] at e1
        cases e1
        exact e2
  cases hk : K.lookup a with
  | some o =>
    have e := inK a o hk
    rw [here] at e
    cases e
    exact go (fun _ => none) (fun _ => .inl rfl) (.inr ⟨_, us.toArray, _, hk, rfl, rfl, rfl, by rw [List.size_toArray, usLen]; exact few, by simpa using vals⟩) (fun b u z => by cases z) (fun b z => absurd rfl z) fun z => absurd rfl z
  | none =>
    have fz : ∀ b, (fun b => if b = a then some (HO.frz { cls := .type "list", data := .seq us.toArray } (.lst (ns.map V.int))) else none) b = if b = a then some (HO.frz { cls := .type "list", data := .seq us.toArray } (.lst (ns.map V.int))) else none := fun _ => rfl
    refine go (fun b => if b = a then some (.frz { cls := .type "list", data := .seq us.toArray } (.lst (ns.map V.int))) else none) (fun b => ?_) (.inl (.inr ⟨{ cls := .type "list", data := .seq us.toArray }, if_pos rfl⟩)) (fun b u z => ?_) (fun b z => ?_) fun _ => hk
    · by_cases hb : b = a
      · exact .inr ⟨_, _, if_pos hb⟩
      · exact .inl (if_neg hb)
    · by_cases hb : b = a
      · have z2 := (if_pos hb).symm.trans z
        cases z2
        subst hb
        exact ⟨here, by rw [List.length_map]; exact few, us, _, vals, here⟩
      · have z2 := (if_neg hb).symm.trans z
        cases z2
    · by_cases hb : b = a
      · exact hb
      · exact absurd (if_neg hb) z
theorem walkG {l : PySem.W.OpenLaw} {n k : Nat} {q : Program} {loose : List Str} {XP : (Str → Option Value) → Heap → Prop} {YP : World → Heap → Prop} {d : DefRec} {K : Params → PySem.W.Frag} {sp : World → Sp} {x : Str}
    (most : l.most = some n) (few : n ≤ sizeLine) (nodef : d.params.defaults = []) (room : Room k callerA)
    (inK : ∀ (w : World) (h : Heap), YP w h → (K w.params).In h)
    (F : ∀ (w : World) (mg : Str → Option Value) (fa : Addr) (h : Heap), (K w.params).In h → h.Ns mainGlobals mg → mg d.name = some (.ref fa) →
      ∃ fd : FuncData, (∀ (s : Shared) (u : Value), BindsTo s fd ⟨[u], []⟩ [(x, u)]) ∧
        ∀ base : Heap, (K w.params).In base → base.Ns mainGlobals mg → FnG l.prog w (K w.params) mg base CX0 k fa fd [x] (sp w))
    (want : ∀ (w : World) (H : Hp) (a : Addr) (ns : List Int), ns.length ≤ n → SqL (K w.params) H a (ns.map V.int) → sp w [.ref a] H (fun v _ => v = .bl true) fun _ _ _ => False) :
    PySem.W.WalkO q loose XP YP l.row.toRowW d [] (fun f vs => PySem.call f vs) := by
  refine Att.attach_call most nodef ?_
  intro w s₀ s mg nb fa o pm cd doc a us ns Gd Y ho hd hcd hmg hobj hints hlen hgen
  have KX := inK w _ Y
  obtain ⟨fd, bd, hF⟩ := F w mg fa _ KX Gd.T.g hmg
  exact lawG_call KX Gd.T.g Gd.T.b Gd.T.builtins Gd.T.nolimit hgen hobj hints (Nat.le_trans hlen few) room hF bd fun H hS => want w H a ns hlen hS
theorem rv_int (i : Int) (t : Tok) : RelV (.int i) (.int i t) := ⟨_, rfl⟩
theorem rv_str (i : Str) (t : Tok) : RelV (.str i) (.str i t) := ⟨_, rfl⟩
theorem rv_bl (b : Bool) : RelV (.bl b) (.bool b) := rfl
theorem rv_ref (a : Addr) : RelV (.ref a) (.ref a) := rfl
end IL

namespace IL
open PySem PySem.Spec PyProof.Rows L2
/-! the frame of the laws that ask of the script's bits, and of those fed by list(script[:63]) -/
theorem bits_log {n : Int} (h : Builtin.Int.intBits n ≤ 1048576) : n.natAbs.log2 ≤ 1048576 := by
  unfold Builtin.Int.intBits at h
  split at h
  · rename_i hz
    have : n = 0 := by simpa using hz
    subst this
    decide
  · omega
section
variable {P : Program} {w : World} {K : PySem.W.Frag} {mg : Str → Option Value} {base : Heap}
theorem feed_okL {k : Nat} {f : Addr} {x : Str} {st : Stmt} {fd : FuncData} {s : Str} {p1 p2 p3 p4 p5 p6 p7 p8 p9 q1 q2 : Pos} {j1 j2 j3 j4 : Nat} (F : Fun K x x st f fd) (S : FnScope [s] [s] (defScope st)) (hv : Vis (defScope st) s) (hd : nmOk s = true)
    (hgl : gloB (defScope st) "list" = true) (hmg : mg "list" = none)
    (hb : defBody st = [.Return (some (.List [.Call (.Name "list" q1) [.Subscript (.Name s p1) (.Slice none (some (.Constant (.int 63) j1 p2)) none p3) p4] [] q2, .Constant (.int 0) j2 p5, .Constant (.int 0) j3 p6, .Constant (.int 0) j4 p7] p8)) p9]) :
    FnG P w K mg base CX0 (k + 1) f fd [s] (spFeed K) := by
  refine fnG_of F S (fun vs H Q E h => by obtain ⟨a, ns, rfl, _⟩ := h; rfl) fun cdv B around s1 H vs Q E hr hg h => ?_
  obtain ⟨a, ns, rfl, hS, hl, q⟩ := h
  rw [hb]
  obtain ⟨d1, d2⟩ := nmOk_d hd
  have hvar : PE (cxOf CX0 P w K mg base [s] x (defScope st) f cdv B around s1 H E) (.Name s p1) (tVar 0) := pe_var rfl hv d1 d2
  have hgl' : Gl (cxOf CX0 P w K mg base [s] x (defScope st) f cdv B around s1 H E) "list" := by
    unfold gloB at hgl
    split at hgl
    · assumption
    · cases hgl
  refine ⟨_, pss_one (ps_ret (pe_lst (pa_cons (pe_callTy call_list_of hgl' hmg (by decide +kernel) (pa_cons (pe_slice sl_list hvar po_none (po_some pe_int)) pa_nil)) (pa_cons pe_int (pa_cons pe_int (pa_cons pe_int pa_nil)))))), ?_⟩
  refine ⟨.ref a, rfl, 63, rfl, a, ns.map V.int, rfl, hS, fun c hc => ?_⟩
  rw [cut63 _ (by rw [List.length_map]; exact hl)]
  refine ⟨c, ns.map V.int, rfl, .inl (.inl (.inl upd_same)), fun c2 hc2 => ?_⟩
  refine ⟨by show 4 ≤ sizeLine; decide, fun p hp => ?_⟩
  have hpc : p ≠ c2 := fun z => by
    subst z
    rw [upd_same] at hp
    cases hp
  exact q _ p c2 hpc upd_same (by rw [upd_ne (Ne.symm hpc), upd_same])
def spLawB (K : PySem.W.Frag) : Sp := fun vs H Q _ => ∃ (a : Addr) (ns : List Int), vs = [.ref a] ∧ SqL K H a (ns.map V.int) ∧ ns.length ≤ 63 ∧ (∀ n ∈ ns, Builtin.Int.intBits n ≤ 1048576) ∧ ∀ H', Q (.bl true) H'
theorem law_okB {k i : Nat} {W : Wd} {f ff : Addr} {fd ffd : FuncData} {st : Stmt} {N : List Str} {s y fe : Str} {c : Ss} {rest : List Stmt} {p1 p2 p3 p4 p5 : Pos} (t : Tab P w K mg base k W)
    (F : Fun K "law" "law" st f fd) (S : FnScope N [s] (defScope st)) (G : FnG P w K mg base CX0 k ff ffd [s] (spFeed K)) (hmg : mg fe = some (.ref ff)) (hkp : PySem.W.keepIn K (.ref ff) = true) (hbi : Binds K ffd [s] [])
    (hb : defBody st = .Assign [.Name y p1] (.Call (.Name fe p2) [.Name s p3] [] p4) p5 :: rest) (hi : N[i]? = some y) (h0 : N[0]? = some s) (hy : Loc (defScope st) y) (hs : visB (defScope st) s = true) (hd : nmOk s = true) (hfe : gloB (defScope st) fe = true) (hfd : nmOk fe = true)
    (hc : chkSs N [] (defScope st) c rest = true)
    (hrun : ∀ cells : List Int, cells.length ≤ 63 → (∀ n ∈ cells, n.natAbs.log2 ≤ 1048576) → ∃ e', evSs W c ((List.replicate N.length none).set i (some (feedT cells))) = .ok (.rt (.leaf (.bool true))) e') : FnG P w K mg base CX0 (k + 1) f fd [s] (spLawB K) := by
  refine fnG_of F S (fun vs H Q E h => by obtain ⟨a, ns, rfl, _⟩ := h; rfl) fun cdv B around s1 H vs Q E hr hg h => ?_
  obtain ⟨a, ns, rfl, hS, hl, hbt, q⟩ := h
  have g : GX (cxOf CX0 P w K mg base N "law" (defScope st) f cdv B around s1 H E).nox W N (defScope st) [] [] false := gx_of t S rfl rfl rfl rfl rfl rfl rfl rfl rfl hr hg (fun _ => rfl) (fun _ h => (nomatch h))
  have hrest := okSs c g rest hc
  obtain ⟨d1, d2⟩ := nmOk_d hd
  have hgl : Gl (cxOf CX0 P w K mg base N "law" (defScope st) f cdv B around s1 H E).nox fe := by
    unfold gloB at hfe
    split at hfe
    · assumption
    · cases hfe
  have hvar : PE (cxOf CX0 P w K mg base N "law" (defScope st) f cdv B around s1 H E).nox (.Name s p3) (tVar 0) := pe_var h0 (visB_vis hs) d1 d2
  have hcall := pe_callG (X := (cxOf CX0 P w K mg base N "law" (defScope st) f cdv B around s1 H E).nox) (pos := p4) (p := p2) G hr hg hgl hmg hkp hbi .nil pass0 (pa_cons hvar pa_nil) (nmOk_d hfd).1 rfl rfl
  have hset := ps_set (X := (cxOf CX0 P w K mg base N "law" (defScope st) f cdv B around s1 H E).nox) (pos := p5) (pos' := p1) S.nd hi hy hcall rfl (.inl rfl)
  rw [hb]
  refine ⟨_, PSs.nox (pss_cons hset hrest), ?_⟩
  have hps : 1 ≤ N.length := by
    have := (List.getElem?_eq_some_iff.mp h0).1
    omega
  have hst : (L2.start N [V.ref a])[0]? = some (some (.ref a)) := rfl
  refine ⟨.ref a, hst, a, ns, rfl, hS, hl, fun H' p cc hpc hp hcc => ?_⟩
  obtain ⟨e', he⟩ := hrun ns hl fun n hn => bits_log (hbt n hn)
  have hlen : (L2.start N [V.ref a]).length = N.length := by
    unfold L2.start
    simp
    omega
  have s0 : SR K [] (L2.start N [V.ref a]) H' (List.replicate N.length none) (fun b => b = cc) [] := by
    refine ⟨by rw [← hlen]; exact re_none _, .nil, fun _ h => (nomatch h), fun b z => ?_, fun _ h => (nomatch h)⟩
    subst z
    rw [hcc]
    exact fun z => nomatch z
  have ow : Own K (fun b => b = cc) H' [] (.ref p) (feedT ns) [p] := by
    refine ⟨.lst hp (.cons (f := []) (.leaf (.lst rfl hcc (rds_ints ns))) (.cons (f := []) (.leaf (.int 0)) (.cons (f := []) (.leaf (.int 0)) (.cons (f := []) (.leaf (.int 0)) .nil)))), by simp, fun b hb => ?_⟩
    simp at hb
    subst hb
    exact hpc
  have hilt : i < N.length := (List.getElem?_eq_some_iff.mp hi).1
  obtain ⟨F1, s2, _⟩ := s0.set (i := i) (by simpa using hilt) (fun _ h => (nomatch h)) ow
  exact ⟨_, _, F1, s2, _, e', he, fun v σ' H2 J' F' fp s' o' tr => by
    obtain ⟨rfl, _⟩ := own_bool o'
    exact q H2⟩
end
theorem walkGB {l : PySem.W.OpenLaw} {n k : Nat} {q : Program} {loose : List Str} {XP : (Str → Option Value) → Heap → Prop} {YP : World → Heap → Prop} {d : DefRec} {K : Params → PySem.W.Frag} {sp : World → Sp} {x : Str}
    (most : l.most = some n) (few : n ≤ sizeLine) (nodef : d.params.defaults = []) (room : Room k callerA)
    (inK : ∀ (w : World) (h : Heap), YP w h → (K w.params).In h)
    (F : ∀ (w : World) (mg : Str → Option Value) (fa : Addr) (h : Heap), (K w.params).In h → h.Ns mainGlobals mg → mg d.name = some (.ref fa) →
      ∃ fd : FuncData, (∀ (s : Shared) (u : Value), BindsTo s fd ⟨[u], []⟩ [(x, u)]) ∧
        ∀ base : Heap, (K w.params).In base → base.Ns mainGlobals mg → FnG l.prog w (K w.params) mg base CX0 k fa fd [x] (sp w))
    (want : ∀ (w : World) (H : Hp) (a : Addr) (ns : List Int), ns.length ≤ n → (∀ k ∈ ns, Builtin.Int.intBits k ≤ 1048576) → SqL (K w.params) H a (ns.map V.int) → sp w [.ref a] H (fun v _ => v = .bl true) fun _ _ _ => False) :
    PySem.W.WalkO q loose XP YP l.row.toRowW d [] (fun f vs => PySem.call f vs) := by
  refine Att.attach_callB most nodef ?_
  intro w s₀ s mg nb fa o pm cd doc a us ns Gd Y ho hd hcd hmg hobj hints hlen hbits hgen
  have KX := inK w _ Y
  obtain ⟨fd, bd, hF⟩ := F w mg fa _ KX Gd.T.g hmg
  exact lawG_call KX Gd.T.g Gd.T.b Gd.T.builtins Gd.T.nolimit hgen hobj hints (Nat.le_trans hlen few) room hF bd fun H hS => want w H a ns hlen hbits hS
end IL

namespace IL
open PySem PySem.Spec PyProof.Rows L2
/-! ### how a run is reckoned -/
/-- a def that turns nothing of what it is handed -/
def pureF (np : Nat) (g : List D → Option D) : FSem := fun ts => match leaves ts with
  | some ds => (match g ds with
    | some d => some (.leaf d, List.replicate np none)
    | none => none)
  | none => none
theorem leaves_eq : ∀ {ts : List T} {ds : List D}, leaves ts = some ds → ts = ds.map T.leaf
  | [], _, h => by cases h; rfl
  | t :: ts, ds, h => by
    cases t with
    | leaf d =>
      unfold leaves at h
      split at h
      · rename_i ds' h'
        cases h
        rw [leaves_eq h']
        rfl
      · cases h
    | lst _ => cases h
    | tup _ => cases h
    | dct _ => cases h
theorem maskN_nil : ∀ (e : List (Option T)) (k : Nat), maskN [] k e = List.replicate e.length none
  | [], _ => rfl
  | o :: r, k => by simp [maskN, maskN_nil r, List.replicate_succ]
def tell (m : M Fl) (e : En) : Option T := match m e with
  | .ok (.rt t) _ => some t
  | .ok .nx _ => some (.leaf .none)
  | _ => none
theorem pure_ok {nN np : Nat} {g : List D → Option D} {m : M Fl}
    (h : ∀ ds d, ds.length = np → g ds = some d → tell m (ds.map (fun d => some (T.leaf d)) ++ List.replicate (nN - np) none) = some (.leaf d)) :
    ∀ ts r, ts.length = np → pureF np g ts = some r → runM nN np [] m ts = some r := by
  intro ts r hl hp
  unfold pureF at hp
  split at hp
  · rename_i ds hds
    have e := leaves_eq hds
    subst e
    split at hp
    · rename_i d hd
      cases hp
      have he := h ds d (by simpa using hl) hd
      have e2 : (ds.map T.leaf).map some = ds.map (fun d => some (T.leaf d)) := by simp
      unfold runM runF
      rw [e2]
      unfold tell at he
      split at he
      · rename_i t e' h'
        cases he
        try rw [h']
        simp [maskN_nil]
      · rename_i e' h'
        cases he
        try rw [h']
        simp [maskN_nil]
      · cases he
    · cases hp
  · cases hp
/-- the same where an own list comes back, given up -/
theorem call_ret {F : FSem} {L : List Nat} {ls : List (Option Nat)} {fa : M (List T)} {e e1 : En} {ts : List T} {t : T} {outs : List (Option T)} (h1 : fa e = .ok ts e1) (h2 : F ts = some (t, outs)) : gCallF F L ls fa e = .ok t (putBack ls (maskN L 0 outs) e1) := by
  unfold gCallF bnd
  rw [h1]
  simp only [h2]
@[simp] theorem putBack_none (n m : Nat) : ∀ (e : En), putBack (List.replicate n none) (List.replicate m none) e = e := by
  induction n generalizing m with
  | zero => intro e; cases m <;> rfl
  | succ n ih =>
    intro e
    cases m with
    | zero => rfl
    | succ m => exact ih m e
def fr (a b : Int) : D := .tuple [.int a, .int b]
def fq (r : Rat) : D := fr r.num r.den
def lim (k : Nat) (i : Int) : Prop := i.natAbs < 2 ^ k
instance (k : Nat) (i : Int) : Decidable (lim k i) := inferInstanceAs (Decidable (_ < _))
theorem mulOk_lim {k l : Nat} {a b : Int} (ha : lim k a) (hb : lim l b) (h : k + l < 900000) : mulOk a b = true := by
  have h1 := wide_mul (a := k + 1) (b := l + 1) (Nat.lt_of_lt_of_le ha (Nat.pow_le_pow_right (by decide) (by omega))) (Nat.lt_of_lt_of_le hb (Nat.pow_le_pow_right (by decide) (by omega))) (by omega) (by omega) (by omega)
  have h2 : a.natAbs.log2 + b.natAbs.log2 < 1000000 := h1
  exact decide_eq_true (show a.natAbs.log2 + b.natAbs.log2 < 4000000 by omega)
theorem divOk_lim {k : Nat} {a b : Int} (h0 : b ≠ 0) (hb : lim k b) (h : k < 8000) : divOk a b = true := by
  refine decide_eq_true ⟨h0, ?_⟩
  by_cases hb0 : b.natAbs = 0
  · rw [hb0]; decide
  · exact (Nat.log2_lt hb0).mpr (Nat.lt_of_lt_of_le hb (Nat.pow_le_pow_right (by decide) (by omega)))
theorem lim_mul {k l : Nat} {a b : Int} (ha : lim k a) (hb : lim l b) : lim (k + l) (a * b) := by
  unfold lim at *
  rw [Int.natAbs_mul, Nat.pow_add]
  by_cases h0 : b.natAbs = 0
  · rw [h0, Nat.mul_zero]
    exact Nat.mul_pos (Nat.pow_pos (by decide)) (Nat.pow_pos (by decide))
  · exact Nat.mul_lt_mul'' ha hb
theorem lim_add {k : Nat} {a b : Int} (ha : lim k a) (hb : lim k b) : lim (k + 1) (a + b) := by
  unfold lim at *
  rw [Nat.pow_succ]
  have := Int.natAbs_add_le a b
  omega
theorem lim_sub {k : Nat} {a b : Int} (ha : lim k a) (hb : lim k b) : lim (k + 1) (a - b) := by
  unfold lim at *
  rw [Nat.pow_succ]
  have := Int.natAbs_sub_le a b
  omega
theorem lim_mono {k l : Nat} {a : Int} (ha : lim k a) (h : k ≤ l) : lim l a := Nat.lt_of_lt_of_le ha (Nat.pow_le_pow_right (by decide) h)

/-! ### the greatest common divisor, by rests -/
def swapBody : M Fl := gSeq (gPar 0 1 (consM (lf (gVar 1)) (consM (gBin modD (fz (lf (gVar 0))) (fz (lf (gVar 1)))) (ret [])))) (ret .nx)
theorem fmod_nat (x y : Nat) : (x : Int).fmod (y : Int) = ((x % y : Nat) : Int) := by
  rw [Int.fmod_eq_emod_of_nonneg _ (by omega)]
  rfl
theorem swap_step (x y : Nat) (hy : y ≠ 0) (rest : En) : swapBody (some (.leaf (.int x)) :: some (.leaf (.int y)) :: rest) = .ok .nx (some (.leaf (.int y)) :: some (.leaf (.int ((x % y : Nat) : Int))) :: rest) := by
  have h : decide ((y : Int) ≠ 0) = true := decide_eq_true (by omega)
  simp only [swapBody, gSeq, gPar, consM, lf, fz, gVar, gBin, modD, int2, bnd, ret, opt, List.getElem?_cons_zero, List.getElem?_cons_succ, List.set_cons_zero, List.set_cons_succ, frz, store, List.length_cons, h, if_true, fmod_nat]
  simp [ret]
theorem gcd_loop (cnd : M Bool) (hc : ∀ (x y : Nat) (rest : En), cnd (some (.leaf (.int x)) :: some (.leaf (.int y)) :: rest) = .ok (decide (y ≠ 0)) (some (.leaf (.int x)) :: some (.leaf (.int y)) :: rest)) :
    ∀ (k : Nat) (x y n : Nat) (rest : En), y < 2 ^ k → 2 * k + 1 ≤ n → gWhile n cnd swapBody (some (.leaf (.int x)) :: some (.leaf (.int y)) :: rest) = .ok .nx (some (.leaf (.int (Nat.gcd x y : Nat))) :: some (.leaf (.int 0)) :: rest) := by
  have stop : ∀ (x n : Nat) (rest : En), 1 ≤ n → gWhile n cnd swapBody (some (.leaf (.int x)) :: some (.leaf (.int ((0 : Nat) : Int))) :: rest) = .ok .nx (some (.leaf (.int (Nat.gcd x 0 : Nat))) :: some (.leaf (.int 0)) :: rest) := by
    intro x n rest hn
    obtain ⟨m, rfl⟩ : ∃ m, n = m + 1 := ⟨n - 1, by omega⟩
    unfold gWhile bnd
    rw [hc]
    simp [ret]
  have go : ∀ (x y n : Nat) (rest : En), y ≠ 0 → gWhile (n + 1) cnd swapBody (some (.leaf (.int x)) :: some (.leaf (.int y)) :: rest) = gWhile n cnd swapBody (some (.leaf (.int y)) :: some (.leaf (.int ((x % y : Nat) : Int))) :: rest) := by
    intro x y n rest hy
    conv => lhs; unfold gWhile bnd
    rw [hc]
    have : decide (y ≠ 0) = true := decide_eq_true hy
    simp only [this, if_true, bnd]
    rw [swap_step x y hy]
  intro k
  induction k with
  | zero =>
    intro x y n rest hy hn
    have : y = 0 := by simpa using hy
    subst this
    exact stop x n rest (by omega)
  | succ k ih =>
    intro x y n rest hy hn
    by_cases h0 : y = 0
    · subst h0
      exact stop x n rest (by omega)
    · obtain ⟨m, rfl⟩ : ∃ m, n = m + 1 + 1 := ⟨n - 2, by omega⟩
      rw [go x y (m + 1) rest h0]
      have hlt : x % y < y := Nat.mod_lt _ (by omega)
      by_cases h1 : x % y = 0
      · rw [h1, stop y (m + 1) rest (by omega)]
        rw [Nat.gcd_comm x y, Nat.gcd_rec y x, h1, Nat.gcd_comm 0 y]
      · rw [go y (x % y) m rest h1]
        have hlt2 : y % (x % y) < x % y := Nat.mod_lt _ (by omega)
        have hd : y % (x % y) + (x % y) ≤ y := by
          have := Nat.div_add_mod y (x % y)
          have h2 : 1 ≤ y / (x % y) := (Nat.one_le_div_iff (by omega)).mpr (by omega)
          have h3 : x % y * 1 ≤ x % y * (y / (x % y)) := Nat.mul_le_mul_left _ h2
          omega
        have hp : y % (x % y) < 2 ^ k := by rw [Nat.pow_succ] at hy; omega
        rw [ih (x % y) (y % (x % y)) m rest hp (by omega)]
        rw [Nat.gcd_comm x y, Nat.gcd_rec y x, Nat.gcd_comm (x % y) y, Nat.gcd_comm y (x % y), Nat.gcd_rec (x % y) y]
        rw [Nat.gcd_comm]

/-! ### the reckoning's rows -/
section
variable {α β : Type} {e e1 : En} {W : Wd}
@[simp] theorem ap_ret (a : α) : (IL.ret a : M α) e = .ok a e := rfl
@[simp] theorem ap_bad : (IL.bad : M α) e = .bad := rfl
@[simp] theorem ap_bnd (f : M α) (g : α → M β) : bnd f g e = match f e with
  | .ok a e' => g a e'
  | .bad => .bad
  | .exc x e' => .exc x e' := rfl
@[simp] theorem ap_optS (a : α) : opt (some a) e = .ok a e := rfl
@[simp] theorem ap_optN : opt (none : Option α) e = .bad := rfl
@[simp] theorem ap_lf (f : M D) : lf f = bnd f fun d => IL.ret (.leaf d) := rfl
@[simp] theorem ap_fz (f : M T) : fz f = bnd f fun t => IL.ret (frz t) := rfl
@[simp] theorem ap_fzs (f : M (List T)) : fzs f = bnd f fun t => IL.ret (frzs t) := rfl
@[simp] theorem frz_leaf (d : D) : frz (.leaf d) = d := by simp [frz]
@[simp] theorem frz_lst (ts : List T) : frz (.lst ts) = .list (ts.map frz) := by simp [frz, frzs_map]
@[simp] theorem frz_tup (ts : List T) : frz (.tup ts) = .tuple (ts.map frz) := by simp [frz, frzs_map]
@[simp] theorem frzs_eq (ts : List T) : frzs ts = ts.map frz := frzs_map ts
@[simp] theorem ap_var (i : Nat) : gVar i e = match e[i]? with
  | some (some t) => .ok (frz t) (e.set i (some (.leaf (frz t))))
  | _ => .bad := rfl
@[simp] theorem ap_held (i : Nat) : held i e = match e[i]? with
  | some (some _) => .ok () e
  | _ => .bad := rfl
@[simp] theorem ap_peek (i : Nat) (g : T → Option α) : peek i g e = match e[i]? with
  | some (some t) => opt (g t) e
  | _ => .bad := rfl
@[simp] theorem ap_store (i : Nat) (t : T) : store i t e = if i < e.length then .ok () (e.set i (some t)) else .bad := rfl
@[simp] theorem ap_take (i : Nat) : gTake i e = match e[i]? with
  | some (some t) => .ok t (e.set i none)
  | _ => .bad := rfl
@[simp] theorem ap_consM (f : M T) (g : M (List T)) : consM f g = bnd f fun t => bnd g fun ts => IL.ret (t :: ts) := rfl
@[simp] theorem ap_consL (i : Nat) (g : M (List T)) : consL i g = bnd (held i) fun _ => bnd g fun ts => bnd (gTake i) fun t => IL.ret (t :: ts) := rfl
@[simp] theorem ap_bin (g : D → D → Option T) (f h : M D) : gBin g f h = bnd f fun x => bnd h fun y => opt (g x y) := rfl
@[simp] theorem ap_chain (g g' : D → D → Option T) (fa fb fc : M D) : gChain g g' fa fb fc = bnd fa fun x => bnd fb fun y => bnd (opt (g x y)) fun t => bnd (opt (asB t)) fun b => if b then bnd fc fun z => opt (g' y z) else IL.ret (.leaf (.bool false)) := rfl
@[simp] theorem ap_vcmp (g : D → D → Option T) (i : Nat) (fb : M D) : gVcmp g i fb = bnd (held i) fun _ => bnd fb fun y => peek i fun t => onlyB (g (frz t) y) := rfl
@[simp] theorem ap_and (f g : M T) : gAnd f g = bnd f fun t => bnd (opt (asB t)) fun b => if b then g else IL.ret (.leaf (.bool false)) := rfl
@[simp] theorem ap_or (f g : M T) : gOr f g = bnd f fun t => bnd (opt (asB t)) fun b => if b then IL.ret (.leaf (.bool true)) else g := rfl
@[simp] theorem ap_not (f : M T) : gNot f = bnd f fun t => bnd (opt (asB t)) fun b => IL.ret (.leaf (.bool (!b))) := rfl
@[simp] theorem asB_bool (b : Bool) : asB (.leaf (.bool b)) = some b := rfl
@[simp] theorem ap_tst (f : M T) : tst f = bnd f fun t => opt (asB t) := rfl
@[simp] theorem ap_cond (f : M Bool) (g k : M α) : cond f g k = bnd f fun b => if b then g else k := rfl
@[simp] theorem ap_ix (f g : M D) : gIx f g = bnd f fun x => bnd g fun y => opt (ixD x y) := rfl
@[simp] theorem ap_vix (i : Nat) (g : M D) : gVix i g = bnd (held i) fun _ => bnd g fun y => peek i fun t => tIx t y := rfl
@[simp] theorem ap_seq (f g : M Fl) : gSeq f g = bnd f fun fl => match fl with
  | .nx => g
  | .bk => IL.ret .bk
  | .ct => IL.ret .ct
  | .rt t => IL.ret (.rt t) := rfl
@[simp] theorem ap_set (i : Nat) (f : M T) : gSet i f = bnd f fun t => bnd (store i t) fun _ => IL.ret .nx := rfl
@[simp] theorem ap_retS (f : M T) : gRet f = bnd f fun t => IL.ret (.rt t) := rfl
@[simp] theorem ap_exp (f : M T) : gExp f = bnd f fun _ => IL.ret .nx := rfl
@[simp] theorem ap_ifS (c : M Bool) (f g : M Fl) : gIfS c f g = cond c f g := rfl
@[simp] theorem ap_asg (f : M D) (bd : D → M Unit) : gAsg f bd = bnd f fun d => bnd (bd d) fun _ => IL.ret .nx := rfl
@[simp] theorem ap_call (g : List D → Option T) (f : M (List D)) : gCall g f = bnd f fun xs => opt (g xs) := rfl
@[simp] theorem ap_isi (t : Ty) (f : M D) : isiG t f = bnd f fun d => IL.ret (.leaf (.bool (isiB t d))) := rfl
@[simp] theorem ap_tup (f : M (List T)) : gTup f = bnd f fun ts => if ts.length ≤ most then IL.ret (mkTup ts) else IL.bad := rfl
@[simp] theorem ap_lst (f : M (List T)) : gLst f = bnd f fun ts => if ts.length ≤ most then IL.ret (.lst ts) else IL.bad := rfl
@[simp] theorem leaves_nil : leaves [] = some [] := rfl
@[simp] theorem leaves_cons (d : D) (r : List T) : leaves (.leaf d :: r) = match leaves r with
  | some ds => some (d :: ds)
  | none => none := rfl
@[simp] theorem ap_callF (F : FSem) (L : List Nat) (ls : List (Option Nat)) (fa : M (List T)) : gCallF F L ls fa = bnd fa fun ts => fun e => match F ts with
  | some (t, outs) => .ok t (putBack ls (maskN L 0 outs) e)
  | none => .bad := rfl
@[simp] theorem mask_nil (k : Nat) (e : List (Option T)) : maskN [] k e = List.replicate e.length none := maskN_nil e k
@[simp] theorem put_nil (ls : List (Option Nat)) (e : En) : putBack ls [] e = e := by cases ls <;> first | rfl | (rename_i l r; cases l <;> rfl)
@[simp] theorem put_none (ls : List (Option Nat)) (o : Option T) (r : List (Option T)) (e : En) : putBack (none :: ls) (o :: r) e = putBack ls r e := rfl
@[simp] theorem put_some (ls : List (Option Nat)) (i : Nat) (t : T) (r : List (Option T)) (e : En) : putBack (some i :: ls) (some t :: r) e = putBack ls r (match e[i]? with
  | some none => e.set i (some t)
  | _ => e) := rfl
@[simp] theorem most_ok {n : Nat} (h : n ≤ 100000) : n ≤ most := h
theorem ev_int (n : Int) : evC W (.int n) = lf (IL.ret (.int n)) := by simp [evC]
end
end IL

namespace IL
open PySem L2
theorem gcd_pos {a b : Int} (hb : b ≠ 0) : 0 < Int.gcd a b := Int.gcd_pos_of_ne_zero_right a hb
theorem rat_pos {a b : Int} (hb : 0 < b) : fr (a.fdiv (Int.gcd a b : Nat)) (b.fdiv (Int.gcd a b : Nat)) = fq (Rat.divInt a b) := by
  have hg := gcd_pos (a := a) (b := b) (by omega)
  unfold fq
  rw [Rat.num_divInt, Rat.den_divInt, if_neg (by omega), Int.sign_eq_one_of_pos hb, Int.one_mul, Int.gcd_comm b a]
  rw [Int.fdiv_eq_ediv_of_nonneg _ (by omega), Int.fdiv_eq_ediv_of_nonneg _ (by omega)]
  congr 1
  rw [Int.natCast_ediv]
  congr 1
  omega
theorem fdiv_neg_dvd {a d : Int} (hd : d ≠ 0) (h : d ∣ a) : a.fdiv (0 - d) = (-a) / d := by
  obtain ⟨q, rfl⟩ := h
  have e1 : d * q = (0 - d) * (-q) := by rw [Int.zero_sub, Int.neg_mul_neg]
  rw [e1, Int.mul_fdiv_cancel_left _ (by omega)]
  have e2 : -((0 - d) * -q) = d * -q := by rw [Int.zero_sub, Int.neg_mul_neg, Int.mul_neg]
  rw [e2, Int.mul_ediv_cancel_left _ hd]
theorem rat_neg {a b : Int} (hb : b < 0) : fr (a.fdiv (0 - (Int.gcd a b : Nat))) (b.fdiv (0 - (Int.gcd a b : Nat))) = fq (Rat.divInt a b) := by
  have hg := gcd_pos (a := a) (b := b) (by omega)
  unfold fq
  rw [Rat.num_divInt, Rat.den_divInt, if_neg (by omega), Int.sign_eq_neg_one_of_neg hb, Int.gcd_comm b a]
  rw [fdiv_neg_dvd (by omega) (Int.gcd_dvd_left ..), fdiv_neg_dvd (by omega) (Int.gcd_dvd_right ..)]
  rw [Int.neg_one_mul]
  congr 1
  rw [Int.natCast_ediv]
  congr 1
  omega
theorem gcd_abs (a b : Int) : (Nat.gcd (if a < 0 then -a else a).toNat (if b < 0 then -b else b).toNat) = Int.gcd a b := by
  unfold Int.gcd
  congr 1
  · split <;> omega
  · split <;> omega
theorem gcd_lim {k : Nat} {a b : Int} (hb : b ≠ 0) (h : lim k b) : lim k (Int.gcd a b : Nat) := by
  unfold lim at *
  have : Int.gcd a b ≤ b.natAbs := by
    have h1 := Int.gcd_dvd_natAbs_right a b
    exact Nat.le_of_dvd (by omega) h1
  simp
  omega
theorem lim_neg {k : Nat} {a : Int} : lim k (0 - a) ↔ lim k a := by unfold lim; rw [Int.zero_sub, Int.natAbs_neg]
/-! ### the operators' rows -/
@[simp] theorem abs_int (i : Int) : absD [.int i] = some (.leaf (.int (i.natAbs : Int))) := by
  show some (T.leaf (PyData.int (if i < 0 then -i else i))) = _
  congr 3
  split <;> omega
@[simp] theorem add_int (i j : Int) : addD (.int i) (.int j) = some (.leaf (.int (i + j))) := rfl
@[simp] theorem sub_int (i j : Int) : subD (.int i) (.int j) = some (.leaf (.int (i - j))) := rfl
@[simp] theorem mul_int (i j : Int) : mulD (.int i) (.int j) = if mulOk i j = true then some (.leaf (.int (i * j))) else none := by
  unfold mulD orr int2 tupRep
  split <;> simp_all
@[simp] theorem fdv_int (i j : Int) : fdvD (.int i) (.int j) = if divOk i j = true then some (.leaf (.int (i.fdiv j))) else none := rfl
@[simp] theorem mod_int (i j : Int) : modD (.int i) (.int j) = if j ≠ 0 then some (.leaf (.int (i.fmod j))) else none := by
  unfold modD int2
  simp
@[simp] theorem lt_int (i j : Int) : ltD (.int i) (.int j) = some (.leaf (.bool (decide (i < j)))) := rfl
@[simp] theorem le_int (i j : Int) : leD (.int i) (.int j) = some (.leaf (.bool (decide (i ≤ j)))) := rfl
@[simp] theorem gt_int (i j : Int) : gtD (.int i) (.int j) = some (.leaf (.bool (decide (j < i)))) := rfl
@[simp] theorem ge_int (i j : Int) : geD (.int i) (.int j) = some (.leaf (.bool (decide (j ≤ i)))) := rfl
@[simp] theorem eq_int (i j : Int) : eqD (.int i) (.int j) = some (.leaf (.bool (decide (i = j)))) := by
  show some (T.leaf (PyData.bool (i == j))) = _
  congr 3
@[simp] theorem ne_int (i j : Int) : neD (.int i) (.int j) = some (.leaf (.bool (decide (i ≠ j)))) := by
  show some (T.leaf (PyData.bool (!(i == j)))) = _
  by_cases h : i = j <;> simp [h]
@[simp] theorem pow_int (i j : Int) : powD (.int i) (.int j) = if powOk i j = true then some (.leaf (.int (i ^ j.toNat))) else none := rfl
@[simp] theorem mkTup2 (a b : D) : mkTup [.leaf a, .leaf b] = .leaf (.tuple [a, b]) := rfl
@[simp] theorem mkTup3 (a b c : D) : mkTup [.leaf a, .leaf b, .leaf c] = .leaf (.tuple [a, b, c]) := rfl
@[simp] theorem ix_tup0 (a : D) (r : List D) : ixD (.tuple (a :: r)) (.int 0) = some a := by simp [ixD, L2.atI, ixN]
@[simp] theorem ix_tup1 (a b : D) (r : List D) : ixD (.tuple (a :: b :: r)) (.int 1) = some b := by
  have : (1 : Int) < (r.length : Int) + 1 + 1 := by omega
  simp [ixD, L2.atI, ixN, this]
@[simp] theorem tix_leaf (d y : D) : tIx (.leaf d) y = ixD d y := rfl
theorem leaves_map : ∀ ds : List D, leaves (ds.map T.leaf) = some ds
  | [] => rfl
  | d :: r => by rw [List.map_cons, leaves_cons, leaves_map r]
end IL

namespace IL
open PySem PySem.Spec PyProof.Rows L2
/-! ### what repr may be asked of -/
structure Fine (n b : Nat) (d : D) : Prop where
  lay : d.canLay0 = true
  sho : d.showable = true
  sm : d.leavesShort 1000 = true
  dep : d.depth ≤ n
  blk : d.bulk ≤ b
theorem fine_int {i : Int} (h : lim 900 i) : Fine 0 0 (.int i) := by
  have hl : i.natAbs.log2 < 900 := by
    by_cases h0 : i.natAbs = 0
    · rw [h0]; decide
    · exact (Nat.log2_lt h0).mpr h
  refine ⟨by simp [PyData.canLay0], ?_, ?_, by simp [PyData.depth], by simp [PyData.bulk]⟩
  · simp only [PyData.showable, decide_eq_true_eq]; omega
  · simp only [PyData.leavesShort, decide_eq_true_eq, PyData.shown_int]
    have := int_text_length_le (a := i) (k := 900) (by decide) hl
    have e := PySem.ofString_length (toString i)
    omega
theorem fine_alls {n b : Nat} : ∀ {ds : List D}, (∀ d ∈ ds, Fine n b d) → PyData.canLayAll0 ds = true ∧ PyData.showableAll ds = true ∧ PyData.leavesShortAll 1000 ds = true ∧ PyData.depthAll ds ≤ n ∧ PyData.bulkAll ds ≤ ds.length * (b + 1)
  | [], _ => ⟨by simp [PyData.canLayAll0], by simp [PyData.showableAll], by simp [PyData.leavesShortAll], by simp [PyData.depthAll], by simp [PyData.bulkAll]⟩
  | d :: r, h => by
    obtain ⟨h1, h2, h3, h4, h5⟩ := fine_alls (ds := r) fun x hx => h x (.tail _ hx)
    have z := h d (.head _)
    refine ⟨by simp [PyData.canLayAll0, h1, z.lay], by simp [PyData.showableAll, h2, z.sho], by simp [PyData.leavesShortAll, h3, z.sm], ?_, ?_⟩
    · have := z.dep
      simp only [PyData.depthAll]
      omega
    · have := z.blk
      simp only [PyData.bulkAll, List.length_cons, Nat.add_mul]
      omega
theorem fine_tup {n b m : Nat} {ds : List D} (h : ∀ d ∈ ds, Fine n b d) (hm : ds.length ≤ m) : Fine (n + 1) (m * (b + 1)) (.tuple ds) := by
  obtain ⟨h1, h2, h3, h4, h5⟩ := fine_alls h
  have := Nat.mul_le_mul_right (b + 1) hm
  exact ⟨by simpa [PyData.canLay0] using h1, by simpa [PyData.showable] using h2, by simpa [PyData.leavesShort] using h3, by simp only [PyData.depth]; omega, by simp only [PyData.bulk]; omega⟩
theorem fine_lst {n b m : Nat} {ds : List D} (h : ∀ d ∈ ds, Fine n b d) (hm : ds.length ≤ m) : Fine (n + 1) (m * (b + 1)) (.list ds) := by
  obtain ⟨h1, h2, h3, h4, h5⟩ := fine_alls h
  have := Nat.mul_le_mul_right (b + 1) hm
  exact ⟨by simpa [PyData.canLay0] using h1, by simpa [PyData.showable] using h2, by simpa [PyData.leavesShort] using h3, by simp only [PyData.depth]; omega, by simp only [PyData.bulk]; omega⟩
theorem Fine.mono {n b n' b' : Nat} {d : D} (h : Fine n b d) (h1 : n ≤ n') (h2 : b ≤ b') : Fine n' b' d := ⟨h.lay, h.sho, h.sm, Nat.le_trans h.dep h1, Nat.le_trans h.blk h2⟩
theorem Fine.ok {d : D} (h : Fine 60 16000 d) : reprOk d = true := by
  have h1 := PyData.shown_le_bulk 1000 (by decide) d h.sm
  have h2 := h.blk
  have h3 := h.dep
  have h4 : (1000 + 2) * d.bulk ≤ 1002 * 16000 := Nat.mul_le_mul (by decide) h2
  simp only [reprOk, h.lay, h.sho, Bool.and_true, Bool.true_and, Bool.and_eq_true, decide_eq_true_eq, sizeLine_eq]
  omega
theorem repr_fine {d : D} (h : Fine 60 16000 d) : reprD [d] = some (.leaf (.str d.shown)) := by
  exact if_pos h.ok
@[simp] theorem ne_str_self (a : Str) : neD (.str a) (.str a) = some (.leaf (.bool false)) := by
  simp [neD, eqB, scalEq, bT]
/-! ### fractions within limits -/
def limQ (k : Nat) (r : Rat) : Prop := lim k r.num ∧ lim k (r.den : Int)
instance (k : Nat) (r : Rat) : Decidable (limQ k r) := inferInstanceAs (Decidable (_ ∧ _))
def px (p c : Rat) : D := .tuple [fq p, fq c]
theorem fine_fq {r : Rat} (h : limQ 900 r) : Fine 1 2 (fq r) := fine_tup (n := 0) (b := 0) (m := 2) (by
  intro d hd
  simp only [List.mem_cons, List.not_mem_nil, or_false] at hd
  rcases hd with rfl | rfl
  · exact fine_int h.1
  · exact fine_int h.2) (by simp)
theorem fine_px {p c : Rat} (h : limQ 900 p) (h' : limQ 900 c) : Fine 2 6 (px p c) := fine_tup (n := 1) (b := 2) (m := 2) (by
  intro d hd
  simp only [List.mem_cons, List.not_mem_nil, or_false] at hd
  rcases hd with rfl | rfl
  · exact fine_fq h
  · exact fine_fq h') (by simp)
theorem limQ.mono {k l : Nat} {r : Rat} (h : limQ k r) (hk : k ≤ l) : limQ l r := ⟨lim_mono h.1 hk, lim_mono h.2 hk⟩
theorem limQ_divInt {k : Nat} {a b : Int} (h0 : b ≠ 0) (ha : lim k a) (hb : lim k b) : limQ k (Rat.divInt a b) := by
  unfold limQ
  rw [Rat.num_divInt, Rat.den_divInt, if_neg h0]
  unfold lim at *
  constructor
  · have h1 : (b.sign * a / ((b.gcd a : Nat) : Int)).natAbs ≤ a.natAbs := by
      have e1 := Int.natAbs_ediv_le_natAbs (b.sign * a) ((b.gcd a : Nat) : Int)
      have e2 : (b.sign * a).natAbs = a.natAbs := by
        rw [Int.natAbs_mul, Int.natAbs_sign_of_ne_zero h0, Nat.one_mul]
      omega
    omega
  · have h1 := Nat.div_le_self b.natAbs (b.gcd a)
    rw [Int.natAbs_natCast]
    omega
theorem limQ.add {k l : Nat} {r s : Rat} (h : limQ k r) (h' : limQ l s) : limQ (k + l + 1) (r + s) := by
  have e : r + s = Rat.divInt (r.num * s.den + s.num * r.den) (r.den * s.den) := by
    conv => lhs; rw [← Rat.num_divInt_den r, ← Rat.num_divInt_den s]
    exact Rat.divInt_add_divInt _ _ (by have := r.den_pos; omega) (by have := s.den_pos; omega)
  rw [e]
  have d1 := r.den_pos
  have d2 := s.den_pos
  refine limQ_divInt (Int.mul_ne_zero (by omega) (by omega)) (lim_add (lim_mul h.1 h'.2) ?_) (lim_mono (lim_mul h.2 h'.2) (by omega))
  rw [Nat.add_comm k l]
  exact lim_mul h'.1 h.2
theorem limQ.sub {k l : Nat} {r s : Rat} (h : limQ k r) (h' : limQ l s) : limQ (k + l + 1) (r - s) := by
  rw [Rat.sub_eq_add_neg]
  refine h.add ⟨?_, ?_⟩
  · unfold lim; rw [Rat.neg_num, Int.natAbs_neg]; exact h'.1
  · rw [Rat.neg_den]; exact h'.2
theorem limQ.mul {k l : Nat} {r s : Rat} (h : limQ k r) (h' : limQ l s) : limQ (k + l) (r * s) := by
  have e : r * s = Rat.divInt (r.num * s.num) (r.den * s.den) := by
    conv => lhs; rw [← Rat.num_divInt_den r, ← Rat.num_divInt_den s]
    exact Rat.divInt_mul_divInt _ _
  rw [e]
  have d1 := r.den_pos
  have d2 := s.den_pos
  exact limQ_divInt (Int.mul_ne_zero (by omega) (by omega)) (lim_mul h.1 h'.1) (lim_mul h.2 h'.2)
theorem limQ_one : limQ 1 1 := by decide
theorem limQ_zero : limQ 1 0 := by decide
/-! ### runs -/
theorem run_pure {nN np : Nat} {m : M Fl} {ts : List T} {t : T} (h : tell m (ts.map some ++ List.replicate (nN - np) none) = some t) : runM nN np [] m ts = some (t, List.replicate np none) := by
  unfold tell at h
  unfold runM runF
  split at h
  · rename_i t' e' h'
    cases h
    try rw [h']
    simp [maskN_nil]
  · rename_i e' h'
    cases h
    try rw [h']
    simp [maskN_nil]
  · cases h
theorem gFor_inv {bd : D → M Unit} {b : M Fl} (Inv : Nat → En → Prop) : ∀ (ds : List D) (k : Nat) (e : En), Inv k e → (∀ i d e, ds[i]? = some d → Inv (k + i) e → ∃ e', (bnd (bd d) fun _ => b) e = .ok .nx e' ∧ Inv (k + i + 1) e') → ∃ e', gFor bd b ds e = .ok .nx e' ∧ Inv (k + ds.length) e'
  | [], k, e, h, _ => ⟨e, rfl, h⟩
  | d :: ds, k, e, h, st => by
    obtain ⟨e1, h1, i1⟩ := st 0 d e rfl h
    obtain ⟨e2, h2, i2⟩ := gFor_inv Inv ds (k + 1) e1 i1 fun i d' e' hi hI => by
      have := st (i + 1) d' e' hi (by rw [show k + (i + 1) = k + 1 + i by omega]; exact hI)
      rw [show k + (i + 1) + 1 = k + 1 + i + 1 by omega] at this
      exact this
    refine ⟨e2, ?_, by rw [List.length_cons, show k + (ds.length + 1) = k + 1 + ds.length by omega]; exact i2⟩
    unfold gFor
    unfold bnd at h1 ⊢
    split at h1
    · rename_i a e' h'
      have h3 : b e' = .ok .nx e1 := h1
      simp only [h3, h2]
    · cases h1
    · cases h1
theorem gLc_inv {vs : List Nat} {bd : D → M Unit} {tt : M Bool} {el : M D} (Inv : Nat → List D → En → Prop) : ∀ (ds : List D) (k : Nat) (acc : List D) (e : En), acc.length + ds.length ≤ most → Inv k acc e →
    (∀ i d acc e, ds[i]? = some d → Inv (k + i) acc e → ∃ e' x, (bnd (wipeM vs) fun _ => bnd (bd d) fun _ => bnd tt fun b => if b then el else bad) e = .ok x e' ∧ Inv (k + i + 1) (acc ++ [x]) e') →
    ∃ e' acc', gLc vs bd tt el ds acc e = (bnd (wipeM vs) fun _ => IL.ret (.lst (acc'.map .leaf))) e' ∧ acc'.length = acc.length + ds.length ∧ Inv (k + ds.length) acc' e'
  | [], k, acc, e, hm, h, _ => ⟨e, acc, rfl, rfl, h⟩
  | d :: ds, k, acc, e, hm, h, st => by
    obtain ⟨e1, x, h1, i1⟩ := st 0 d acc e rfl h
    simp only [List.length_cons] at hm
    obtain ⟨e2, acc2, h2, l2, i2⟩ := gLc_inv Inv ds (k + 1) (acc ++ [x]) e1 (by simp; omega) i1 fun i d' a' e' hi hI => by
      have := st (i + 1) d' a' e' hi (by rw [show k + (i + 1) = k + 1 + i by omega]; exact hI)
      rw [show k + (i + 1) + 1 = k + 1 + i + 1 by omega] at this
      exact this
    refine ⟨e2, acc2, ?_, by simp at l2 ⊢; omega, by rw [List.length_cons, show k + (ds.length + 1) = k + 1 + ds.length by omega]; exact i2⟩
    rw [← h2]
    have hw : wipeM vs e = .ok () (wipeE e vs) := rfl
    conv => lhs; unfold gLc
    simp only [bnd, hw] at h1 ⊢
    cases k1 : bd d (wipeE e vs) with
    | ok a e3 =>
      simp only [k1] at h1 ⊢
      cases k2 : tt e3 with
      | ok t e4 =>
        simp only [k2] at h1 ⊢
        cases t with
        | true =>
          simp only [if_true] at h1 ⊢
          simp only [if_pos (show acc.length < most by omega)]
          simp only [bnd, h1]
        | false => cases h1
      | bad => simp only [k2] at h1; cases h1
      | exc x e4 => simp only [k2] at h1; cases h1
    | bad => simp only [k1] at h1; cases h1
    | exc x e3 => simp only [k1] at h1; cases h1
end IL

namespace IL
open PySem PySem.Spec PyProof.Rows L2
/-! ### plain data of bounded depth and bulk -/
def leafOk : D → Bool
  | .none => true
  | .bool _ => true
  | .int i => decide (lim 400 i)
  | .str s => (PyData.str s).canLay0 && (PyData.str s).showable && (PyData.str s).leavesShort 1000
  | _ => false
/-- plain data: leaves, and tuples and lists, n deep -/
def Lv : Nat → D → Prop
  | 0, d => leafOk d = true
  | n + 1, d => leafOk d = true ∨ ∃ ds, (d = .tuple ds ∨ d = .list ds) ∧ ∀ x ∈ ds, Lv n x
theorem Lv.leaf : ∀ {n : Nat} {d : D}, leafOk d = true → Lv n d
  | 0, _, h => h
  | _ + 1, _, h => .inl h
theorem Lv.mono : ∀ {n n' : Nat} {d : D}, Lv n d → n ≤ n' → Lv n' d
  | 0, _, _, h, _ => .leaf h
  | n + 1, 0, _, _, hn => absurd hn (by omega)
  | n + 1, n' + 1, d, h, hn => by
    rcases h with h | ⟨ds, h1, h3⟩
    · exact .inl h
    · exact .inr ⟨ds, h1, fun x hx => (h3 x hx).mono (by omega)⟩
theorem fine_leaf {d : D} (h : leafOk d = true) : Fine 0 d.bulk d := by
  cases d with
  | none => exact ⟨by simp [PyData.canLay0], by simp [PyData.showable], by simp [PyData.leavesShort], by simp [PyData.depth], by simp [PyData.bulk]⟩
  | bool b => exact ⟨by simp [PyData.canLay0], by simp [PyData.showable], by simp [PyData.leavesShort], by simp [PyData.depth], by simp [PyData.bulk]⟩
  | int i => exact (fine_int (lim_mono (of_decide_eq_true h) (by decide))).mono (by omega) (by omega)
  | str s =>
    simp only [leafOk, Bool.and_eq_true] at h
    exact ⟨h.1.1, h.1.2, h.2, by simp [PyData.depth], Nat.le_refl _⟩
  | list _ => cases h
  | tuple _ => cases h
  | dict _ => cases h
theorem bulk_tup (ds : List D) : (PyData.tuple ds).bulk = PyData.bulkAll ds := by simp only [PyData.bulk]
theorem bulk_lst (ds : List D) : (PyData.list ds).bulk = PyData.bulkAll ds := by simp only [PyData.bulk]
theorem fine_all {n : Nat} : ∀ {ds : List D}, (∀ d ∈ ds, Fine n d.bulk d) → PyData.canLayAll0 ds = true ∧ PyData.showableAll ds = true ∧ PyData.leavesShortAll 1000 ds = true ∧ PyData.depthAll ds ≤ n
  | [], _ => ⟨by simp [PyData.canLayAll0], by simp [PyData.showableAll], by simp [PyData.leavesShortAll], by simp [PyData.depthAll]⟩
  | d :: r, h => by
    obtain ⟨h1, h2, h3, h4⟩ := fine_all (ds := r) fun x hx => h x (.tail _ hx)
    have z := h d (.head _)
    refine ⟨by simp [PyData.canLayAll0, h1, z.lay], by simp [PyData.showableAll, h2, z.sho], by simp [PyData.leavesShortAll, h3, z.sm], ?_⟩
    have := z.dep
    simp only [PyData.depthAll]
    omega
theorem Lv.fine : ∀ {n : Nat} {d : D}, Lv n d → Fine n d.bulk d
  | 0, _, h => (fine_leaf h).mono (by omega) (by omega)
  | n + 1, d, h => by
    rcases h with h | ⟨ds, h1 | h1, h3⟩
    · exact (fine_leaf h).mono (by omega) (by omega)
    · subst h1
      obtain ⟨q1, q2, q3, q4⟩ := fine_all fun x hx => (h3 x hx).fine
      exact ⟨by simpa [PyData.canLay0] using q1, by simpa [PyData.showable] using q2, by simpa [PyData.leavesShort] using q3, by simp only [PyData.depth]; omega, Nat.le_refl _⟩
    · subst h1
      obtain ⟨q1, q2, q3, q4⟩ := fine_all fun x hx => (h3 x hx).fine
      exact ⟨by simpa [PyData.canLay0] using q1, by simpa [PyData.showable] using q2, by simpa [PyData.leavesShort] using q3, by simp only [PyData.depth]; omega, Nat.le_refl _⟩
/-- plain, n deep, of bulk b -/
structure Dt (n b : Nat) (d : D) : Prop where
  lv : Lv n d
  blk : d.bulk ≤ b
theorem Dt.mono {n n' b b' : Nat} {d : D} (h : Dt n b d) (h1 : n ≤ n') (h2 : b ≤ b') : Dt n' b' d := ⟨h.lv.mono h1, Nat.le_trans h.blk h2⟩
theorem Dt.fine {n b : Nat} {d : D} (h : Dt n b d) : Fine n b d := h.lv.fine.mono (Nat.le_refl _) h.blk
theorem bulkAll_append (a b : List D) : PyData.bulkAll (a ++ b) = PyData.bulkAll a + PyData.bulkAll b := by
  induction a with
  | nil => simp [PyData.bulkAll]
  | cons x a ih => simp only [List.cons_append, PyData.bulkAll, ih]; omega
theorem bulkAll_mem {x : D} : ∀ {ds : List D}, x ∈ ds → x.bulk + 1 ≤ PyData.bulkAll ds
  | d :: ds, h => by
    rcases List.mem_cons.mp h with rfl | h
    · simp only [PyData.bulkAll]; omega
    · have := bulkAll_mem h
      simp only [PyData.bulkAll]; omega
theorem bulkAll_len : ∀ ds : List D, ds.length ≤ PyData.bulkAll ds
  | [] => by simp [PyData.bulkAll]
  | d :: ds => by
    have := bulkAll_len ds
    simp only [PyData.bulkAll, List.length_cons]; omega
theorem bulkAll_split (ds : List D) (j : Nat) : PyData.bulkAll (ds.take j) + PyData.bulkAll (ds.drop j) = PyData.bulkAll ds := by
  rw [← bulkAll_append, List.take_append_drop]
theorem bulkAll_at {ds : List D} {j : Nat} {x : D} (h : ds[j]? = some x) : PyData.bulkAll (ds.take j) + (x.bulk + 1) + PyData.bulkAll (ds.drop (j + 1)) = PyData.bulkAll ds := by
  obtain ⟨hj, e⟩ := List.getElem?_eq_some_iff.mp h
  have h1 := bulkAll_split ds j
  rw [List.drop_eq_getElem_cons hj, e] at h1
  simp only [PyData.bulkAll] at h1
  omega
theorem bulkAll_set {x : D} : ∀ (ds : List D) (j : Nat), PyData.bulkAll (ds.set j x) ≤ PyData.bulkAll ds + (x.bulk + 1)
  | [], _ => by simp [PyData.bulkAll]
  | d :: ds, 0 => by simp only [List.set_cons_zero, PyData.bulkAll]; omega
  | d :: ds, j + 1 => by
    have := bulkAll_set (x := x) ds j
    simp only [List.set_cons_succ, PyData.bulkAll]; omega
theorem bulkAll_sub {a b : List D} (h : a.Sublist b) : PyData.bulkAll a ≤ PyData.bulkAll b := by
  induction h with
  | slnil => exact Nat.le_refl _
  | cons a h ih => simp only [PyData.bulkAll]; omega
  | cons_cons a h ih => simp only [PyData.bulkAll]; omega
theorem dt_tup {n b : Nat} {ds : List D} (h : ∀ x ∈ ds, Lv n x) (hb : PyData.bulkAll ds ≤ b) : Dt (n + 1) b (.tuple ds) := ⟨.inr ⟨ds, .inl rfl, h⟩, by rw [bulk_tup]; exact hb⟩
theorem dt_lst {n b : Nat} {ds : List D} (h : ∀ x ∈ ds, Lv n x) (hb : PyData.bulkAll ds ≤ b) : Dt (n + 1) b (.list ds) := ⟨.inr ⟨ds, .inr rfl, h⟩, by rw [bulk_lst]; exact hb⟩
theorem lv_tup {n : Nat} {ds : List D} (h : Lv n (.tuple ds)) : ∃ n', n = n' + 1 ∧ ∀ x ∈ ds, Lv n' x := by
  cases n with
  | zero => cases h
  | succ n =>
    rcases h with h | ⟨es, h1 | h1, h3⟩
    · cases h
    · cases h1; exact ⟨n, rfl, h3⟩
    · cases h1
theorem lv_lst {n : Nat} {ds : List D} (h : Lv n (.list ds)) : ∃ n', n = n' + 1 ∧ ∀ x ∈ ds, Lv n' x := by
  cases n with
  | zero => cases h
  | succ n =>
    rcases h with h | ⟨es, h1 | h1, h3⟩
    · cases h
    · cases h1
    · cases h1; exact ⟨n, rfl, h3⟩
theorem Dt.tup {n b : Nat} {ds : List D} (h : Dt n b (.tuple ds)) : ∃ n', n = n' + 1 ∧ (∀ x ∈ ds, Lv n' x) ∧ PyData.bulkAll ds ≤ b := by
  obtain ⟨n', e, h1⟩ := lv_tup h.lv
  have := h.blk
  rw [bulk_tup] at this
  exact ⟨n', e, h1, this⟩
theorem Dt.item {n b : Nat} {ds : List D} (h : Dt n b (.tuple ds)) {x : D} (hx : x ∈ ds) : Dt n b x := by
  obtain ⟨n', e, h1, h2⟩ := h.tup
  have := bulkAll_mem hx
  exact ⟨(h1 x hx).mono (by omega), by omega⟩
theorem lv_int {n : Nat} {i : Int} (h : Lv n (.int i)) : lim 400 i := by
  cases n with
  | zero => exact of_decide_eq_true h
  | succ n =>
    rcases h with h | ⟨_, h | h, _⟩
    · exact of_decide_eq_true h
    · cases h
    · cases h
theorem Dt.pair {n b : Nat} {x y : Int} (h : Dt n b (.tuple [.int x, .int y])) : lim 400 x ∧ lim 400 y :=
  ⟨lv_int (h.item (x := .int x) (by simp)).lv, lv_int (h.item (x := .int y) (by simp)).lv⟩
abbrev Pd (d : D) : Prop := Dt 40 16000 d
theorem Dt.big {d : D} (h : Pd d) : Fine 60 16000 d := h.fine.mono (by decide) (by decide)
theorem Fine.shaped {d : D} (h : Fine 60 16000 d) : SeqAt.shaped d = true := by
  have := h.dep
  simp only [SeqAt.shaped, h.lay, Bool.true_and, decide_eq_true_eq]
  omega
theorem dt_int {n b : Nat} {i : Int} (h : lim 400 i) : Dt n b (.int i) := ⟨.leaf (decide_eq_true h), by simp [PyData.bulk]⟩
theorem dt_bool {n b : Nat} {k : Bool} : Dt n b (.bool k) := ⟨.leaf rfl, by simp [PyData.bulk]⟩
theorem dt_none {n b : Nat} : Dt n b .none := ⟨.leaf rfl, by simp [PyData.bulk]⟩
theorem dt_str {n b : Nat} {s : Str} (h : leafOk (.str s) = true) (hb : s.cps.size ≤ b) : Dt n b (.str s) := ⟨.leaf h, by simpa [PyData.bulk] using hb⟩
/-- filtered items of a plain tuple are a plain list -/
theorem dt_filter {n b : Nat} {ds : List D} (h : Dt n b (.tuple ds)) (p : D → Bool) : Dt n b (.list (ds.filter p)) := by
  obtain ⟨n', e, h1, h2⟩ := h.tup
  subst e
  exact dt_lst (fun x hx => h1 x (List.mem_filter.mp hx).1) (Nat.le_trans (bulkAll_sub List.filter_sublist) h2)
/-! ### comprehensions with a test, and of a map -/
theorem gLc_filter {vs : List Nat} {bd : D → M Unit} {tt : M Bool} {el : M D} (p : D → Bool) (g : D → D) (Inv : En → Prop) : ∀ (ds : List D) (acc : List D) (e : En), acc.length + ds.length ≤ most → Inv e →
    (∀ d e, d ∈ ds → Inv e → ∃ e1, bd d (wipeE e vs) = .ok () e1 ∧ ∃ e2, tt e1 = .ok (p d) e2 ∧ (p d = true → ∃ e3, el e2 = .ok (g d) e3 ∧ Inv e3) ∧ (p d = false → Inv e2)) →
    ∃ e', gLc vs bd tt el ds acc e = (bnd (wipeM vs) fun _ => IL.ret (.lst ((acc ++ (ds.filter p).map g).map .leaf))) e' ∧ Inv e'
  | [], acc, e, hm, h, _ => ⟨e, by simp [gLc], h⟩
  | d :: ds, acc, e, hm, h, st => by
    obtain ⟨e1, k1, e2, k2, k3, k4⟩ := st d e List.mem_cons_self h
    simp only [List.length_cons] at hm
    have hw : wipeM vs e = .ok () (wipeE e vs) := rfl
    cases hp : p d with
    | true =>
      obtain ⟨e3, k5, k6⟩ := k3 hp
      obtain ⟨e', q1, q2⟩ := gLc_filter p g Inv ds (acc ++ [g d]) e3 (by simp; omega) k6 fun x e hx hi => st x e (List.mem_cons_of_mem _ hx) hi
      refine ⟨e', ?_, q2⟩
      rw [List.filter_cons_of_pos hp, List.map_cons]
      simp only [List.append_assoc, List.singleton_append] at q1
      rw [← q1]
      conv => lhs; unfold gLc
      rw [hp] at k2
      simp only [bnd, hw, k1, k2, if_true, k5]
      rw [if_pos (by omega)]
    | false =>
      obtain ⟨e', q1, q2⟩ := gLc_filter p g Inv ds acc e2 (by omega) (k4 hp) fun x e hx hi => st x e (List.mem_cons_of_mem _ hx) hi
      refine ⟨e', ?_, q2⟩
      rw [List.filter_cons_of_neg (by rw [hp]; exact Bool.false_ne_true), ← q1]
      conv => lhs; unfold gLc
      rw [hp] at k2
      simp only [bnd, hw, k1, k2]
      rfl
end IL

namespace IL
open PySem PySem.Spec PyProof.Rows L2
theorem ev_comp' {W : Wd} {vs : List Nat} {tg : Tg} {it : It2} {t : Co} {el : C} : evC W (.comp vs tg it t el) = bnd (evI W it) fun ds => gLc vs (evTg W tg) (evCond W t) (fz (evC W el)) ds [] := by simp only [evC]
theorem comp_ok {W : Wd} {vs : List Nat} {tg : Tg} {it : It2} {t : Co} {el : C} {e e0 : En} {ds : List D} (p : D → Bool) (g : D → D) (Inv : En → Prop) (hI : evI W it e = .ok ds e0) (h0 : Inv e0) (hm : ds.length ≤ most)
    (st : ∀ d e, d ∈ ds → Inv e → ∃ e1, evTg W tg d (wipeE e vs) = .ok () e1 ∧ ∃ e2, evCond W t e1 = .ok (p d) e2 ∧ (p d = true → ∃ e3, fz (evC W el) e2 = .ok (g d) e3 ∧ Inv e3) ∧ (p d = false → Inv e2)) :
    ∃ e', evC W (.comp vs tg it t el) e = .ok (.lst (((ds.filter p).map g).map .leaf)) (wipeE e' vs) ∧ Inv e' := by
  obtain ⟨e', h1, h2⟩ := gLc_filter (vs := vs) (bd := evTg W tg) (tt := evCond W t) (el := fz (evC W el)) p g Inv ds [] e0 (by simpa using hm) h0 st
  refine ⟨e', ?_, h2⟩
  rw [ev_comp', ap_bnd, hI]
  exact h1
@[simp] theorem ap_itr' (f : M D) : gItr f = bnd f fun d => opt (seqD d) := rfl
@[simp] theorem seq_tup' (ds : List D) : seqD (.tuple ds) = some ds := rfl
@[simp] theorem seq_lst' (ds : List D) : seqD (.list ds) = some ds := rfl
@[simp] theorem filter_true {α : Type} (ds : List α) : ds.filter (fun _ => true) = ds := List.filter_eq_self.mpr fun _ _ => rfl
/-- [f(one) for one in thing] -/
theorem comp2 {W : Wd} {f : Str} {F : FSem} (hf : W.fn f = some ⟨1, [], F⟩) (g : D → D) {ds : List D} (hs : ∀ d ∈ ds, F [.leaf d] = some (.leaf (g d), [none])) (hm : ds.length ≤ most) (y : Option T) :
    evC W (.comp [1] (.nm 1) (.seq (.var 0)) .no (.call f (.val (.var 1) .nil))) [some (.leaf (.tuple ds)), y] = .ok (.lst ((ds.map g).map .leaf)) [some (.leaf (.tuple ds)), none] := by
  obtain ⟨e', h1, y', rfl⟩ := comp_ok (W := W) (vs := [1]) (tg := .nm 1) (it := .seq (.var 0)) (t := .no) (el := .call f (.val (.var 1) .nil)) (e := [some (.leaf (.tuple ds)), y]) (ds := ds) (fun _ => true) g (fun e => ∃ y, e = [some (.leaf (.tuple ds)), y]) (e0 := [some (.leaf (.tuple ds)), y]) (by simp [evI, evC]) ⟨y, rfl⟩ hm (by
    rintro d e hd ⟨y, rfl⟩
    refine ⟨[some (.leaf (.tuple ds)), some (.leaf d)], by simp [evTg, wipeE], _, by simp [evCond]; rfl, fun _ => ⟨[some (.leaf (.tuple ds)), some (.leaf d)], ?_, ⟨_, rfl⟩⟩, fun h => by cases h⟩
    simp [evC, evCs, hf, lens, hs d hd])
  rw [h1]
  simp [wipeE]
theorem bools_map {α : Type} (p : α → Bool) : ∀ ds : List α, boolsD (ds.map fun d => PyData.bool (p d)) = some (ds.map p)
  | [] => rfl
  | d :: ds => by simp [boolsD, bools_map p ds]
theorem all_bools {α : Type} (p : α → Bool) (ds : List α) : allD [.list (ds.map fun d => PyData.bool (p d))] = some (.leaf (.bool (ds.all p))) := by
  simp only [allD, bools_map, Option.map_some]
  congr 3
  simp [List.all_map, Function.comp_def]
/-- a loop over things all of which must pass -/
theorem gFor_all {bd : D → M Unit} {b : M Fl} (p : D → Bool) (Inv : List D → En → Prop) (r : T) : ∀ (ds pre : List D) (e : En), Inv pre e →
    (∀ pre1 d e, d ∈ ds → pre1.length < pre.length + ds.length → Inv pre1 e → ∃ e', (p d = true → (bnd (bd d) fun _ => b) e = .ok .nx e' ∧ Inv (pre1 ++ [d]) e') ∧ (p d = false → (bnd (bd d) fun _ => b) e = .ok (.rt r) e')) →
    ∃ e', (ds.all p = true → gFor bd b ds e = .ok .nx e' ∧ Inv (pre ++ ds) e') ∧ (ds.all p = false → gFor bd b ds e = .ok (.rt r) e')
  | [], pre, e, h, _ => ⟨e, fun _ => ⟨rfl, by simpa using h⟩, fun h => by simp at h⟩
  | d :: ds, pre, e, h, st => by
    obtain ⟨e1, h1, h2⟩ := st pre d e List.mem_cons_self (by simp) h
    cases hp : p d with
    | false =>
      refine ⟨e1, fun h => by simp [hp] at h, fun _ => ?_⟩
      have h3 := h2 hp
      unfold gFor
      unfold bnd at h3 ⊢
      split at h3
      · have q2 : b _ = .ok (.rt r) e1 := h3
        simp only [q2]; rfl
      · cases h3
      · cases h3
    | true =>
      obtain ⟨h3, i3⟩ := h1 hp
      obtain ⟨e2, k1, k2⟩ := gFor_all p Inv r ds (pre ++ [d]) e1 i3 fun pre1 x e hx hl hi => st pre1 x e (List.mem_cons_of_mem _ hx) (by simp at hl ⊢; omega) hi
      have go : ∀ o, gFor bd b ds e1 = o → gFor bd b (d :: ds) e = o := by
        intro o ho
        conv => lhs; unfold gFor
        unfold bnd at h3 ⊢
        split at h3
        · rename_i a e3 q
          have q2 : b e3 = .ok .nx e1 := h3
          simp only [q2, ho]
        · cases h3
        · cases h3
      refine ⟨e2, fun h => ?_, fun h => ?_⟩
      · have := k1 (by simpa [hp] using h)
        exact ⟨go _ this.1, by simpa using this.2⟩
      · exact go _ (k2 (by simpa [hp] using h))
end IL

namespace Fc
open PySem PySem.Spec PyProof.Rows L2 IL
def n_is_number : List Str := ["thing"]
def c_is_number : Ss := (.cons (.ret (.and (.isi .int (.var 0)) (.not (.isi .bool (.var 0))))) .nil)
def n_are_numbers : List Str := ["thing", "many", "one"]
def c_are_numbers : Ss := (.cons (.ret (.and (.isi .tuple (.var 0)) (.and (.cmp .eq (.bif .len (.val (.var 0) .nil)) (.var 1)) (.bif .all (.val (.comp [2] (.nm 2) (.seq (.var 0)) .no (.call "is_number" (.val (.var 2) .nil))) .nil))))) .nil)
def n_is_word : List Str := ["thing", "sign"]
def c_is_word : Ss := (.cons (.ifs (.or (.not (.isi .str (.var 0))) (.not (.chain .le .le (.int 1) (.bif .len (.val (.var 0) .nil)) (.glb "MOST_LETTERS"))))
    (.cons (.ret (.bl false)) .nil)
    .nil) (.cons (.ret (.bif .all (.val (.comp [1] (.nm 1) (.seq (.var 0)) .no (.cmp .«in» (.var 1) (.glb "LETTERS"))) .nil))) .nil))
def n_common_divisor : List Str := ["one", "other"]
def c_common_divisor : Ss := (.cons (.whl 4096 (.cmp .ne (.var 1) (.int 0)) (.cons (.par 0 1 (.own (.var 1) (.own (.bin .mod (.var 0) (.var 1)) .nil))) .nil)) (.cons (.ret (.var 0)) .nil))
def n_is_fraction : List Str := ["thing"]
def c_is_fraction : Ss := (.cons (.ifs (.or (.not (.call "are_numbers" (.val (.var 0) (.val (.int 2) .nil)))) (.cmp .le (.vix 0 (.int 1)) (.int 0)))
    (.cons (.ret (.bl false)) .nil)
    .nil) (.cons (.ret (.cmp .eq (.call "common_divisor" (.val (.bif .abs (.val (.vix 0 (.int 0)) .nil)) (.val (.vix 0 (.int 1)) .nil))) (.int 1))) .nil))
def n_is_below : List Str := ["one", "other"]
def c_is_below : Ss := (.cons (.ret (.cmp .lt (.bin .mul (.vix 0 (.int 0)) (.vix 1 (.int 1))) (.bin .mul (.vix 1 (.int 0)) (.vix 0 (.int 1))))) .nil)
def n_is_part : List Str := ["thing"]
def c_is_part : Ss := (.cons (.ret (.and (.call "is_fraction" (.val (.var 0) .nil)) (.chain .le .le (.int 0) (.vix 0 (.int 0)) (.vix 0 (.int 1))))) .nil)
def n_is_pixel : List Str := ["thing"]
def c_is_pixel : Ss := (.cons (.ifs (.or (.not (.isi .tuple (.var 0))) (.or (.cmp .ne (.bif .len (.val (.var 0) .nil)) (.int 2)) (.or (.not (.call "is_part" (.val (.vix 0 (.int 0)) .nil))) (.not (.call "is_part" (.val (.vix 0 (.int 1)) .nil))))))
    (.cons (.ret (.bl false)) .nil)
    .nil) (.cons (.ret (.not (.call "is_below" (.val (.vix 0 (.int 1)) (.val (.vix 0 (.int 0)) .nil))))) .nil))
def n_is_covered : List Str := ["pixel"]
def c_is_covered : Ss := (.cons (.ret (.cmp .eq (.vix 0 (.int 1)) (.glb "WHOLE"))) .nil)
def n_is_rectangle : List Str := ["thing"]
def c_is_rectangle : Ss := (.cons (.ret (.and (.call "are_numbers" (.val (.var 0) (.val (.int 4) .nil))) (.and (.cmp .lt (.vix 0 (.int 0)) (.vix 0 (.int 2))) (.cmp .lt (.vix 0 (.int 1)) (.vix 0 (.int 3)))))) .nil)
def n_is_tuple_of : List Str := ["thing", "many"]
def c_is_tuple_of : Ss := (.cons (.ret (.and (.isi .tuple (.var 0)) (.cmp .eq (.bif .len (.val (.var 0) .nil)) (.var 1)))) .nil)
def n_is_id : List Str := ["thing", "one"]
def c_is_id : Ss := (.cons (.ret (.and (.call "is_tuple_of" (.val (.var 0) (.val (.int 3) .nil))) (.bif .all (.val (.comp [1] (.nm 1) (.seq (.var 0)) .no (.call "is_number" (.val (.var 1) .nil))) .nil)))) .nil)
def n_is_content_row : List Str := ["thing", "many", "pair"]
def c_is_content_row : Ss := (.cons (.ifs (.not (.call "is_tuple_of" (.val (.var 0) (.val (.var 1) .nil))))
    (.cons (.ret (.bl false)) .nil)
    .nil) (.cons (.ret (.bif .all (.val (.comp [2] (.nm 2) (.seq (.var 0)) .no (.and (.call "is_tuple_of" (.val (.var 2) (.val (.int 2) .nil))) (.and (.call "is_id" (.val (.vix 2 (.int 0)) .nil)) (.call "is_pixel" (.val (.vix 2 (.int 1)) .nil))))) .nil))) .nil))
def n_is_content : List Str := ["thing", "row"]
def c_is_content : Ss := (.cons (.ifs (.or (.not (.isi .tuple (.var 0))) (.or (.cmp .eq (.bif .len (.val (.var 0) .nil)) (.int 0)) (.or (.not (.isi .tuple (.vix 0 (.int 0)))) (.cmp .eq (.bif .len (.val (.vix 0 (.int 0)) .nil)) (.int 0)))))
    (.cons (.ret (.bl false)) .nil)
    .nil) (.cons (.ret (.bif .all (.val (.comp [1] (.nm 1) (.seq (.var 0)) .no (.call "is_content_row" (.val (.var 1) (.val (.bif .len (.val (.vix 0 (.int 0)) .nil)) .nil)))) .nil))) .nil))
def n_is_opacity : List Str := ["thing"]
def c_is_opacity : Ss := (.cons (.ret (.and (.call "is_fraction" (.val (.var 0) .nil)) (.and (.not (.call "is_below" (.val (.var 0) (.val (.tup (.own (.int 0) (.own (.int 1) .nil))) .nil)))) (.not (.call "is_below" (.val (.tup (.own (.int 1) (.own (.int 1) .nil))) (.val (.var 0) .nil))))))) .nil)
def n_is_parent : List Str := ["thing"]
def c_is_parent : Ss := (.cons (.ret (.and (.isi .str (.var 0)) (.or (.cmp .eq (.var 0) (.str "")) (.call "is_word" (.val (.var 0) .nil))))) .nil)
def n_is_node : List Str := ["thing", "name", "parent", "x", "y", "clip", "opacity", "hidden", "content"]
def c_is_node : Ss := (.cons (.ifs (.not (.call "is_tuple_of" (.val (.var 0) (.val (.int 8) .nil))))
    (.cons (.ret (.bl false)) .nil)
    .nil) (.cons (.asg (.tp (.cons (.nm 1) (.cons (.nm 2) (.cons (.nm 3) (.cons (.nm 4) (.cons (.nm 5) (.cons (.nm 6) (.cons (.nm 7) (.cons (.nm 8) .nil))))))))) (.var 0)) (.cons (.ifs (.or (.not (.call "is_word" (.val (.var 1) .nil))) (.or (.not (.call "is_parent" (.val (.var 2) .nil))) (.or (.not (.call "is_number" (.val (.var 3) .nil))) (.not (.call "is_number" (.val (.var 4) .nil))))))
    (.cons (.ret (.bl false)) .nil)
    .nil) (.cons (.ifs (.and (.cmp .isnt (.var 5) .non) (.not (.call "is_rectangle" (.val (.var 5) .nil))))
    (.cons (.ret (.bl false)) .nil)
    .nil) (.cons (.ifs (.or (.not (.call "is_opacity" (.val (.var 6) .nil))) (.not (.isi .bool (.var 7))))
    (.cons (.ret (.bl false)) .nil)
    .nil) (.cons (.ret (.or (.cmp .is (.var 8) .non) (.call "is_content" (.val (.var 8) .nil)))) .nil))))))
def n_is_tree : List Str := ["thing", "known", "name", "parent", "rest", "node"]
def c_is_tree : Ss := (.cons (.ifs (.or (.not (.isi .tuple (.var 0))) (.not (.bif .all (.val (.comp [5] (.nm 5) (.seq (.var 0)) .no (.call "is_node" (.val (.var 5) .nil))) .nil))))
    (.cons (.ret (.bl false)) .nil)
    .nil) (.cons (.set 1 (.dlit [((.inr ""), (.bool true))])) (.cons (.fore (.tps (.cons (.nm 2) (.cons (.nm 3) (.star 4)))) (.seq (.var 0))
    (.cons (.ifs (.or (.din false (.var 2) 1) (.din true (.var 3) 1))
    (.cons (.ret (.bl false)) .nil)
    .nil) (.cons (.dput 1 (.var 2) (.bl true)) .nil))) (.cons (.ret (.bl true)) .nil))))
def n_is_scene : List Str := ["thing", "one"]
def c_is_scene : Ss := (.cons (.ifs (.or (.not (.call "is_tuple_of" (.val (.var 0) (.val (.int 4) .nil)))) (.not (.bif .all (.val (.comp [1] (.nm 1) (.seq (.sl (.var 0) .no (.so (.int 2)))) .no (.and (.call "is_number" (.val (.var 1) .nil)) (.cmp .gt (.var 1) (.int 0)))) .nil))))
    (.cons (.ret (.bl false)) .nil)
    .nil) (.cons (.ret (.and (.call "is_pixel" (.val (.vix 0 (.int 2)) .nil)) (.and (.call "is_covered" (.val (.vix 0 (.int 2)) .nil)) (.call "is_tree" (.val (.vix 0 (.int 3)) .nil))))) .nil))
def n__law_draw : List Str := ["feed", "many", "cell", "figure", "mixed"]
def c__law_draw : Ss := (.cons (.asg (.sub 0 (.int 1)) (.bin .add (.vix 0 (.int 1)) (.int 1))) (.cons (.whl 4096 (.and (.cmp .eq (.vix 0 (.int 2)) (.int 0)) (.cmp .lt (.vix 0 (.int 3)) (.bif .len (.val (.vix 0 (.int 0)) .nil)))) (.cons (.set 2 (.bif .abs (.val (.ix (.vix 0 (.int 0)) (.vix 0 (.int 3))) .nil))) (.cons (.asg (.sub 0 (.int 2)) (.bin .mul (.var 2) (.bif .int (.val (.cmp .ge (.var 2) (.bin .pow (.int 10) (.int 18))) .nil)))) (.cons (.asg (.sub 0 (.int 3)) (.bin .add (.vix 0 (.int 3)) (.int 1))) .nil)))) (.cons (.ifs (.cmp .gt (.vix 0 (.int 2)) (.int 0))
    (.cons (.set 3 (.bin .mod (.vix 0 (.int 2)) (.var 1))) (.cons (.asg (.sub 0 (.int 2)) (.bin .fdv (.vix 0 (.int 2)) (.var 1))) (.cons (.ret (.var 3)) .nil)))
    .nil) (.cons (.set 2 (.ite (.cmp .ne (.vix 0 (.int 0)) (.lst .nil)) (.ix (.vix 0 (.int 0)) (.bin .mod (.vix 0 (.int 1)) (.bif .len (.val (.vix 0 (.int 0)) .nil)))) (.int 5))) (.cons (.set 4 (.bin .mod (.bin .pow (.bin .add (.bin .add (.bin .mod (.var 2) (.int 1000003)) (.bin .mul (.bin .mul (.int 613) (.vix 0 (.int 1))) (.bin .add (.vix 0 (.int 1)) (.int 7)))) (.int 17)) (.int 5)) (.int 2147483647))) (.cons (.ret (.bin .mod (.bin .fdv (.bin .mod (.bin .pow (.bin .add (.var 4) (.bin .mul (.int 4099) (.vix 0 (.int 1)))) (.int 5)) (.int 2147483587)) (.int 7)) (.var 1))) .nil))))))
def n__law_frac : List Str := ["top", "bottom", "one", "other"]
def c__law_frac : Ss := (.cons (.asg (.tp (.cons (.nm 0) (.cons (.nm 1) .nil))) (.ite (.cmp .gt (.var 1) (.int 0)) (.tup (.own (.var 0) (.own (.var 1) .nil))) (.tup (.own (.bin .sub (.int 0) (.var 0)) (.own (.bin .sub (.int 0) (.var 1)) .nil))))) (.cons (.par 2 3 (.own (.bif .abs (.val (.var 0) .nil)) (.own (.var 1) .nil))) (.cons (.whl 4096 (.cmp .gt (.var 3) (.int 0)) (.cons (.par 2 3 (.own (.var 3) (.own (.bin .mod (.var 2) (.var 3)) .nil))) .nil)) (.cons (.ret (.tup (.own (.bin .fdv (.var 0) (.var 2)) (.own (.bin .fdv (.var 1) (.var 2)) .nil)))) .nil))))
def n__law_point : List Str := ["feed", "cover"]
def c__law_point : Ss := (.cons (.set 1 (.ix (.lst (.own (.int 0) (.own (.int 16) (.own (.int 16) (.own (.call "_law_draw" (.lend 0 (.val (.int 17) .nil))) .nil))))) (.call "_law_draw" (.lend 0 (.val (.int 4) .nil))))) (.cons (.ret (.tup (.own (.call "_law_frac" (.val (.call "_law_draw" (.lend 0 (.val (.bin .add (.var 1) (.int 1)) .nil))) (.val (.int 16) .nil))) (.own (.call "_law_frac" (.val (.var 1) (.val (.int 16) .nil))) .nil)))) .nil))
def n__law_content : List Str := ["feed", "wide", "tall", "some", "commit", "lines", "y", "line", "x", "own", "k"]
def c__law_content : Ss := (.cons (.set 3 (.comp [10] (.nm 10) (.rng1 (.val (.int 4) .nil)) .no (.call "_law_point" (.lend 0 .nil)))) (.cons (.set 4 (.bin .add (.int 1) (.call "_law_draw" (.lend 0 (.val (.int 9) .nil))))) (.cons (.set 5 (.lst .nil)) (.cons (.fore (.nm 6) (.rng1 (.val (.var 2) .nil))
    (.cons (.set 7 (.lst .nil)) (.cons (.fore (.nm 8) (.rng1 (.val (.var 1) .nil))
    (.cons (.set 9 (.tup (.own (.var 4) (.own (.var 8) (.own (.var 6) .nil))))) (.cons (.ifs (.cmp .eq (.call "_law_draw" (.lend 0 (.val (.int 5) .nil))) (.int 0))
    (.cons (.set 9 (.tup (.own (.call "_law_draw" (.lend 0 (.val (.int 9) .nil))) (.own (.call "_law_draw" (.lend 0 (.val (.int 9) .nil))) (.own (.var 6) .nil))))) .nil)
    .nil) (.cons (.exp (.push 7 (.tup (.own (.var 9) (.own (.vix 3 (.call "_law_draw" (.lend 0 (.val (.int 4) .nil)))) .nil))))) .nil)))) (.cons (.exp (.push 5 (.bif .tuple (.val (.var 7) .nil)))) .nil)))) (.cons (.ret (.bif .tuple (.val (.var 5) .nil))) .nil)))))
def n__law_node : List Str := ["feed", "name", "parent", "wide", "x", "y", "left", "top", "clip", "opacity", "hidden", "content"]
def c__law_node : Ss := (.cons (.par 4 5 (.own (.bin .sub (.call "_law_draw" (.lend 0 (.val (.int 9) .nil))) (.int 3)) (.own (.bin .sub (.call "_law_draw" (.lend 0 (.val (.int 7) .nil))) (.int 3)) .nil))) (.cons (.par 6 7 (.own (.bin .sub (.call "_law_draw" (.lend 0 (.val (.int 5) .nil))) (.int 1)) (.own (.bin .sub (.call "_law_draw" (.lend 0 (.val (.int 5) .nil))) (.int 1)) .nil))) (.cons (.set 8 (.tup (.own (.var 6) (.own (.var 7) (.own (.bin .add (.bin .add (.var 6) (.int 1)) (.call "_law_draw" (.lend 0 (.val (.int 6) .nil)))) (.own (.bin .add (.bin .add (.var 7) (.int 1)) (.call "_law_draw" (.lend 0 (.val (.int 6) .nil)))) .nil)))))) (.cons (.set 8 (.ite (.cmp .eq (.call "_law_draw" (.lend 0 (.val (.int 4) .nil))) (.int 0)) (.var 8) .non)) (.cons (.set 9 (.call "_law_frac" (.val (.ix (.lst (.own (.int 16) (.own (.int 16) (.own (.int 16) (.own (.call "_law_draw" (.lend 0 (.val (.int 17) .nil))) (.own (.int 0) .nil)))))) (.call "_law_draw" (.lend 0 (.val (.int 5) .nil)))) (.val (.int 16) .nil)))) (.cons (.set 10 (.cmp .eq (.call "_law_draw" (.lend 0 (.val (.int 9) .nil))) (.int 0))) (.cons (.set 11 .non) (.cons (.ifs (.cmp .gt (.call "_law_draw" (.lend 0 (.val (.int 6) .nil))) (.int 0))
    (.cons (.set 11 (.call "_law_content" (.lendL 0 (.val (.bin .add (.int 1) (.call "_law_draw" (.lend 0 (.val (.var 3) .nil)))) (.val (.bin .add (.int 1) (.call "_law_draw" (.lend 0 (.val (.var 3) .nil)))) .nil))))) .nil)
    .nil) (.cons (.ret (.tup (.own (.var 1) (.own (.var 2) (.own (.var 4) (.own (.var 5) (.own (.var 8) (.own (.var 9) (.own (.var 10) (.own (.var 11) .nil)))))))))) .nil)))))))))
def n__law_scene : List Str := ["feed", "most", "wide", "pool", "tree", "k", "parent", "back"]
def c__law_scene : Ss := (.cons (.set 3 (.lst (.own (.str "a") (.own (.str "aa") (.own (.str "b") (.own (.str "cy") (.own (.str "root") (.own (.str "zzzzzzzz") .nil)))))))) (.cons (.set 4 (.lst .nil)) (.cons (.fore (.nm 5) (.rng1 (.val (.call "_law_draw" (.lend 0 (.val (.bin .add (.var 1) (.int 1)) .nil))) .nil))
    (.cons (.set 6 (.ite (.and (.cmp .gt (.var 5) (.int 0)) (.cmp .eq (.call "_law_draw" (.lend 0 (.val (.int 2) .nil))) (.int 0))) (.ix (.vix 4 (.call "_law_draw" (.lend 0 (.val (.var 5) .nil)))) (.int 0)) (.str ""))) (.cons (.exp (.push 4 (.call "_law_node" (.lendL 0 (.val (.pop 3 (.call "_law_draw" (.lend 0 (.val (.vlen 3) .nil)))) (.val (.var 6) (.val (.var 2) .nil))))))) .nil))) (.cons (.set 7 (.tup (.own (.call "_law_frac" (.val (.call "_law_draw" (.lend 0 (.val (.int 17) .nil))) (.val (.int 16) .nil))) (.own (.tup (.own (.int 1) (.own (.int 1) .nil))) .nil)))) (.cons (.ret (.tup (.own (.bin .add (.int 1) (.call "_law_draw" (.lend 0 (.val (.int 8) .nil)))) (.own (.bin .add (.int 1) (.call "_law_draw" (.lend 0 (.val (.int 6) .nil)))) (.own (.var 7) (.own (.bif .tuple (.val (.var 4) .nil)) .nil)))))) .nil)))))
def n__law_is_number : List Str := ["thing"]
def c__law_is_number : Ss := (.cons (.ret (.and (.isi .int (.var 0)) (.not (.isi .bool (.var 0))))) .nil)
def n__law_is_word : List Str := ["thing", "one"]
def c__law_is_word : Ss := (.cons (.ret (.and (.isi .str (.var 0)) (.and (.chain .le .le (.int 1) (.bif .len (.val (.var 0) .nil)) (.int 8)) (.cmp .eq (.comp [1] (.nm 1) (.seq (.var 0)) (.so (.not (.chain .le .le (.str "a") (.var 1) (.str "z")))) (.var 1)) (.lst .nil))))) .nil)
def n__law_is_part : List Str := ["thing"]
def c__law_is_part : Ss := (.cons (.ifs (.or (.not (.isi .tuple (.var 0))) (.or (.cmp .ne (.bif .len (.val (.var 0) .nil)) (.int 2)) (.or (.not (.call "_law_is_number" (.val (.vix 0 (.int 0)) .nil))) (.not (.call "_law_is_number" (.val (.vix 0 (.int 1)) .nil))))))
    (.cons (.ret (.bl false)) .nil)
    .nil) (.cons (.ret (.and (.chain .le .le (.int 0) (.vix 0 (.int 0)) (.vix 0 (.int 1))) (.and (.cmp .gt (.vix 0 (.int 1)) (.int 0)) (.cmp .eq (.call "_law_frac" (.val (.vix 0 (.int 0)) (.val (.vix 0 (.int 1)) .nil))) (.var 0))))) .nil))
def n__law_is_pixel : List Str := ["thing"]
def c__law_is_pixel : Ss := (.cons (.ifs (.or (.not (.isi .tuple (.var 0))) (.or (.cmp .ne (.bif .len (.val (.var 0) .nil)) (.int 2)) (.or (.not (.call "_law_is_part" (.val (.vix 0 (.int 0)) .nil))) (.not (.call "_law_is_part" (.val (.vix 0 (.int 1)) .nil))))))
    (.cons (.ret (.bl false)) .nil)
    .nil) (.cons (.ret (.cmp .le (.bin .mul (.ix (.vix 0 (.int 0)) (.int 0)) (.ix (.vix 0 (.int 1)) (.int 1))) (.bin .mul (.ix (.vix 0 (.int 1)) (.int 0)) (.ix (.vix 0 (.int 0)) (.int 1))))) .nil))
def n__law_is_pair : List Str := ["thing", "one"]
def c__law_is_pair : Ss := (.cons (.ifs (.or (.not (.isi .tuple (.var 0))) (.or (.cmp .ne (.bif .len (.val (.var 0) .nil)) (.int 2)) (.or (.not (.isi .tuple (.vix 0 (.int 0)))) (.cmp .ne (.bif .len (.val (.vix 0 (.int 0)) .nil)) (.int 3)))))
    (.cons (.ret (.bl false)) .nil)
    .nil) (.cons (.ret (.and (.cmp .eq (.comp [1] (.nm 1) (.seq (.vix 0 (.int 0))) (.so (.not (.call "_law_is_number" (.val (.var 1) .nil)))) (.var 1)) (.lst .nil)) (.call "_law_is_pixel" (.val (.vix 0 (.int 1)) .nil)))) .nil))
def n__law_is_content : List Str := ["thing", "line", "one"]
def c__law_is_content : Ss := (.cons (.ifs (.or (.not (.isi .tuple (.var 0))) (.cmp .eq (.var 0) (.tup .nil)))
    (.cons (.ret (.bl false)) .nil)
    .nil) (.cons (.fore (.nm 1) (.seq (.var 0))
    (.cons (.ifs (.or (.not (.isi .tuple (.var 1))) (.or (.cmp .eq (.var 1) (.tup .nil)) (.cmp .ne (.bif .len (.val (.var 1) .nil)) (.bif .len (.val (.vix 0 (.int 0)) .nil)))))
    (.cons (.ret (.bl false)) .nil)
    .nil) (.cons (.ifs (.cmp .ne (.comp [2] (.nm 2) (.seq (.var 1)) (.so (.not (.call "_law_is_pair" (.val (.var 2) .nil)))) (.var 2)) (.lst .nil))
    (.cons (.ret (.bl false)) .nil)
    .nil) .nil))) (.cons (.ret (.bl true)) .nil)))
def n__law_is_clip : List Str := ["thing", "one"]
def c__law_is_clip : Ss := (.cons (.ifs (.cmp .is (.var 0) .non)
    (.cons (.ret (.bl true)) .nil)
    .nil) (.cons (.ifs (.or (.not (.isi .tuple (.var 0))) (.or (.cmp .ne (.bif .len (.val (.var 0) .nil)) (.int 4)) (.cmp .ne (.comp [1] (.nm 1) (.seq (.var 0)) (.so (.not (.call "_law_is_number" (.val (.var 1) .nil)))) (.var 1)) (.lst .nil))))
    (.cons (.ret (.bl false)) .nil)
    .nil) (.cons (.ret (.and (.cmp .lt (.vix 0 (.int 0)) (.vix 0 (.int 2))) (.cmp .lt (.vix 0 (.int 1)) (.vix 0 (.int 3))))) .nil)))
def n__law_is_node : List Str := ["thing"]
def c__law_is_node : Ss := (.cons (.ifs (.or (.not (.isi .tuple (.var 0))) (.or (.cmp .ne (.bif .len (.val (.var 0) .nil)) (.int 8)) (.not (.call "_law_is_word" (.val (.vix 0 (.int 0)) .nil)))))
    (.cons (.ret (.bl false)) .nil)
    .nil) (.cons (.ifs (.or (.not (.isi .str (.vix 0 (.int 1)))) (.and (.cmp .ne (.vix 0 (.int 1)) (.str "")) (.not (.call "_law_is_word" (.val (.vix 0 (.int 1)) .nil)))))
    (.cons (.ret (.bl false)) .nil)
    .nil) (.cons (.ifs (.or (.not (.call "_law_is_number" (.val (.vix 0 (.int 2)) .nil))) (.or (.not (.call "_law_is_number" (.val (.vix 0 (.int 3)) .nil))) (.not (.call "_law_is_clip" (.val (.vix 0 (.int 4)) .nil)))))
    (.cons (.ret (.bl false)) .nil)
    .nil) (.cons (.ifs (.or (.not (.call "_law_is_part" (.val (.vix 0 (.int 5)) .nil))) (.not (.isi .bool (.vix 0 (.int 6)))))
    (.cons (.ret (.bl false)) .nil)
    .nil) (.cons (.ret (.or (.cmp .is (.vix 0 (.int 7)) .non) (.call "_law_is_content" (.val (.vix 0 (.int 7)) .nil)))) .nil)))))
def n__law_is_tree : List Str := ["thing", "known", "node"]
def c__law_is_tree : Ss := (.cons (.ifs (.or (.not (.isi .tuple (.var 0))) (.cmp .ne (.comp [2] (.nm 2) (.seq (.var 0)) (.so (.not (.call "_law_is_node" (.val (.var 2) .nil)))) (.var 2)) (.lst .nil)))
    (.cons (.ret (.bl false)) .nil)
    .nil) (.cons (.set 1 (.lst (.own (.str "") .nil))) (.cons (.fore (.nm 2) (.seq (.var 0))
    (.cons (.ifs (.or (.cinv .«in» (.vix 2 (.int 0)) 1) (.cinv .nin (.vix 2 (.int 1)) 1))
    (.cons (.ret (.bl false)) .nil)
    .nil) (.cons (.exp (.push 1 (.vix 2 (.int 0)))) .nil))) (.cons (.ret (.bl true)) .nil))))
def n__law_bent : List Str := ["feed", "thing", "deep", "way", "at", "odd", "some"]
def c__law_bent : Ss := (.cons (.set 3 (.call "_law_draw" (.lend 0 (.val (.int 9) .nil)))) (.cons (.ifs (.and (.isi .tuple (.var 1)) (.and (.cmp .ne (.var 1) (.tup .nil)) (.and (.cmp .gt (.var 2) (.int 0)) (.cmp .gt (.var 3) (.int 1)))))
    (.cons (.set 4 (.call "_law_draw" (.lend 0 (.val (.bif .len (.val (.var 1) .nil)) .nil)))) (.cons (.ret (.bin .add (.bin .add (.sl (.var 1) .no (.so (.var 4))) (.tup (.own (.call "_law_bent" (.lend 0 (.val (.vix 1 (.var 4)) (.val (.bin .sub (.var 2) (.int 1)) .nil)))) .nil))) (.sl (.var 1) (.so (.bin .add (.var 4) (.int 1))) .no))) .nil))
    .nil) (.cons (.ifs (.isi .tuple (.var 1))
    (.cons (.set 4 (.call "_law_draw" (.lend 0 (.val (.bin .add (.bif .len (.val (.var 1) .nil)) (.int 1)) .nil)))) (.cons (.set 5 (.ix (.lst (.own (.int 0) (.own (.neg (.int 1)) (.own (.tup .nil) (.own .non (.own (.bl true) (.own (.str "a") (.own (.tup (.own (.int 0) (.own (.int 1) .nil))) (.own (.int 41) .nil))))))))) (.call "_law_draw" (.lend 0 (.val (.int 8) .nil))))) (.cons (.set 6 (.lst (.own (.bin .add (.bin .add (.sl (.var 1) .no (.so (.var 4))) (.tup (.own (.var 5) .nil))) (.sl (.var 1) (.so (.var 4)) .no)) (.own (.bin .add (.sl (.var 1) .no (.so (.var 4))) (.sl (.var 1) (.so (.bin .add (.var 4) (.int 1))) .no)) (.own (.bin .add (.bin .add (.sl (.var 1) .no (.so (.var 4))) (.tup (.own (.var 5) .nil))) (.sl (.var 1) (.so (.bin .add (.var 4) (.int 1))) .no)) .nil))))) (.cons (.ret (.ix (.bin .add (.var 6) (.lst (.own (.bif .list (.val (.var 1) .nil)) (.own (.bin .add (.var 1) (.sl (.var 1) (.so (.neg (.int 1))) .no)) (.own (.rev (.var 1)) .nil))))) (.call "_law_draw" (.lend 0 (.val (.int 6) .nil))))) .nil))))
    .nil) (.cons (.ifs (.isi .str (.var 1))
    (.cons (.ret (.ix (.lst (.own (.str "a") (.own (.str "") (.own (.str "A") (.own (.bin .add (.var 1) (.str "a")) (.own (.str "abcdefghi") (.own (.int 1) (.own (.str "cy") .nil)))))))) (.call "_law_draw" (.lend 0 (.val (.int 7) .nil))))) .nil)
    .nil) (.cons (.ifs (.or (.not (.isi .int (.var 1))) (.isi .bool (.var 1)))
    (.cons (.ret (.ix (.lst (.own (.int 0) (.own (.tup .nil) (.own (.str "a") (.own (.int 1) (.own (.bl true) (.own .non .nil))))))) (.call "_law_draw" (.lend 0 (.val (.int 6) .nil))))) .nil)
    .nil) (.cons (.ret (.ix (.lst (.own (.bin .add (.var 1) (.int 1)) (.own (.bin .sub (.var 1) (.int 1)) (.own (.int 0) (.own (.cmp .eq (.var 1) (.int 1)) (.own (.bif .str (.val (.var 1) .nil)) (.own .non (.own (.bin .sub (.int 0) (.var 1)) (.own (.bin .pow (.int 10) (.int 30)) .nil))))))))) (.call "_law_draw" (.lend 0 (.val (.int 8) .nil))))) .nil))))))
def n__law_is_scene : List Str := ["thing", "one"]
def c__law_is_scene : Ss := (.cons (.ifs (.or (.not (.isi .tuple (.var 0))) (.cmp .ne (.bif .len (.val (.var 0) .nil)) (.int 4)))
    (.cons (.ret (.bl false)) .nil)
    .nil) (.cons (.ifs (.cmp .ne (.comp [1] (.nm 1) (.seq (.sl (.var 0) .no (.so (.int 2)))) (.so (.or (.not (.call "_law_is_number" (.val (.var 1) .nil))) (.cmp .lt (.var 1) (.int 1)))) (.var 1)) (.lst .nil))
    (.cons (.ret (.bl false)) .nil)
    .nil) (.cons (.ret (.and (.call "_law_is_pixel" (.val (.vix 0 (.int 2)) .nil)) (.and (.cmp .eq (.ix (.vix 0 (.int 2)) (.int 1)) (.tup (.own (.int 1) (.own (.int 1) .nil)))) (.call "_law_is_tree" (.val (.vix 0 (.int 3)) .nil))))) .nil)))
def n__law_long : List Str := ["feed", "letters", "found", "k", "parent"]
def c__law_long : Ss := (.cons (.set 1 (.str "abcdefghij")) (.cons (.set 2 (.lst .nil)) (.cons (.fore (.nm 3) (.rng1 (.val (.int 100) .nil))
    (.cons (.set 4 (.ite (.and (.cmp .gt (.var 3) (.int 0)) (.cmp .gt (.call "_law_draw" (.lend 0 (.val (.int 3) .nil))) (.int 0))) (.ix (.vix 2 (.neg (.int 1))) (.int 0)) (.str ""))) (.cons (.exp (.push 2 (.tup (.own (.bin .add (.vix 1 (.bin .fdv (.var 3) (.int 10))) (.vix 1 (.bin .mod (.var 3) (.int 10)))) (.own (.var 4) (.own (.int 0) (.own (.var 3) (.own .non (.own (.tup (.own (.int 1) (.own (.int 1) .nil))) (.own (.bl false) (.own .non .nil))))))))))) .nil))) (.cons (.ret (.bif .tuple (.val (.var 2) .nil))) .nil))))
def n__law_things : List Str := ["feed", "scene", "tree", "long", "level", "found", "parent", "back", "k", "thing", "bent"]
def c__law_things : Ss := (.cons (.set 1 (.call "_law_scene" (.lend 0 (.val (.int 6) (.val (.int 3) .nil))))) (.cons (.par 2 3 (.own (.vix 1 (.int 3)) (.own (.call "_law_long" (.lend 0 .nil)) .nil))) (.cons (.set 4 (.tup (.own (.str "q") (.own (.str "") (.own (.int 0) (.own (.int 0) (.own .non (.own (.tup (.own (.int 1) (.own (.int 1) .nil))) (.own (.bl false) (.own .non .nil)))))))))) (.cons (.set 5 (.lst (.own (.var 1) (.own (.var 2) (.own (.var 3) (.own (.bin .add (.var 3) (.sl (.var 3) (.so (.int 50)) (.so (.int 51)))) (.own (.bin .add (.sl (.var 3) (.so (.int 1)) .no) (.sl (.var 3) .no (.so (.int 1)))) (.own (.rev (.var 3)) (.own (.bin .add (.var 2) (.tup (.own (.var 4) (.own (.var 4) .nil)))) (.own (.tup (.own (.var 4) .nil)) .nil)))))))))) (.cons (.fore (.nm 6) (.seq (.tup (.own (.str "q") (.own (.str "x") (.own (.str "") (.own (.str "Q") .nil))))))
    (.cons (.set 5 (.bin .add (.var 5) (.lst (.own (.bin .add (.var 2) (.tup (.own (.bin .add (.tup (.own (.str "q") (.own (.var 6) .nil))) (.sl (.var 4) (.so (.int 2)) .no)) .nil))) (.own (.bin .add (.tup (.own (.bin .add (.tup (.own (.str "q") (.own (.var 6) .nil))) (.sl (.var 4) (.so (.int 2)) .no)) .nil)) (.var 2)) .nil))))) .nil)) (.cons (.set 5 (.bin .add (.var 5) (.lst (.own (.bin .add (.var 2) (.sl (.var 2) .no (.so (.int 1)))) (.own (.rev (.var 2)) (.own (.sl (.var 2) (.so (.int 1)) .no) (.own (.bif .list (.val (.var 2) .nil)) (.own (.tup .nil) (.own (.bin .add (.sl (.var 1) .no (.so (.int 2))) (.tup (.own (.vix 1 (.int 2)) (.own (.var 3) .nil)))) .nil))))))))) (.cons (.set 5 (.bin .add (.var 5) (.lst (.own (.bin .add (.tup (.own (.bin .pow (.int 10) (.int 40)) .nil)) (.sl (.var 1) (.so (.int 1)) .no)) (.own (.bin .add (.tup (.own (.int 0) .nil)) (.sl (.var 1) (.so (.int 1)) .no)) (.own (.bin .add (.tup (.own (.vix 1 (.int 0)) (.own (.neg (.int 1)) .nil))) (.sl (.var 1) (.so (.int 2)) .no)) (.own (.bin .add (.tup (.own (.bl true) .nil)) (.sl (.var 1) (.so (.int 1)) .no)) .nil))))))) (.cons (.fore (.nm 7) (.seq (.tup (.own (.tup (.own (.tup (.own (.int 1) (.own (.int 2) .nil))) (.own (.tup (.own (.int 1) (.own (.int 2) .nil))) .nil))) (.own (.tup (.own (.tup (.own (.int 0) (.own (.int 1) .nil))) (.own (.tup (.own (.int 1) (.own (.int 1) .nil))) .nil))) (.own (.tup (.own (.tup (.own (.int 1) (.own (.int 1) .nil))) (.own (.tup (.own (.int 1) (.own (.int 1) .nil))) .nil))) (.own (.tup (.own (.tup (.own (.int 1) (.own (.int 1) .nil))) (.own (.tup (.own (.int 2) (.own (.int 1) .nil))) .nil))) (.own .non .nil)))))))
    (.cons (.exp (.push 5 (.bin .add (.bin .add (.sl (.var 1) .no (.so (.int 2))) (.tup (.own (.var 7) .nil))) (.sl (.var 1) (.so (.int 3)) .no)))) .nil)) (.cons (.fore (.nm 8) (.rng1 (.val (.int 6) .nil))
    (.cons (.fore (.nm 9) (.seq (.tup (.own (.var 1) (.own (.var 2) .nil))))
    (.cons (.set 10 (.call "_law_bent" (.lend 0 (.val (.var 9) (.val (.int 8) .nil))))) (.cons (.set 5 (.bin .add (.var 5) (.lst (.own (.var 10) (.own (.call "_law_bent" (.lend 0 (.val (.var 10) (.val (.int 8) .nil)))) .nil))))) .nil))) .nil)) (.cons (.ret (.bin .add (.var 5) (.lst (.own (.sl (.var 1) .no (.so (.int 3))) (.own (.bin .add (.var 1) (.tup (.own .non .nil))) (.own (.bif .list (.val (.var 1) .nil)) (.own .non (.own (.bl true) (.own (.var 1) (.own (.var 2) .nil)))))))))) .nil))))))))))
def n_law : List Str := ["script", "feed", "thing", "kept"]
def c_law : Ss := (.cons (.fore (.nm 2) (.seq (.call "_law_things" (.lend 1 .nil)))
    (.cons (.set 3 (.bif .repr (.val (.var 2) .nil))) (.cons (.ifs (.cmp .ne (.bif .repr (.val (.lst (.own (.call "is_tree" (.val (.var 2) .nil)) (.own (.call "is_scene" (.val (.var 2) .nil)) .nil))) .nil)) (.bif .repr (.val (.lst (.own (.call "_law_is_tree" (.val (.var 2) .nil)) (.own (.call "_law_is_scene" (.val (.var 2) .nil)) .nil))) .nil)))
    (.cons (.ret (.bl false)) .nil)
    .nil) (.cons (.ifs (.cmp .ne (.bif .repr (.val (.var 2) .nil)) (.var 3))
    (.cons (.ret (.bl false)) .nil)
    .nil) .nil)))) (.cons (.ret (.bl true)) .nil))
def dr_s0 : S := (.asg (.sub 0 (.int 1)) (.bin .add (.vix 0 (.int 1)) (.int 1)))
def dr_s1 : S := (.whl 4096 (.and (.cmp .eq (.vix 0 (.int 2)) (.int 0)) (.cmp .lt (.vix 0 (.int 3)) (.bif .len (.val (.vix 0 (.int 0)) .nil)))) (.cons (.set 2 (.bif .abs (.val (.ix (.vix 0 (.int 0)) (.vix 0 (.int 3))) .nil))) (.cons (.asg (.sub 0 (.int 2)) (.bin .mul (.var 2) (.bif .int (.val (.cmp .ge (.var 2) (.bin .pow (.int 10) (.int 18))) .nil)))) (.cons (.asg (.sub 0 (.int 3)) (.bin .add (.vix 0 (.int 3)) (.int 1))) .nil))))
def dr_s2 : S := (.ifs (.cmp .gt (.vix 0 (.int 2)) (.int 0))
    (.cons (.set 3 (.bin .mod (.vix 0 (.int 2)) (.var 1))) (.cons (.asg (.sub 0 (.int 2)) (.bin .fdv (.vix 0 (.int 2)) (.var 1))) (.cons (.ret (.var 3)) .nil)))
    .nil)
def dr_s3 : S := (.set 2 (.ite (.cmp .ne (.vix 0 (.int 0)) (.lst .nil)) (.ix (.vix 0 (.int 0)) (.bin .mod (.vix 0 (.int 1)) (.bif .len (.val (.vix 0 (.int 0)) .nil)))) (.int 5)))
def dr_s4 : S := (.set 4 (.bin .mod (.bin .pow (.bin .add (.bin .add (.bin .mod (.var 2) (.int 1000003)) (.bin .mul (.bin .mul (.int 613) (.vix 0 (.int 1))) (.bin .add (.vix 0 (.int 1)) (.int 7)))) (.int 17)) (.int 5)) (.int 2147483647)))
def dr_s5 : S := (.ret (.bin .mod (.bin .fdv (.bin .mod (.bin .pow (.bin .add (.var 4) (.bin .mul (.int 4099) (.vix 0 (.int 1)))) (.int 5)) (.int 2147483587)) (.int 7)) (.var 1)))
def dr_r6 : Ss := .nil
def dr_r5 : Ss := .cons dr_s5 dr_r6
def dr_r4 : Ss := .cons dr_s4 dr_r5
def dr_r3 : Ss := .cons dr_s3 dr_r4
def dr_r2 : Ss := .cons dr_s2 dr_r3
def dr_r1 : Ss := .cons dr_s1 dr_r2
def dr_r0 : Ss := .cons dr_s0 dr_r1
theorem dr_eq : c__law_draw = dr_r0 := rfl
def fc_s0 : S := (.asg (.tp (.cons (.nm 0) (.cons (.nm 1) .nil))) (.ite (.cmp .gt (.var 1) (.int 0)) (.tup (.own (.var 0) (.own (.var 1) .nil))) (.tup (.own (.bin .sub (.int 0) (.var 0)) (.own (.bin .sub (.int 0) (.var 1)) .nil)))))
def fc_s1 : S := (.par 2 3 (.own (.bif .abs (.val (.var 0) .nil)) (.own (.var 1) .nil)))
def fc_s2 : S := (.whl 4096 (.cmp .gt (.var 3) (.int 0)) (.cons (.par 2 3 (.own (.var 3) (.own (.bin .mod (.var 2) (.var 3)) .nil))) .nil))
def fc_s3 : S := (.ret (.tup (.own (.bin .fdv (.var 0) (.var 2)) (.own (.bin .fdv (.var 1) (.var 2)) .nil))))
def fc_r4 : Ss := .nil
def fc_r3 : Ss := .cons fc_s3 fc_r4
def fc_r2 : Ss := .cons fc_s2 fc_r3
def fc_r1 : Ss := .cons fc_s1 fc_r2
def fc_r0 : Ss := .cons fc_s0 fc_r1
theorem fc_eq : c__law_frac = fc_r0 := rfl
def ct_s0 : S := (.set 3 (.comp [10] (.nm 10) (.rng1 (.val (.int 4) .nil)) .no (.call "_law_point" (.lend 0 .nil))))
def ct_s1 : S := (.set 4 (.bin .add (.int 1) (.call "_law_draw" (.lend 0 (.val (.int 9) .nil)))))
def ct_s2 : S := (.set 5 (.lst .nil))
def ct_s3 : S := (.fore (.nm 6) (.rng1 (.val (.var 2) .nil))
    (.cons (.set 7 (.lst .nil)) (.cons (.fore (.nm 8) (.rng1 (.val (.var 1) .nil))
    (.cons (.set 9 (.tup (.own (.var 4) (.own (.var 8) (.own (.var 6) .nil))))) (.cons (.ifs (.cmp .eq (.call "_law_draw" (.lend 0 (.val (.int 5) .nil))) (.int 0))
    (.cons (.set 9 (.tup (.own (.call "_law_draw" (.lend 0 (.val (.int 9) .nil))) (.own (.call "_law_draw" (.lend 0 (.val (.int 9) .nil))) (.own (.var 6) .nil))))) .nil)
    .nil) (.cons (.exp (.push 7 (.tup (.own (.var 9) (.own (.vix 3 (.call "_law_draw" (.lend 0 (.val (.int 4) .nil)))) .nil))))) .nil)))) (.cons (.exp (.push 5 (.bif .tuple (.val (.var 7) .nil)))) .nil))))
def ct_s4 : S := (.ret (.bif .tuple (.val (.var 5) .nil)))
def ct_r5 : Ss := .nil
def ct_r4 : Ss := .cons ct_s4 ct_r5
def ct_r3 : Ss := .cons ct_s3 ct_r4
def ct_r2 : Ss := .cons ct_s2 ct_r3
def ct_r1 : Ss := .cons ct_s1 ct_r2
def ct_r0 : Ss := .cons ct_s0 ct_r1
def ct_b3_s0 : S := (.set 7 (.lst .nil))
def ct_b3_s1 : S := (.fore (.nm 8) (.rng1 (.val (.var 1) .nil))
    (.cons (.set 9 (.tup (.own (.var 4) (.own (.var 8) (.own (.var 6) .nil))))) (.cons (.ifs (.cmp .eq (.call "_law_draw" (.lend 0 (.val (.int 5) .nil))) (.int 0))
    (.cons (.set 9 (.tup (.own (.call "_law_draw" (.lend 0 (.val (.int 9) .nil))) (.own (.call "_law_draw" (.lend 0 (.val (.int 9) .nil))) (.own (.var 6) .nil))))) .nil)
    .nil) (.cons (.exp (.push 7 (.tup (.own (.var 9) (.own (.vix 3 (.call "_law_draw" (.lend 0 (.val (.int 4) .nil)))) .nil))))) .nil))))
def ct_b3_s2 : S := (.exp (.push 5 (.bif .tuple (.val (.var 7) .nil))))
def ct_b3_r3 : Ss := .nil
def ct_b3_r2 : Ss := .cons ct_b3_s2 ct_b3_r3
def ct_b3_r1 : Ss := .cons ct_b3_s1 ct_b3_r2
def ct_b3_r0 : Ss := .cons ct_b3_s0 ct_b3_r1
def ct_b3_b1_s0 : S := (.set 9 (.tup (.own (.var 4) (.own (.var 8) (.own (.var 6) .nil)))))
def ct_b3_b1_s1 : S := (.ifs (.cmp .eq (.call "_law_draw" (.lend 0 (.val (.int 5) .nil))) (.int 0))
    (.cons (.set 9 (.tup (.own (.call "_law_draw" (.lend 0 (.val (.int 9) .nil))) (.own (.call "_law_draw" (.lend 0 (.val (.int 9) .nil))) (.own (.var 6) .nil))))) .nil)
    .nil)
def ct_b3_b1_s2 : S := (.exp (.push 7 (.tup (.own (.var 9) (.own (.vix 3 (.call "_law_draw" (.lend 0 (.val (.int 4) .nil)))) .nil)))))
def ct_b3_b1_r3 : Ss := .nil
def ct_b3_b1_r2 : Ss := .cons ct_b3_b1_s2 ct_b3_b1_r3
def ct_b3_b1_r1 : Ss := .cons ct_b3_b1_s1 ct_b3_b1_r2
def ct_b3_b1_r0 : Ss := .cons ct_b3_b1_s0 ct_b3_b1_r1
def ct_b3_i1 : It2 := (.rng1 (.val (.var 1) .nil))
theorem ct_b3_s1_eq : ct_b3_s1 = .fore (.nm 8) ct_b3_i1 ct_b3_b1_r0 := rfl
def ct_i3 : It2 := (.rng1 (.val (.var 2) .nil))
theorem ct_s3_eq : ct_s3 = .fore (.nm 6) ct_i3 ct_b3_r0 := rfl
theorem ct_eq : c__law_content = ct_r0 := rfl
def nd_s0 : S := (.par 4 5 (.own (.bin .sub (.call "_law_draw" (.lend 0 (.val (.int 9) .nil))) (.int 3)) (.own (.bin .sub (.call "_law_draw" (.lend 0 (.val (.int 7) .nil))) (.int 3)) .nil)))
def nd_s1 : S := (.par 6 7 (.own (.bin .sub (.call "_law_draw" (.lend 0 (.val (.int 5) .nil))) (.int 1)) (.own (.bin .sub (.call "_law_draw" (.lend 0 (.val (.int 5) .nil))) (.int 1)) .nil)))
def nd_s2 : S := (.set 8 (.tup (.own (.var 6) (.own (.var 7) (.own (.bin .add (.bin .add (.var 6) (.int 1)) (.call "_law_draw" (.lend 0 (.val (.int 6) .nil)))) (.own (.bin .add (.bin .add (.var 7) (.int 1)) (.call "_law_draw" (.lend 0 (.val (.int 6) .nil)))) .nil))))))
def nd_s3 : S := (.set 8 (.ite (.cmp .eq (.call "_law_draw" (.lend 0 (.val (.int 4) .nil))) (.int 0)) (.var 8) .non))
def nd_s4 : S := (.set 9 (.call "_law_frac" (.val (.ix (.lst (.own (.int 16) (.own (.int 16) (.own (.int 16) (.own (.call "_law_draw" (.lend 0 (.val (.int 17) .nil))) (.own (.int 0) .nil)))))) (.call "_law_draw" (.lend 0 (.val (.int 5) .nil)))) (.val (.int 16) .nil))))
def nd_s5 : S := (.set 10 (.cmp .eq (.call "_law_draw" (.lend 0 (.val (.int 9) .nil))) (.int 0)))
def nd_s6 : S := (.set 11 .non)
def nd_s7 : S := (.ifs (.cmp .gt (.call "_law_draw" (.lend 0 (.val (.int 6) .nil))) (.int 0))
    (.cons (.set 11 (.call "_law_content" (.lendL 0 (.val (.bin .add (.int 1) (.call "_law_draw" (.lend 0 (.val (.var 3) .nil)))) (.val (.bin .add (.int 1) (.call "_law_draw" (.lend 0 (.val (.var 3) .nil)))) .nil))))) .nil)
    .nil)
def nd_s8 : S := (.ret (.tup (.own (.var 1) (.own (.var 2) (.own (.var 4) (.own (.var 5) (.own (.var 8) (.own (.var 9) (.own (.var 10) (.own (.var 11) .nil))))))))))
def nd_r9 : Ss := .nil
def nd_r8 : Ss := .cons nd_s8 nd_r9
def nd_r7 : Ss := .cons nd_s7 nd_r8
def nd_r6 : Ss := .cons nd_s6 nd_r7
def nd_r5 : Ss := .cons nd_s5 nd_r6
def nd_r4 : Ss := .cons nd_s4 nd_r5
def nd_r3 : Ss := .cons nd_s3 nd_r4
def nd_r2 : Ss := .cons nd_s2 nd_r3
def nd_r1 : Ss := .cons nd_s1 nd_r2
def nd_r0 : Ss := .cons nd_s0 nd_r1
theorem nd_eq : c__law_node = nd_r0 := rfl
def isn_s0 : S := (.ifs (.not (.call "is_tuple_of" (.val (.var 0) (.val (.int 8) .nil))))
    (.cons (.ret (.bl false)) .nil)
    .nil)
def isn_s1 : S := (.asg (.tp (.cons (.nm 1) (.cons (.nm 2) (.cons (.nm 3) (.cons (.nm 4) (.cons (.nm 5) (.cons (.nm 6) (.cons (.nm 7) (.cons (.nm 8) .nil))))))))) (.var 0))
def isn_s2 : S := (.ifs (.or (.not (.call "is_word" (.val (.var 1) .nil))) (.or (.not (.call "is_parent" (.val (.var 2) .nil))) (.or (.not (.call "is_number" (.val (.var 3) .nil))) (.not (.call "is_number" (.val (.var 4) .nil))))))
    (.cons (.ret (.bl false)) .nil)
    .nil)
def isn_s3 : S := (.ifs (.and (.cmp .isnt (.var 5) .non) (.not (.call "is_rectangle" (.val (.var 5) .nil))))
    (.cons (.ret (.bl false)) .nil)
    .nil)
def isn_s4 : S := (.ifs (.or (.not (.call "is_opacity" (.val (.var 6) .nil))) (.not (.isi .bool (.var 7))))
    (.cons (.ret (.bl false)) .nil)
    .nil)
def isn_s5 : S := (.ret (.or (.cmp .is (.var 8) .non) (.call "is_content" (.val (.var 8) .nil))))
def isn_r6 : Ss := .nil
def isn_r5 : Ss := .cons isn_s5 isn_r6
def isn_r4 : Ss := .cons isn_s4 isn_r5
def isn_r3 : Ss := .cons isn_s3 isn_r4
def isn_r2 : Ss := .cons isn_s2 isn_r3
def isn_r1 : Ss := .cons isn_s1 isn_r2
def isn_r0 : Ss := .cons isn_s0 isn_r1
theorem isn_eq : c_is_node = isn_r0 := rfl
def lco_s0 : S := (.ifs (.or (.not (.isi .tuple (.var 0))) (.cmp .eq (.var 0) (.tup .nil)))
    (.cons (.ret (.bl false)) .nil)
    .nil)
def lco_s1 : S := (.fore (.nm 1) (.seq (.var 0))
    (.cons (.ifs (.or (.not (.isi .tuple (.var 1))) (.or (.cmp .eq (.var 1) (.tup .nil)) (.cmp .ne (.bif .len (.val (.var 1) .nil)) (.bif .len (.val (.vix 0 (.int 0)) .nil)))))
    (.cons (.ret (.bl false)) .nil)
    .nil) (.cons (.ifs (.cmp .ne (.comp [2] (.nm 2) (.seq (.var 1)) (.so (.not (.call "_law_is_pair" (.val (.var 2) .nil)))) (.var 2)) (.lst .nil))
    (.cons (.ret (.bl false)) .nil)
    .nil) .nil)))
def lco_s2 : S := (.ret (.bl true))
def lco_r3 : Ss := .nil
def lco_r2 : Ss := .cons lco_s2 lco_r3
def lco_r1 : Ss := .cons lco_s1 lco_r2
def lco_r0 : Ss := .cons lco_s0 lco_r1
def lco_b1_s0 : S := (.ifs (.or (.not (.isi .tuple (.var 1))) (.or (.cmp .eq (.var 1) (.tup .nil)) (.cmp .ne (.bif .len (.val (.var 1) .nil)) (.bif .len (.val (.vix 0 (.int 0)) .nil)))))
    (.cons (.ret (.bl false)) .nil)
    .nil)
def lco_b1_s1 : S := (.ifs (.cmp .ne (.comp [2] (.nm 2) (.seq (.var 1)) (.so (.not (.call "_law_is_pair" (.val (.var 2) .nil)))) (.var 2)) (.lst .nil))
    (.cons (.ret (.bl false)) .nil)
    .nil)
def lco_b1_r2 : Ss := .nil
def lco_b1_r1 : Ss := .cons lco_b1_s1 lco_b1_r2
def lco_b1_r0 : Ss := .cons lco_b1_s0 lco_b1_r1
def lco_i1 : It2 := (.seq (.var 0))
theorem lco_s1_eq : lco_s1 = .fore (.nm 1) lco_i1 lco_b1_r0 := rfl
theorem lco_eq : c__law_is_content = lco_r0 := rfl
def lno_s0 : S := (.ifs (.or (.not (.isi .tuple (.var 0))) (.or (.cmp .ne (.bif .len (.val (.var 0) .nil)) (.int 8)) (.not (.call "_law_is_word" (.val (.vix 0 (.int 0)) .nil)))))
    (.cons (.ret (.bl false)) .nil)
    .nil)
def lno_s1 : S := (.ifs (.or (.not (.isi .str (.vix 0 (.int 1)))) (.and (.cmp .ne (.vix 0 (.int 1)) (.str "")) (.not (.call "_law_is_word" (.val (.vix 0 (.int 1)) .nil)))))
    (.cons (.ret (.bl false)) .nil)
    .nil)
def lno_s2 : S := (.ifs (.or (.not (.call "_law_is_number" (.val (.vix 0 (.int 2)) .nil))) (.or (.not (.call "_law_is_number" (.val (.vix 0 (.int 3)) .nil))) (.not (.call "_law_is_clip" (.val (.vix 0 (.int 4)) .nil)))))
    (.cons (.ret (.bl false)) .nil)
    .nil)
def lno_s3 : S := (.ifs (.or (.not (.call "_law_is_part" (.val (.vix 0 (.int 5)) .nil))) (.not (.isi .bool (.vix 0 (.int 6)))))
    (.cons (.ret (.bl false)) .nil)
    .nil)
def lno_s4 : S := (.ret (.or (.cmp .is (.vix 0 (.int 7)) .non) (.call "_law_is_content" (.val (.vix 0 (.int 7)) .nil))))
def lno_r5 : Ss := .nil
def lno_r4 : Ss := .cons lno_s4 lno_r5
def lno_r3 : Ss := .cons lno_s3 lno_r4
def lno_r2 : Ss := .cons lno_s2 lno_r3
def lno_r1 : Ss := .cons lno_s1 lno_r2
def lno_r0 : Ss := .cons lno_s0 lno_r1
theorem lno_eq : c__law_is_node = lno_r0 := rfl
def bn_s0 : S := (.set 3 (.call "_law_draw" (.lend 0 (.val (.int 9) .nil))))
def bn_s1 : S := (.ifs (.and (.isi .tuple (.var 1)) (.and (.cmp .ne (.var 1) (.tup .nil)) (.and (.cmp .gt (.var 2) (.int 0)) (.cmp .gt (.var 3) (.int 1)))))
    (.cons (.set 4 (.call "_law_draw" (.lend 0 (.val (.bif .len (.val (.var 1) .nil)) .nil)))) (.cons (.ret (.bin .add (.bin .add (.sl (.var 1) .no (.so (.var 4))) (.tup (.own (.call "_law_bent" (.lend 0 (.val (.vix 1 (.var 4)) (.val (.bin .sub (.var 2) (.int 1)) .nil)))) .nil))) (.sl (.var 1) (.so (.bin .add (.var 4) (.int 1))) .no))) .nil))
    .nil)
def bn_s2 : S := (.ifs (.isi .tuple (.var 1))
    (.cons (.set 4 (.call "_law_draw" (.lend 0 (.val (.bin .add (.bif .len (.val (.var 1) .nil)) (.int 1)) .nil)))) (.cons (.set 5 (.ix (.lst (.own (.int 0) (.own (.neg (.int 1)) (.own (.tup .nil) (.own .non (.own (.bl true) (.own (.str "a") (.own (.tup (.own (.int 0) (.own (.int 1) .nil))) (.own (.int 41) .nil))))))))) (.call "_law_draw" (.lend 0 (.val (.int 8) .nil))))) (.cons (.set 6 (.lst (.own (.bin .add (.bin .add (.sl (.var 1) .no (.so (.var 4))) (.tup (.own (.var 5) .nil))) (.sl (.var 1) (.so (.var 4)) .no)) (.own (.bin .add (.sl (.var 1) .no (.so (.var 4))) (.sl (.var 1) (.so (.bin .add (.var 4) (.int 1))) .no)) (.own (.bin .add (.bin .add (.sl (.var 1) .no (.so (.var 4))) (.tup (.own (.var 5) .nil))) (.sl (.var 1) (.so (.bin .add (.var 4) (.int 1))) .no)) .nil))))) (.cons (.ret (.ix (.bin .add (.var 6) (.lst (.own (.bif .list (.val (.var 1) .nil)) (.own (.bin .add (.var 1) (.sl (.var 1) (.so (.neg (.int 1))) .no)) (.own (.rev (.var 1)) .nil))))) (.call "_law_draw" (.lend 0 (.val (.int 6) .nil))))) .nil))))
    .nil)
def bn_s3 : S := (.ifs (.isi .str (.var 1))
    (.cons (.ret (.ix (.lst (.own (.str "a") (.own (.str "") (.own (.str "A") (.own (.bin .add (.var 1) (.str "a")) (.own (.str "abcdefghi") (.own (.int 1) (.own (.str "cy") .nil)))))))) (.call "_law_draw" (.lend 0 (.val (.int 7) .nil))))) .nil)
    .nil)
def bn_s4 : S := (.ifs (.or (.not (.isi .int (.var 1))) (.isi .bool (.var 1)))
    (.cons (.ret (.ix (.lst (.own (.int 0) (.own (.tup .nil) (.own (.str "a") (.own (.int 1) (.own (.bl true) (.own .non .nil))))))) (.call "_law_draw" (.lend 0 (.val (.int 6) .nil))))) .nil)
    .nil)
def bn_s5 : S := (.ret (.ix (.lst (.own (.bin .add (.var 1) (.int 1)) (.own (.bin .sub (.var 1) (.int 1)) (.own (.int 0) (.own (.cmp .eq (.var 1) (.int 1)) (.own (.bif .str (.val (.var 1) .nil)) (.own .non (.own (.bin .sub (.int 0) (.var 1)) (.own (.bin .pow (.int 10) (.int 30)) .nil))))))))) (.call "_law_draw" (.lend 0 (.val (.int 8) .nil)))))
def bn_r6 : Ss := .nil
def bn_r5 : Ss := .cons bn_s5 bn_r6
def bn_r4 : Ss := .cons bn_s4 bn_r5
def bn_r3 : Ss := .cons bn_s3 bn_r4
def bn_r2 : Ss := .cons bn_s2 bn_r3
def bn_r1 : Ss := .cons bn_s1 bn_r2
def bn_r0 : Ss := .cons bn_s0 bn_r1
theorem bn_eq : c__law_bent = bn_r0 := rfl
def it_s0 : S := (.ifs (.or (.not (.isi .tuple (.var 0))) (.not (.bif .all (.val (.comp [5] (.nm 5) (.seq (.var 0)) .no (.call "is_node" (.val (.var 5) .nil))) .nil))))
    (.cons (.ret (.bl false)) .nil)
    .nil)
def it_s1 : S := (.set 1 (.dlit [((.inr ""), (.bool true))]))
def it_s2 : S := (.fore (.tps (.cons (.nm 2) (.cons (.nm 3) (.star 4)))) (.seq (.var 0))
    (.cons (.ifs (.or (.din false (.var 2) 1) (.din true (.var 3) 1))
    (.cons (.ret (.bl false)) .nil)
    .nil) (.cons (.dput 1 (.var 2) (.bl true)) .nil)))
def it_s3 : S := (.ret (.bl true))
def it_r4 : Ss := .nil
def it_r3 : Ss := .cons it_s3 it_r4
def it_r2 : Ss := .cons it_s2 it_r3
def it_r1 : Ss := .cons it_s1 it_r2
def it_r0 : Ss := .cons it_s0 it_r1
def it_b2_s0 : S := (.ifs (.or (.din false (.var 2) 1) (.din true (.var 3) 1))
    (.cons (.ret (.bl false)) .nil)
    .nil)
def it_b2_s1 : S := (.dput 1 (.var 2) (.bl true))
def it_b2_r2 : Ss := .nil
def it_b2_r1 : Ss := .cons it_b2_s1 it_b2_r2
def it_b2_r0 : Ss := .cons it_b2_s0 it_b2_r1
def it_i2 : It2 := (.seq (.var 0))
theorem it_s2_eq : it_s2 = .fore (.tps (.cons (.nm 2) (.cons (.nm 3) (.star 4)))) it_i2 it_b2_r0 := rfl
theorem it_eq : c_is_tree = it_r0 := rfl
def isc_s0 : S := (.ifs (.or (.not (.call "is_tuple_of" (.val (.var 0) (.val (.int 4) .nil)))) (.not (.bif .all (.val (.comp [1] (.nm 1) (.seq (.sl (.var 0) .no (.so (.int 2)))) .no (.and (.call "is_number" (.val (.var 1) .nil)) (.cmp .gt (.var 1) (.int 0)))) .nil))))
    (.cons (.ret (.bl false)) .nil)
    .nil)
def isc_s1 : S := (.ret (.and (.call "is_pixel" (.val (.vix 0 (.int 2)) .nil)) (.and (.call "is_covered" (.val (.vix 0 (.int 2)) .nil)) (.call "is_tree" (.val (.vix 0 (.int 3)) .nil)))))
def isc_r2 : Ss := .nil
def isc_r1 : Ss := .cons isc_s1 isc_r2
def isc_r0 : Ss := .cons isc_s0 isc_r1
theorem isc_eq : c_is_scene = isc_r0 := rfl
def ls_s0 : S := (.set 3 (.lst (.own (.str "a") (.own (.str "aa") (.own (.str "b") (.own (.str "cy") (.own (.str "root") (.own (.str "zzzzzzzz") .nil))))))))
def ls_s1 : S := (.set 4 (.lst .nil))
def ls_s2 : S := (.fore (.nm 5) (.rng1 (.val (.call "_law_draw" (.lend 0 (.val (.bin .add (.var 1) (.int 1)) .nil))) .nil))
    (.cons (.set 6 (.ite (.and (.cmp .gt (.var 5) (.int 0)) (.cmp .eq (.call "_law_draw" (.lend 0 (.val (.int 2) .nil))) (.int 0))) (.ix (.vix 4 (.call "_law_draw" (.lend 0 (.val (.var 5) .nil)))) (.int 0)) (.str ""))) (.cons (.exp (.push 4 (.call "_law_node" (.lendL 0 (.val (.pop 3 (.call "_law_draw" (.lend 0 (.val (.vlen 3) .nil)))) (.val (.var 6) (.val (.var 2) .nil))))))) .nil)))
def ls_s3 : S := (.set 7 (.tup (.own (.call "_law_frac" (.val (.call "_law_draw" (.lend 0 (.val (.int 17) .nil))) (.val (.int 16) .nil))) (.own (.tup (.own (.int 1) (.own (.int 1) .nil))) .nil))))
def ls_s4 : S := (.ret (.tup (.own (.bin .add (.int 1) (.call "_law_draw" (.lend 0 (.val (.int 8) .nil)))) (.own (.bin .add (.int 1) (.call "_law_draw" (.lend 0 (.val (.int 6) .nil)))) (.own (.var 7) (.own (.bif .tuple (.val (.var 4) .nil)) .nil))))))
def ls_r5 : Ss := .nil
def ls_r4 : Ss := .cons ls_s4 ls_r5
def ls_r3 : Ss := .cons ls_s3 ls_r4
def ls_r2 : Ss := .cons ls_s2 ls_r3
def ls_r1 : Ss := .cons ls_s1 ls_r2
def ls_r0 : Ss := .cons ls_s0 ls_r1
def ls_b2_s0 : S := (.set 6 (.ite (.and (.cmp .gt (.var 5) (.int 0)) (.cmp .eq (.call "_law_draw" (.lend 0 (.val (.int 2) .nil))) (.int 0))) (.ix (.vix 4 (.call "_law_draw" (.lend 0 (.val (.var 5) .nil)))) (.int 0)) (.str "")))
def ls_b2_s1 : S := (.exp (.push 4 (.call "_law_node" (.lendL 0 (.val (.pop 3 (.call "_law_draw" (.lend 0 (.val (.vlen 3) .nil)))) (.val (.var 6) (.val (.var 2) .nil)))))))
def ls_b2_r2 : Ss := .nil
def ls_b2_r1 : Ss := .cons ls_b2_s1 ls_b2_r2
def ls_b2_r0 : Ss := .cons ls_b2_s0 ls_b2_r1
def ls_i2 : It2 := (.rng1 (.val (.call "_law_draw" (.lend 0 (.val (.bin .add (.var 1) (.int 1)) .nil))) .nil))
theorem ls_s2_eq : ls_s2 = .fore (.nm 5) ls_i2 ls_b2_r0 := rfl
theorem ls_eq : c__law_scene = ls_r0 := rfl
def lit_s0 : S := (.ifs (.or (.not (.isi .tuple (.var 0))) (.cmp .ne (.comp [2] (.nm 2) (.seq (.var 0)) (.so (.not (.call "_law_is_node" (.val (.var 2) .nil)))) (.var 2)) (.lst .nil)))
    (.cons (.ret (.bl false)) .nil)
    .nil)
def lit_s1 : S := (.set 1 (.lst (.own (.str "") .nil)))
def lit_s2 : S := (.fore (.nm 2) (.seq (.var 0))
    (.cons (.ifs (.or (.cinv .«in» (.vix 2 (.int 0)) 1) (.cinv .nin (.vix 2 (.int 1)) 1))
    (.cons (.ret (.bl false)) .nil)
    .nil) (.cons (.exp (.push 1 (.vix 2 (.int 0)))) .nil)))
def lit_s3 : S := (.ret (.bl true))
def lit_r4 : Ss := .nil
def lit_r3 : Ss := .cons lit_s3 lit_r4
def lit_r2 : Ss := .cons lit_s2 lit_r3
def lit_r1 : Ss := .cons lit_s1 lit_r2
def lit_r0 : Ss := .cons lit_s0 lit_r1
def lit_b2_s0 : S := (.ifs (.or (.cinv .«in» (.vix 2 (.int 0)) 1) (.cinv .nin (.vix 2 (.int 1)) 1))
    (.cons (.ret (.bl false)) .nil)
    .nil)
def lit_b2_s1 : S := (.exp (.push 1 (.vix 2 (.int 0))))
def lit_b2_r2 : Ss := .nil
def lit_b2_r1 : Ss := .cons lit_b2_s1 lit_b2_r2
def lit_b2_r0 : Ss := .cons lit_b2_s0 lit_b2_r1
def lit_i2 : It2 := (.seq (.var 0))
theorem lit_s2_eq : lit_s2 = .fore (.nm 2) lit_i2 lit_b2_r0 := rfl
theorem lit_eq : c__law_is_tree = lit_r0 := rfl
def lis_s0 : S := (.ifs (.or (.not (.isi .tuple (.var 0))) (.cmp .ne (.bif .len (.val (.var 0) .nil)) (.int 4)))
    (.cons (.ret (.bl false)) .nil)
    .nil)
def lis_s1 : S := (.ifs (.cmp .ne (.comp [1] (.nm 1) (.seq (.sl (.var 0) .no (.so (.int 2)))) (.so (.or (.not (.call "_law_is_number" (.val (.var 1) .nil))) (.cmp .lt (.var 1) (.int 1)))) (.var 1)) (.lst .nil))
    (.cons (.ret (.bl false)) .nil)
    .nil)
def lis_s2 : S := (.ret (.and (.call "_law_is_pixel" (.val (.vix 0 (.int 2)) .nil)) (.and (.cmp .eq (.ix (.vix 0 (.int 2)) (.int 1)) (.tup (.own (.int 1) (.own (.int 1) .nil)))) (.call "_law_is_tree" (.val (.vix 0 (.int 3)) .nil)))))
def lis_r3 : Ss := .nil
def lis_r2 : Ss := .cons lis_s2 lis_r3
def lis_r1 : Ss := .cons lis_s1 lis_r2
def lis_r0 : Ss := .cons lis_s0 lis_r1
theorem lis_eq : c__law_is_scene = lis_r0 := rfl
def lg_s0 : S := (.set 1 (.str "abcdefghij"))
def lg_s1 : S := (.set 2 (.lst .nil))
def lg_s2 : S := (.fore (.nm 3) (.rng1 (.val (.int 100) .nil))
    (.cons (.set 4 (.ite (.and (.cmp .gt (.var 3) (.int 0)) (.cmp .gt (.call "_law_draw" (.lend 0 (.val (.int 3) .nil))) (.int 0))) (.ix (.vix 2 (.neg (.int 1))) (.int 0)) (.str ""))) (.cons (.exp (.push 2 (.tup (.own (.bin .add (.vix 1 (.bin .fdv (.var 3) (.int 10))) (.vix 1 (.bin .mod (.var 3) (.int 10)))) (.own (.var 4) (.own (.int 0) (.own (.var 3) (.own .non (.own (.tup (.own (.int 1) (.own (.int 1) .nil))) (.own (.bl false) (.own .non .nil))))))))))) .nil)))
def lg_s3 : S := (.ret (.bif .tuple (.val (.var 2) .nil)))
def lg_r4 : Ss := .nil
def lg_r3 : Ss := .cons lg_s3 lg_r4
def lg_r2 : Ss := .cons lg_s2 lg_r3
def lg_r1 : Ss := .cons lg_s1 lg_r2
def lg_r0 : Ss := .cons lg_s0 lg_r1
def lg_b2_s0 : S := (.set 4 (.ite (.and (.cmp .gt (.var 3) (.int 0)) (.cmp .gt (.call "_law_draw" (.lend 0 (.val (.int 3) .nil))) (.int 0))) (.ix (.vix 2 (.neg (.int 1))) (.int 0)) (.str "")))
def lg_b2_s1 : S := (.exp (.push 2 (.tup (.own (.bin .add (.vix 1 (.bin .fdv (.var 3) (.int 10))) (.vix 1 (.bin .mod (.var 3) (.int 10)))) (.own (.var 4) (.own (.int 0) (.own (.var 3) (.own .non (.own (.tup (.own (.int 1) (.own (.int 1) .nil))) (.own (.bl false) (.own .non .nil)))))))))))
def lg_b2_r2 : Ss := .nil
def lg_b2_r1 : Ss := .cons lg_b2_s1 lg_b2_r2
def lg_b2_r0 : Ss := .cons lg_b2_s0 lg_b2_r1
def lg_i2 : It2 := (.rng1 (.val (.int 100) .nil))
theorem lg_s2_eq : lg_s2 = .fore (.nm 3) lg_i2 lg_b2_r0 := rfl
theorem lg_eq : c__law_long = lg_r0 := rfl
def th_s0 : S := (.set 1 (.call "_law_scene" (.lend 0 (.val (.int 6) (.val (.int 3) .nil)))))
def th_s1 : S := (.par 2 3 (.own (.vix 1 (.int 3)) (.own (.call "_law_long" (.lend 0 .nil)) .nil)))
def th_s2 : S := (.set 4 (.tup (.own (.str "q") (.own (.str "") (.own (.int 0) (.own (.int 0) (.own .non (.own (.tup (.own (.int 1) (.own (.int 1) .nil))) (.own (.bl false) (.own .non .nil))))))))))
def th_s3 : S := (.set 5 (.lst (.own (.var 1) (.own (.var 2) (.own (.var 3) (.own (.bin .add (.var 3) (.sl (.var 3) (.so (.int 50)) (.so (.int 51)))) (.own (.bin .add (.sl (.var 3) (.so (.int 1)) .no) (.sl (.var 3) .no (.so (.int 1)))) (.own (.rev (.var 3)) (.own (.bin .add (.var 2) (.tup (.own (.var 4) (.own (.var 4) .nil)))) (.own (.tup (.own (.var 4) .nil)) .nil))))))))))
def th_s4 : S := (.fore (.nm 6) (.seq (.tup (.own (.str "q") (.own (.str "x") (.own (.str "") (.own (.str "Q") .nil))))))
    (.cons (.set 5 (.bin .add (.var 5) (.lst (.own (.bin .add (.var 2) (.tup (.own (.bin .add (.tup (.own (.str "q") (.own (.var 6) .nil))) (.sl (.var 4) (.so (.int 2)) .no)) .nil))) (.own (.bin .add (.tup (.own (.bin .add (.tup (.own (.str "q") (.own (.var 6) .nil))) (.sl (.var 4) (.so (.int 2)) .no)) .nil)) (.var 2)) .nil))))) .nil))
def th_s5 : S := (.set 5 (.bin .add (.var 5) (.lst (.own (.bin .add (.var 2) (.sl (.var 2) .no (.so (.int 1)))) (.own (.rev (.var 2)) (.own (.sl (.var 2) (.so (.int 1)) .no) (.own (.bif .list (.val (.var 2) .nil)) (.own (.tup .nil) (.own (.bin .add (.sl (.var 1) .no (.so (.int 2))) (.tup (.own (.vix 1 (.int 2)) (.own (.var 3) .nil)))) .nil)))))))))
def th_s6 : S := (.set 5 (.bin .add (.var 5) (.lst (.own (.bin .add (.tup (.own (.bin .pow (.int 10) (.int 40)) .nil)) (.sl (.var 1) (.so (.int 1)) .no)) (.own (.bin .add (.tup (.own (.int 0) .nil)) (.sl (.var 1) (.so (.int 1)) .no)) (.own (.bin .add (.tup (.own (.vix 1 (.int 0)) (.own (.neg (.int 1)) .nil))) (.sl (.var 1) (.so (.int 2)) .no)) (.own (.bin .add (.tup (.own (.bl true) .nil)) (.sl (.var 1) (.so (.int 1)) .no)) .nil)))))))
def th_s7 : S := (.fore (.nm 7) (.seq (.tup (.own (.tup (.own (.tup (.own (.int 1) (.own (.int 2) .nil))) (.own (.tup (.own (.int 1) (.own (.int 2) .nil))) .nil))) (.own (.tup (.own (.tup (.own (.int 0) (.own (.int 1) .nil))) (.own (.tup (.own (.int 1) (.own (.int 1) .nil))) .nil))) (.own (.tup (.own (.tup (.own (.int 1) (.own (.int 1) .nil))) (.own (.tup (.own (.int 1) (.own (.int 1) .nil))) .nil))) (.own (.tup (.own (.tup (.own (.int 1) (.own (.int 1) .nil))) (.own (.tup (.own (.int 2) (.own (.int 1) .nil))) .nil))) (.own .non .nil)))))))
    (.cons (.exp (.push 5 (.bin .add (.bin .add (.sl (.var 1) .no (.so (.int 2))) (.tup (.own (.var 7) .nil))) (.sl (.var 1) (.so (.int 3)) .no)))) .nil))
def th_s8 : S := (.fore (.nm 8) (.rng1 (.val (.int 6) .nil))
    (.cons (.fore (.nm 9) (.seq (.tup (.own (.var 1) (.own (.var 2) .nil))))
    (.cons (.set 10 (.call "_law_bent" (.lend 0 (.val (.var 9) (.val (.int 8) .nil))))) (.cons (.set 5 (.bin .add (.var 5) (.lst (.own (.var 10) (.own (.call "_law_bent" (.lend 0 (.val (.var 10) (.val (.int 8) .nil)))) .nil))))) .nil))) .nil))
def th_s9 : S := (.ret (.bin .add (.var 5) (.lst (.own (.sl (.var 1) .no (.so (.int 3))) (.own (.bin .add (.var 1) (.tup (.own .non .nil))) (.own (.bif .list (.val (.var 1) .nil)) (.own .non (.own (.bl true) (.own (.var 1) (.own (.var 2) .nil))))))))))
def th_r10 : Ss := .nil
def th_r9 : Ss := .cons th_s9 th_r10
def th_r8 : Ss := .cons th_s8 th_r9
def th_r7 : Ss := .cons th_s7 th_r8
def th_r6 : Ss := .cons th_s6 th_r7
def th_r5 : Ss := .cons th_s5 th_r6
def th_r4 : Ss := .cons th_s4 th_r5
def th_r3 : Ss := .cons th_s3 th_r4
def th_r2 : Ss := .cons th_s2 th_r3
def th_r1 : Ss := .cons th_s1 th_r2
def th_r0 : Ss := .cons th_s0 th_r1
def th_b4_s0 : S := (.set 5 (.bin .add (.var 5) (.lst (.own (.bin .add (.var 2) (.tup (.own (.bin .add (.tup (.own (.str "q") (.own (.var 6) .nil))) (.sl (.var 4) (.so (.int 2)) .no)) .nil))) (.own (.bin .add (.tup (.own (.bin .add (.tup (.own (.str "q") (.own (.var 6) .nil))) (.sl (.var 4) (.so (.int 2)) .no)) .nil)) (.var 2)) .nil)))))
def th_b4_r1 : Ss := .nil
def th_b4_r0 : Ss := .cons th_b4_s0 th_b4_r1
def th_i4 : It2 := (.seq (.tup (.own (.str "q") (.own (.str "x") (.own (.str "") (.own (.str "Q") .nil))))))
theorem th_s4_eq : th_s4 = .fore (.nm 6) th_i4 th_b4_r0 := rfl
def th_b7_s0 : S := (.exp (.push 5 (.bin .add (.bin .add (.sl (.var 1) .no (.so (.int 2))) (.tup (.own (.var 7) .nil))) (.sl (.var 1) (.so (.int 3)) .no))))
def th_b7_r1 : Ss := .nil
def th_b7_r0 : Ss := .cons th_b7_s0 th_b7_r1
def th_i7 : It2 := (.seq (.tup (.own (.tup (.own (.tup (.own (.int 1) (.own (.int 2) .nil))) (.own (.tup (.own (.int 1) (.own (.int 2) .nil))) .nil))) (.own (.tup (.own (.tup (.own (.int 0) (.own (.int 1) .nil))) (.own (.tup (.own (.int 1) (.own (.int 1) .nil))) .nil))) (.own (.tup (.own (.tup (.own (.int 1) (.own (.int 1) .nil))) (.own (.tup (.own (.int 1) (.own (.int 1) .nil))) .nil))) (.own (.tup (.own (.tup (.own (.int 1) (.own (.int 1) .nil))) (.own (.tup (.own (.int 2) (.own (.int 1) .nil))) .nil))) (.own .non .nil)))))))
theorem th_s7_eq : th_s7 = .fore (.nm 7) th_i7 th_b7_r0 := rfl
def th_b8_s0 : S := (.fore (.nm 9) (.seq (.tup (.own (.var 1) (.own (.var 2) .nil))))
    (.cons (.set 10 (.call "_law_bent" (.lend 0 (.val (.var 9) (.val (.int 8) .nil))))) (.cons (.set 5 (.bin .add (.var 5) (.lst (.own (.var 10) (.own (.call "_law_bent" (.lend 0 (.val (.var 10) (.val (.int 8) .nil)))) .nil))))) .nil)))
def th_b8_r1 : Ss := .nil
def th_b8_r0 : Ss := .cons th_b8_s0 th_b8_r1
def th_b8_b0_s0 : S := (.set 10 (.call "_law_bent" (.lend 0 (.val (.var 9) (.val (.int 8) .nil)))))
def th_b8_b0_s1 : S := (.set 5 (.bin .add (.var 5) (.lst (.own (.var 10) (.own (.call "_law_bent" (.lend 0 (.val (.var 10) (.val (.int 8) .nil)))) .nil)))))
def th_b8_b0_r2 : Ss := .nil
def th_b8_b0_r1 : Ss := .cons th_b8_b0_s1 th_b8_b0_r2
def th_b8_b0_r0 : Ss := .cons th_b8_b0_s0 th_b8_b0_r1
def th_b8_i0 : It2 := (.seq (.tup (.own (.var 1) (.own (.var 2) .nil))))
theorem th_b8_s0_eq : th_b8_s0 = .fore (.nm 9) th_b8_i0 th_b8_b0_r0 := rfl
def th_i8 : It2 := (.rng1 (.val (.int 6) .nil))
theorem th_s8_eq : th_s8 = .fore (.nm 8) th_i8 th_b8_r0 := rfl
theorem th_eq : c__law_things = th_r0 := rfl
def lw_s0 : S := (.fore (.nm 2) (.seq (.call "_law_things" (.lend 1 .nil)))
    (.cons (.set 3 (.bif .repr (.val (.var 2) .nil))) (.cons (.ifs (.cmp .ne (.bif .repr (.val (.lst (.own (.call "is_tree" (.val (.var 2) .nil)) (.own (.call "is_scene" (.val (.var 2) .nil)) .nil))) .nil)) (.bif .repr (.val (.lst (.own (.call "_law_is_tree" (.val (.var 2) .nil)) (.own (.call "_law_is_scene" (.val (.var 2) .nil)) .nil))) .nil)))
    (.cons (.ret (.bl false)) .nil)
    .nil) (.cons (.ifs (.cmp .ne (.bif .repr (.val (.var 2) .nil)) (.var 3))
    (.cons (.ret (.bl false)) .nil)
    .nil) .nil))))
def lw_s1 : S := (.ret (.bl true))
def lw_r2 : Ss := .nil
def lw_r1 : Ss := .cons lw_s1 lw_r2
def lw_r0 : Ss := .cons lw_s0 lw_r1
def lw_b0_s0 : S := (.set 3 (.bif .repr (.val (.var 2) .nil)))
def lw_b0_s1 : S := (.ifs (.cmp .ne (.bif .repr (.val (.lst (.own (.call "is_tree" (.val (.var 2) .nil)) (.own (.call "is_scene" (.val (.var 2) .nil)) .nil))) .nil)) (.bif .repr (.val (.lst (.own (.call "_law_is_tree" (.val (.var 2) .nil)) (.own (.call "_law_is_scene" (.val (.var 2) .nil)) .nil))) .nil)))
    (.cons (.ret (.bl false)) .nil)
    .nil)
def lw_b0_s2 : S := (.ifs (.cmp .ne (.bif .repr (.val (.var 2) .nil)) (.var 3))
    (.cons (.ret (.bl false)) .nil)
    .nil)
def lw_b0_r3 : Ss := .nil
def lw_b0_r2 : Ss := .cons lw_b0_s2 lw_b0_r3
def lw_b0_r1 : Ss := .cons lw_b0_s1 lw_b0_r2
def lw_b0_r0 : Ss := .cons lw_b0_s0 lw_b0_r1
def lw_i0 : It2 := (.seq (.call "_law_things" (.lend 1 .nil)))
theorem lw_s0_eq : lw_s0 = .fore (.nm 2) lw_i0 lw_b0_r0 := rfl
theorem lw_eq : c_law = lw_r0 := rfl
end Fc

namespace Fc
open PySem PySem.Spec PyProof.Rows L2 IL
def gGcd : List D → Option D
  | [.int a, .int b] => if 0 ≤ a ∧ 0 ≤ b ∧ lim 1000 b then some (.int (Nat.gcd a.toNat b.toNat : Nat)) else none
  | _ => none
theorem ok_common_divisor (W : Wd) : ∀ ts r, ts.length = 2 → pureF 2 gGcd ts = some r → runM n_common_divisor.length 2 [] (evSs W c_common_divisor) ts = some r := by
  refine pure_ok fun ds d hl hg => ?_
  unfold gGcd at hg
  split at hg
  · split at hg
    · rename_i a b hz
      cases hg
      obtain ⟨h1, h2, h3⟩ := hz
      obtain ⟨x, rfl⟩ := Int.eq_ofNat_of_zero_le h1
      obtain ⟨y, rfl⟩ := Int.eq_ofNat_of_zero_le h2
      have hy : y < 2 ^ 1000 := by simpa [lim] using h3
      have hw := gcd_loop (tst (evC W (.cmp .ne (.var 1) (.int 0)))) (fun x y rest => by
        simp [evC, Cop.d, neD, eqB, bT, scalEq]
        by_cases h : y = 0 <;> simp [h]) 1000 x y 4096 [] hy (by decide)
      show tell (gSeq (gWhile 4096 _ swapBody) (gSeq (gRet (lf (gVar 0))) (IL.ret .nx))) [some (.leaf (.int x)), some (.leaf (.int y))] = _
      unfold tell gSeq bnd
      rw [hw]
      rfl
    · cases hg
  · cases hg
end Fc

namespace Fc
open PySem PySem.Spec PyProof.Rows L2 IL
abbrev lf2 (a b : D) : List T := [.leaf a, .leaf b]
abbrev nn : List (Option T) := [none, none]
theorem den_pos' (r : Rat) : (0 : Int) < r.den := by have := r.den_pos; omega
def Has (W : Wd) (x : Str) (np : Nat) (L : List Nat) (S : FSem → Prop) : Prop := ∃ F, W.fn x = some ⟨np, L, F⟩ ∧ S F
end Fc

namespace IL
open PySem PySem.Spec PyProof.Rows L2
@[simp] theorem tix4_0 (a : D) (b c d : T) : tIx (.lst [.leaf a, b, c, d]) (.int 0) = some a := rfl
@[simp] theorem tix4_1 (a : D) (b c d : T) : tIx (.lst [b, .leaf a, c, d]) (.int 1) = some a := rfl
@[simp] theorem tix4_2 (a : D) (b c d : T) : tIx (.lst [b, c, .leaf a, d]) (.int 2) = some a := rfl
@[simp] theorem tix4_3 (a : D) (b c d : T) : tIx (.lst [b, c, d, .leaf a]) (.int 3) = some a := rfl
@[simp] theorem ap_put (i : Nat) (f : M D) (d : D) : gPut i f d = bnd (held i) fun _ => bnd f fun k => setT i k (.leaf d) := rfl
@[simp] theorem ap_setT {e : En} (i : Nat) (k : D) (t : T) : setT i k t e = match e[i]?, k with
  | some (some (.lst ts)), .int z => (match ixN ts.length z with
    | some j => .ok () (e.set i (some (.lst (ts.set j t))))
    | none => .bad)
  | _, _ => .bad := rfl
@[simp] theorem ixN4_1 : ixN 4 1 = some 1 := rfl
@[simp] theorem ixN4_2 : ixN 4 2 = some 2 := rfl
@[simp] theorem ixN4_3 : ixN 4 3 = some 3 := rfl
@[simp] theorem len_list (xs : List D) : lenD [.list xs] = some (.leaf (.int xs.length)) := rfl
theorem step {W : Wd} {c r : Ss} {s : S} {e e1 : En} (hc : c = .cons s r) (h : evS W s e = .ok .nx e1) : evSs W c e = evSs W r e1 := by
  subst hc
  simp only [evSs, gSeq, bnd, h]
theorem shaped_ints (cells : List Int) : SeqAt.shaped (.list (cells.map .int)) = true := by
  have h : ∀ cells : List Int, PyData.canLayAll0 (cells.map .int) = true ∧ PyData.depthAll (cells.map .int) = 0 := by
    intro cells
    induction cells with
    | nil => exact ⟨by simp [PyData.canLayAll0], by simp [PyData.depthAll]⟩
    | cons c r ih => exact ⟨by simp [PyData.canLayAll0, PyData.canLay0, ih.1], by simp [PyData.depthAll, PyData.depth, ih.2]⟩
  simp [SeqAt.shaped, PyData.canLay0, PyData.depth, (h cells).1, (h cells).2]
theorem ne_nil (cells : List Int) : neD (.list (cells.map .int)) (.list []) = some (.leaf (.bool (!cells.isEmpty))) := by
  have h1 := shaped_ints cells
  have h2 := shaped_ints []
  cases cells with
  | nil => simp [neD, eqB, scalEq, bT, h2, PyData.eqv, PyData.eqvAll]; simpa using h2
  | cons c r =>
    simp only [List.map_nil] at h2
    simp only [neD, eqB, scalEq, h1, h2, bT]
    simp [PyData.eqv, PyData.eqvAll]
theorem ix_cell {cells : List Int} (h : cells ≠ []) {p : Int} : ∃ v, ixD (.list (cells.map .int)) (.int (p.fmod cells.length)) = some (.int v) := by
  have hl : 0 < cells.length := List.length_pos_iff.mpr h
  have h1 : 0 ≤ p.fmod cells.length := Int.fmod_nonneg_of_pos p (by omega)
  have h2 : p.fmod cells.length < cells.length := Int.fmod_lt_of_pos p (by omega)
  have h3 : (p.fmod cells.length).toNat < cells.length := by omega
  refine ⟨cells[(p.fmod cells.length).toNat], ?_⟩
  simp [ixD, L2.atI, ixN, h1, h2, h3]
end IL
namespace Fc
open PySem PySem.Spec PyProof.Rows L2 IL
def dr_c : C := (.and (.cmp .eq (.vix 0 (.int 2)) (.int 0)) (.cmp .lt (.vix 0 (.int 3)) (.bif .len (.val (.vix 0 (.int 0)) .nil))))
def dr_w : Ss := (.cons (.set 2 (.bif .abs (.val (.ix (.vix 0 (.int 0)) (.vix 0 (.int 3))) .nil))) (.cons (.asg (.sub 0 (.int 2)) (.bin .mul (.var 2) (.bif .int (.val (.cmp .ge (.var 2) (.bin .pow (.int 10) (.int 18))) .nil)))) (.cons (.asg (.sub 0 (.int 3)) (.bin .add (.vix 0 (.int 3)) (.int 1))) .nil)))
theorem dr_s1_eq : dr_s1 = .whl 4096 dr_c dr_w := rfl
/-! the feed -/
def fT (cells : List Int) (a n p : Int) : T := .lst [.leaf (.list (cells.map .int)), .leaf (.int a), .leaf (.int n), .leaf (.int p)]
structure Cells (cells : List Int) : Prop where
  few : cells.length ≤ 63
  bits : ∀ c ∈ cells, c.natAbs.log2 ≤ 1048576
def FeedOk (cells : List Int) (k : Nat) (t : T) : Prop := ∃ (a n : Int) (p : Nat), t = fT cells a n p ∧ 0 ≤ a ∧ a ≤ k ∧ 0 ≤ n ∧ p ≤ cells.length ∧ Cells cells
theorem FeedOk.mono {cells : List Int} {k l : Nat} {t : T} (h : FeedOk cells k t) (hk : k ≤ l) : FeedOk cells l t := by
  obtain ⟨a, n, p, e, h1, h2, h3, h4, h5⟩ := h
  exact ⟨a, n, p, e, h1, by omega, h3, h4, h5⟩
def SpDraw (F : FSem) : Prop := ∀ (cells : List Int) (k : Nat) (t : T) (m : Int), k < 2 ^ 26 → FeedOk cells k t → 0 < m → m < 2 ^ 30 → ∃ r t', 0 ≤ r ∧ r < m ∧ FeedOk cells (k + 1) t' ∧ F [t, .leaf (.int m)] = some (.leaf (.int r), [some t', none])
theorem div_small {a m : Int} (h : 0 < m) (h2 : m < 2 ^ 30) : divOk a m = true := divOk_lim (k := 30) (by omega) (show m.natAbs < 2 ^ 30 by omega) (by decide)
theorem ix_at {cells : List Int} {p : Nat} (h : p < cells.length) : ixD (.list (cells.map .int)) (.int p) = some (.int cells[p]) := by
  simp [ixD, L2.atI, ixN, h]
theorem body_step {W : Wd} {cells : List Int} {a : Int} {p : Nat} (hC : Cells cells) (h : p < cells.length) (x1 x2 x3 x4 : Option T) : ∃ (n : Int) (y2 : Option T), 0 ≤ n ∧ evSs W dr_w [some (fT cells a 0 p), x1, x2, x3, x4] = .ok .nx [some (fT cells a n ((p + 1 : Nat) : Int)), x1, y2, x3, x4] := by
  have hx := ix_at h
  obtain ⟨c, hc⟩ : ∃ c : Int, c = (cells[p].natAbs : Int) := ⟨_, rfl⟩
  have hb := hC.bits cells[p] (List.getElem_mem h)
  have ep : powOk 10 18 = true := by decide
  have hp1 : ((p + 1 : Nat) : Int) = (p : Int) + 1 := by omega
  rw [hp1]
  have hl : c.natAbs.log2 ≤ 1048576 := by rw [hc, Int.natAbs_natCast]; exact hb
  have m0 : mulOk c 0 = true := decide_eq_true (by
    have e : (0 : Int).natAbs.log2 = 0 := by decide
    rw [e]; omega)
  have m1 : mulOk c 1 = true := decide_eq_true (by
    have e : (1 : Int).natAbs.log2 = 0 := by decide
    rw [e]; omega)
  generalize (p : Int) = pi at *
  generalize hcl : cells[p] = cv at *
  unfold fT
  generalize cells.map PyData.int = cl at *
  by_cases hbig : (1000000000000000000 : Int) ≤ c
  · refine ⟨c, some (.leaf (.int c)), by omega, ?_⟩
    simp [dr_w, evSs, evS, evC, evCs, evTg, Bop.d, Cop.d, Bif.d, hx, ← hc, ep, hbig, IL.intOfD, m1]
  · refine ⟨0, some (.leaf (.int c)), by omega, ?_⟩
    simp [dr_w, evSs, evS, evC, evCs, evTg, Bop.d, Cop.d, Bif.d, hx, ← hc, ep, hbig, IL.intOfD, m0]
theorem cond_eq {W : Wd} {cells : List Int} {a n : Int} {p : Nat} (x1 x2 x3 x4 : Option T) : tst (evC W dr_c) [some (fT cells a n p), x1, x2, x3, x4] = .ok (decide (n = 0) && decide (p < cells.length)) [some (fT cells a n p), x1, x2, x3, x4] := by
  by_cases h : n = 0
  · subst h
    simp [dr_c, evC, evCs, Cop.d, Bif.d, fT]
  · simp [dr_c, evC, evCs, Cop.d, Bif.d, fT, h]
theorem draw_loop {W : Wd} {cells : List Int} {a : Int} (hC : Cells cells) (x1 x3 x4 : Option T) : ∀ (j : Nat) (n : Int) (p fuel : Nat) (x2 : Option T), p + j = cells.length → 0 ≤ n → j + 1 ≤ fuel →
    ∃ (n' : Int) (p' : Nat) (y2 : Option T), 0 ≤ n' ∧ p' ≤ cells.length ∧ gWhile fuel (tst (evC W dr_c)) (evSs W dr_w) [some (fT cells a n p), x1, x2, x3, x4] = .ok .nx [some (fT cells a n' p'), x1, y2, x3, x4] := by
  intro j
  induction j with
  | zero =>
    intro n p fuel x2 hj hn hf
    obtain ⟨m, rfl⟩ : ∃ m, fuel = m + 1 := ⟨fuel - 1, by omega⟩
    refine ⟨n, p, x2, hn, by omega, ?_⟩
    unfold gWhile bnd
    rw [cond_eq]
    have : decide (p < cells.length) = false := decide_eq_false (by omega)
    rw [this, Bool.and_false]
    rfl
  | succ j ih =>
    intro n p fuel x2 hj hn hf
    obtain ⟨m, rfl⟩ : ∃ m, fuel = m + 1 := ⟨fuel - 1, by omega⟩
    by_cases h0 : n = 0
    · subst h0
      obtain ⟨n1, y2, hn1, hb⟩ := body_step (W := W) (a := a) hC (show p < cells.length by omega) x1 x2 x3 x4
      obtain ⟨n2, p2, z2, q1, q2, q3⟩ := ih n1 (p + 1) m y2 (by omega) hn1 (by omega)
      refine ⟨n2, p2, z2, q1, q2, ?_⟩
      unfold gWhile bnd
      rw [cond_eq]
      have : decide (p < cells.length) = true := decide_eq_true (by omega)
      rw [this]
      simp only [decide_true, Bool.and_self, if_true, bnd]
      rw [hb]
      exact q3
    · refine ⟨n, p, x2, hn, by omega, ?_⟩
      unfold gWhile bnd
      rw [cond_eq]
      have : decide (n = 0) = false := decide_eq_false h0
      rw [this, Bool.false_and]
      rfl
theorem run_draw {W : Wd} : SpDraw (runM n__law_draw.length 2 [0] (evSs W c__law_draw)) := by
  intro cells k t m hk ⟨a, n, p, e, ha, hak, hn, hp, hC⟩ h0 hm
  subst e
  have hm0 : m ≠ 0 := by omega
  have g0 : evS W dr_s0 [some (fT cells a n p), some (.leaf (.int m)), none, none, none] = .ok .nx [some (fT cells (a + 1) n p), some (.leaf (.int m)), none, none, none] := by
    simp [dr_s0, evSs, evS, evC, evCs, evTg, Bop.d, fT]
  obtain ⟨n', p', y2, hn', hp', hw⟩ := draw_loop (W := W) (a := a + 1) hC (some (.leaf (.int m))) none none (cells.length - p) n p 4096 none (by omega) hn (by have := hC.few; omega)
  have g1 : evS W dr_s1 [some (fT cells (a + 1) n p), some (.leaf (.int m)), none, none, none] = .ok .nx [some (fT cells (a + 1) n' p'), some (.leaf (.int m)), y2, none, none] := by
    rw [dr_s1_eq]
    exact hw
  have start : ∀ r e', evSs W dr_r2 [some (fT cells (a + 1) n' p'), some (.leaf (.int m)), y2, none, none] = .ok (.rt (.leaf (.int r))) e' → evSs W c__law_draw [some (fT cells a n p), some (.leaf (.int m)), none, none, none] = .ok (.rt (.leaf (.int r))) e' := by
    intro r e' h
    rw [dr_eq, step (c := dr_r0) rfl g0, step (c := dr_r1) rfl g1, h]
  have fin : ∀ r a' n' p' e', evSs W c__law_draw [some (fT cells a n p), some (.leaf (.int m)), none, none, none] = .ok (.rt (.leaf (.int r))) (some (fT cells a' n' p') :: e') → runM n__law_draw.length 2 [0] (evSs W c__law_draw) [fT cells a n p, .leaf (.int m)] = some (.leaf (.int r), [some (fT cells a' n' p'), none]) := by
    intro r a' n' p' e' h
    unfold runM runF
    show (match (match evSs W c__law_draw [some (fT cells a n p), some (.leaf (.int m)), none, none, none] with
      | .ok (.rt t) e => some (t, (e ++ List.replicate 2 none).take 2)
      | .ok .nx e => some (.leaf .none, (e ++ List.replicate 2 none).take 2)
      | _ => none) with
      | some (t, o) => some (t, maskN [0] 0 o)
      | none => none) = _
    rw [h]
    cases e' <;> simp [maskN]
  by_cases hq0 : 0 < n'
  · refine ⟨n'.fmod m, fT cells (a + 1) (n'.fdiv m) p', Int.fmod_nonneg_of_pos n' h0, Int.fmod_lt_of_pos n' h0, ⟨a + 1, n'.fdiv m, p', rfl, by omega, by omega, Int.fdiv_nonneg (by omega) (by omega), hp', hC⟩, fin _ _ _ _ [some (.leaf (.int m)), y2, some (.leaf (.int (n'.fmod m))), none] (start _ _ ?_)⟩
    have d1 := div_small (a := n') h0 hm
    generalize (p' : Int) = pi at *
    simp [dr_r2, dr_s2, dr_r3, evSs, evS, evC, evCs, evTg, Bop.d, Cop.d, Bif.d, fT, hq0, hm0, d1]
  · have g2 : evS W dr_s2 [some (fT cells (a + 1) n' p'), some (.leaf (.int m)), y2, none, none] = .ok .nx [some (fT cells (a + 1) n' p'), some (.leaf (.int m)), y2, none, none] := by
      generalize (p' : Int) = pi at *
      simp [dr_s2, evSs, evS, evC, evCs, evTg, Bop.d, Cop.d, fT, hq0]
    obtain ⟨v, g3⟩ : ∃ v : Int, evS W dr_s3 [some (fT cells (a + 1) n' p'), some (.leaf (.int m)), y2, none, none] = .ok .nx [some (fT cells (a + 1) n' p'), some (.leaf (.int m)), some (.leaf (.int v)), none, none] := by
      generalize (p' : Int) = pi at *
      by_cases hc : cells = []
      · subst hc
        refine ⟨5, ?_⟩
        have := ne_nil []
        simp only [List.map_nil] at this
        simp [dr_s3, evSs, evS, evC, evCs, Cop.d, fT, this]
      · obtain ⟨v, hv⟩ := ix_cell hc (p := a + 1)
        have h2 := ne_nil cells
        have h3 : cells.isEmpty = false := by simpa using hc
        refine ⟨v, ?_⟩
        simp [dr_s3, evSs, evS, evC, evCs, Cop.d, Bop.d, Bif.d, fT, h2, h3, hv, hc]
    have f1 := Int.fmod_nonneg_of_pos v (b := 1000003) (by decide)
    have f2 := Int.fmod_lt_of_pos v (b := 1000003) (by decide)
    have hA0 : 0 ≤ 613 * (a + 1) * (a + 1 + 7) := Int.mul_nonneg (Int.mul_nonneg (by decide) (by omega)) (by omega)
    have hA1 : 613 * (a + 1) * (a + 1 + 7) ≤ 613 * 67108864 * 67108871 := by
      have z1 : 613 * (a + 1) ≤ 613 * 67108864 := by omega
      have z2 : a + 1 + 7 ≤ 67108871 := by omega
      exact Int.mul_le_mul z1 z2 (by omega) (by decide)
    obtain ⟨x1, hx1⟩ : ∃ x1, x1 = v.fmod 1000003 + 613 * (a + 1) * (a + 1 + 7) + 17 := ⟨_, rfl⟩
    have p1 : powOk x1 5 = true := by
      refine decide_eq_true ⟨by decide, by decide, ?_⟩
      omega
    have l1 : lim 27 (a + 1) := show (a + 1).natAbs < 2 ^ 27 by omega
    have l7 : lim 27 (a + 1 + 7) := show (a + 1 + 7).natAbs < 2 ^ 27 by omega
    have m1 : mulOk 613 (a + 1) = true := mulOk_lim (k := 10) (by decide) l1 (by decide)
    have m2 : mulOk (613 * (a + 1)) (a + 1 + 7) = true := mulOk_lim (lim_mul (show lim 10 613 by decide) l1) l7 (by decide)
    have m3 : mulOk 4099 (a + 1) = true := mulOk_lim (k := 13) (by decide) l1 (by decide)
    have f3 := Int.fmod_nonneg_of_pos (x1 ^ 5) (b := 2147483647) (by decide)
    have f4 := Int.fmod_lt_of_pos (x1 ^ 5) (b := 2147483647) (by decide)
    obtain ⟨x2, hx2⟩ : ∃ x2, x2 = (x1 ^ 5).fmod 2147483647 := ⟨_, rfl⟩
    obtain ⟨x3, hx3⟩ : ∃ x3, x3 = x2 + 4099 * (a + 1) := ⟨_, rfl⟩
    have p2 : powOk x3 5 = true := by
      refine decide_eq_true ⟨by decide, by decide, ?_⟩
      omega
    have g4 : evS W dr_s4 [some (fT cells (a + 1) n' p'), some (.leaf (.int m)), some (.leaf (.int v)), none, none] = .ok .nx [some (fT cells (a + 1) n' p'), some (.leaf (.int m)), some (.leaf (.int v)), none, some (.leaf (.int x2))] := by
      generalize (p' : Int) = pi at *
      simp [dr_s4, evSs, evS, evC, evCs, evTg, Cop.d, Bop.d, Bif.d, fT, m1, m2, ← hx1, p1, ← hx2]
    have d1 : divOk ((x3 ^ 5).fmod 2147483587) 7 = true := div_small (by decide) (by decide)
    refine ⟨(((x3 ^ 5).fmod 2147483587).fdiv 7).fmod m, fT cells (a + 1) n' p', Int.fmod_nonneg_of_pos _ h0, Int.fmod_lt_of_pos _ h0, ⟨a + 1, n', p', rfl, by omega, by omega, hn', hp', hC⟩, fin _ _ _ _ [some (.leaf (.int m)), some (.leaf (.int v)), none, some (.leaf (.int x2))] (start _ _ ?_)⟩
    rw [step (c := dr_r2) rfl g2, step (c := dr_r3) rfl g3, step (c := dr_r4) rfl g4]
    generalize (p' : Int) = pi at *
    simp [dr_r5, dr_s5, dr_r6, evSs, evS, evC, evCs, evTg, Cop.d, Bop.d, Bif.d, fT, m3, ← hx3, p2, d1, hm0]
end Fc

namespace IL
open PySem PySem.Spec PyProof.Rows L2
@[simp] theorem unT_tup (n : Nat) (g : List D → M Unit) (ds : List D) : unT n g (.tuple ds) = if ds.length = n then g ds else bad := rfl
@[simp] theorem unT_lst (n : Nat) (g : List D → M Unit) (ds : List D) : unT n g (.list ds) = if ds.length = n then g ds else bad := rfl
@[simp] theorem consG_cons (f : D → M Unit) (g : List D → M Unit) (d : D) (ds : List D) : consG f g (d :: ds) = bnd (f d) fun _ => g ds := rfl
@[simp] theorem ap_push (i : Nat) (f : M T) : gPush i f = bnd (held i) fun _ => bnd (peek i fun t => match t with | .lst _ => some () | _ => none) fun _ => bnd f fun t => bnd (pushT i t) fun _ => IL.ret (.leaf .none) := rfl
@[simp] theorem ap_pushT (i : Nat) (t : T) (e : En) : pushT i t e = match e[i]? with
  | some (some (.lst ts)) => if ts.length < most then .ok () (e.set i (some (.lst (ts ++ [t])))) else .bad
  | _ => .bad := rfl
@[simp] theorem lt_most {n : Nat} (h : n < 100000) : n < most := h
@[simp] theorem ap_par (i j : Nat) (f : M (List T)) : gPar i j f = bnd f fun ts => match ts with
  | [t, u] => bnd (store i t) fun _ => bnd (store j u) fun _ => IL.ret .nx
  | _ => bad := rfl
@[simp] theorem tuple_list (xs : List D) : tupleD [.list xs] = some (.leaf (.tuple xs)) := rfl
@[simp] theorem tuple_tuple (xs : List D) : tupleD [.tuple xs] = some (.leaf (.tuple xs)) := rfl
@[simp] theorem seq_tup (xs : List D) : seqD (.tuple xs) = some xs := rfl
@[simp] theorem seq_lst (xs : List D) : seqD (.list xs) = some xs := rfl
@[simp] theorem ap_itr (f : M D) : gItr f = bnd f fun d => opt (seqD d) := rfl
@[simp] theorem ap_wipe (vs : List Nat) (e : En) : wipeM vs e = .ok () (wipeE e vs) := rfl
theorem run_lent1 {m : M Fl} {nN : Nat} {t t' r : T} {e' : En} (h : m (some t :: List.replicate (nN - 1) none) = .ok (.rt r) (some t' :: e')) : runM nN 1 [0] m [t] = some (r, [some t']) := by
  unfold runM runF
  show (match (match m (some t :: List.replicate (nN - 1) none) with
    | .ok (.rt t) e => some (t, (e ++ List.replicate 1 none).take 1)
    | .ok .nx e => some (.leaf .none, (e ++ List.replicate 1 none).take 1)
    | _ => none) with
    | some (t, o) => some (t, maskN [0] 0 o)
    | none => none) = _
  rw [h]
  simp [maskN]
end IL
namespace Fc
open PySem PySem.Spec PyProof.Rows L2 IL
def fw_c : C := .cmp .gt (.var 3) (.int 0)
def fw_b : Ss := .cons (.par 2 3 (.own (.var 3) (.own (.bin .mod (.var 2) (.var 3)) .nil))) .nil
theorem fc_s2_eq : fc_s2 = .whl 4096 fw_c fw_b := rfl
theorem fw_cond {W : Wd} (e0 e1 : Option T) (x y : Nat) : tst (evC W fw_c) [e0, e1, some (.leaf (.int x)), some (.leaf (.int y))] = .ok (decide (y ≠ 0)) [e0, e1, some (.leaf (.int x)), some (.leaf (.int y))] := by
  simp [fw_c, evC, Cop.d]
  by_cases h : y = 0
  · simp [h]
  · have : 0 < y := by omega
    simp [h, this]
theorem fw_step {W : Wd} (e0 e1 : Option T) (x y : Nat) (hy : y ≠ 0) : evSs W fw_b [e0, e1, some (.leaf (.int x)), some (.leaf (.int y))] = .ok .nx [e0, e1, some (.leaf (.int y)), some (.leaf (.int ((x % y : Nat) : Int)))] := by
  have h : ¬ ((y : Int) = 0) := by omega
  have e := fmod_nat x y
  simp [fw_b, evSs, evS, evC, evCs, Bop.d, hy, e]
theorem fw_loop {W : Wd} (e0 e1 : Option T) : ∀ (k : Nat) (x y n : Nat), y < 2 ^ k → 2 * k + 1 ≤ n → gWhile n (tst (evC W fw_c)) (evSs W fw_b) [e0, e1, some (.leaf (.int x)), some (.leaf (.int y))] = .ok .nx [e0, e1, some (.leaf (.int (Nat.gcd x y : Nat))), some (.leaf (.int 0))] := by
  have stop : ∀ (x n : Nat), 1 ≤ n → gWhile n (tst (evC W fw_c)) (evSs W fw_b) [e0, e1, some (.leaf (.int x)), some (.leaf (.int ((0 : Nat) : Int)))] = .ok .nx [e0, e1, some (.leaf (.int (Nat.gcd x 0 : Nat))), some (.leaf (.int 0))] := by
    intro x n hn
    obtain ⟨m, rfl⟩ : ∃ m, n = m + 1 := ⟨n - 1, by omega⟩
    unfold gWhile bnd
    rw [fw_cond]
    simp [IL.ret]
  have go : ∀ (x y n : Nat), y ≠ 0 → gWhile (n + 1) (tst (evC W fw_c)) (evSs W fw_b) [e0, e1, some (.leaf (.int x)), some (.leaf (.int y))] = gWhile n (tst (evC W fw_c)) (evSs W fw_b) [e0, e1, some (.leaf (.int y)), some (.leaf (.int ((x % y : Nat) : Int)))] := by
    intro x y n hy
    conv => lhs; unfold gWhile bnd
    rw [fw_cond]
    have : decide (y ≠ 0) = true := decide_eq_true hy
    simp only [this, if_true, bnd]
    rw [fw_step e0 e1 x y hy]
  intro k
  induction k with
  | zero =>
    intro x y n hy hn
    have : y = 0 := by simpa using hy
    subst this
    exact stop x n (by omega)
  | succ k ih =>
    intro x y n hy hn
    by_cases h0 : y = 0
    · subst h0
      exact stop x n (by omega)
    · obtain ⟨m, rfl⟩ : ∃ m, n = m + 1 + 1 := ⟨n - 2, by omega⟩
      rw [go x y (m + 1) h0]
      have hlt : x % y < y := Nat.mod_lt _ (by omega)
      by_cases h1 : x % y = 0
      · rw [h1, stop y (m + 1) (by omega)]
        rw [Nat.gcd_comm x y, Nat.gcd_rec y x, h1, Nat.gcd_comm 0 y]
      · rw [go y (x % y) m h1]
        have hlt2 : y % (x % y) < x % y := Nat.mod_lt _ (by omega)
        have hd : y % (x % y) + (x % y) ≤ y := by
          have := Nat.div_add_mod y (x % y)
          have h2 : 1 ≤ y / (x % y) := (Nat.one_le_div_iff (by omega)).mpr (by omega)
          have h3 : x % y * 1 ≤ x % y * (y / (x % y)) := Nat.mul_le_mul_left _ h2
          omega
        have hp : y % (x % y) < 2 ^ k := by rw [Nat.pow_succ] at hy; omega
        rw [ih (x % y) (y % (x % y)) m hp (by omega)]
        rw [Nat.gcd_comm x y, Nat.gcd_rec y x, Nat.gcd_comm (x % y) y, Nat.gcd_comm y (x % y), Nat.gcd_rec (x % y) y]
        rw [Nat.gcd_comm]
def SpFr (F : FSem) : Prop := ∀ a b : Int, 0 < b → lim 400 a → lim 400 b → F (lf2 (.int a) (.int b)) = some (.leaf (fq (Rat.divInt a b)), nn)
theorem run_frac {W : Wd} : SpFr (runM n__law_frac.length 2 [] (evSs W c__law_frac)) := by
  intro a b hb ha hb'
  refine run_pure ?_
  obtain ⟨y, rfl⟩ := Int.eq_ofNat_of_zero_le (show 0 ≤ b by omega)
  have hy : y < 2 ^ 400 := by simpa [lim] using hb'
  have hyp : 0 < y := by omega
  have g0 : evS W fc_s0 [some (.leaf (.int a)), some (.leaf (.int y)), none, none] = .ok .nx [some (.leaf (.int a)), some (.leaf (.int y)), none, none] := by
    simp [fc_s0, evS, evC, evCs, evTg, evTgs, tgN, Cop.d, mkTup, hyp]
  have g1 : evS W fc_s1 [some (.leaf (.int a)), some (.leaf (.int y)), none, none] = .ok .nx [some (.leaf (.int a)), some (.leaf (.int y)), some (.leaf (.int a.natAbs)), some (.leaf (.int y))] := by
    simp [fc_s1, evS, evC, evCs, Bif.d, gPar]
  have g2 : evS W fc_s2 [some (.leaf (.int a)), some (.leaf (.int y)), some (.leaf (.int a.natAbs)), some (.leaf (.int y))] = .ok .nx [some (.leaf (.int a)), some (.leaf (.int y)), some (.leaf (.int (Nat.gcd a.natAbs y : Nat))), some (.leaf (.int 0))] := by
    rw [fc_s2_eq]
    exact fw_loop _ _ 400 a.natAbs y 4096 hy (by decide)
  have eg : Nat.gcd a.natAbs y = Int.gcd a y := by simp [Int.gcd]
  rw [eg] at g2
  have hgl := gcd_lim (a := a) (by omega) (lim_mono hb' (show 400 ≤ 900 by decide))
  have hg := gcd_pos (a := a) (b := (y : Int)) (by omega)
  have d1 : divOk a (Int.gcd a y : Nat) = true := divOk_lim (by omega) hgl (by decide)
  have d2 : divOk y (Int.gcd a y : Nat) = true := divOk_lim (by omega) hgl (by decide)
  have hr := rat_pos (a := a) hb
  show tell (evSs W c__law_frac) [some (.leaf (.int a)), some (.leaf (.int y)), none, none] = _
  unfold tell
  rw [fc_eq, step (c := fc_r0) rfl g0, step (c := fc_r1) rfl g1, step (c := fc_r2) rfl g2]
  rw [← hr]
  generalize ((Int.gcd a y : Nat) : Int) = gg at *
  generalize (y : Int) = yi at *
  simp [fc_r3, fc_s3, fc_r4, evSs, evS, evC, evCs, Bop.d, d1, d2, fr]
end Fc

namespace Fc
open PySem PySem.Spec PyProof.Rows L2 IL
def numB : D → Bool
  | .int _ => true
  | _ => false
def nums2 : D → Bool
  | .tuple [x, y] => numB x && numB y
  | _ => false
def fracB : D → Bool
  | .tuple [.int a, .int b] => decide (0 < b) && decide (Int.gcd a b = 1)
  | _ => false
def partB : D → Bool
  | .tuple [.int a, .int b] => (decide (0 < b) && decide (Int.gcd a b = 1)) && (decide (0 ≤ a) && decide (a ≤ b))
  | _ => false
def pxB : D → Bool
  | .tuple [.tuple [.int a, .int b], .tuple [.int c, .int d]] => partB (.tuple [.int a, .int b]) && partB (.tuple [.int c, .int d]) && decide (a * d ≤ c * b)
  | _ => false
theorem nums2_true {d : D} (h : nums2 d = true) : ∃ a b, d = .tuple [.int a, .int b] := by
  unfold nums2 at h
  split at h
  · rename_i x y
    rw [Bool.and_eq_true] at h
    cases x <;> cases y <;> simp_all [numB]
  · cases h
theorem fracB_nums {d : D} (h : nums2 d = false) : fracB d = false := by
  unfold fracB
  split
  · simp [nums2, numB] at h
  · rfl
theorem partB_frac {d : D} (h : fracB d = false) : partB d = false := by
  unfold partB
  split
  · simp only [fracB] at h
    rw [h]
    rfl
  · rfl
theorem fracB_nums2 {d : D} (h : fracB d = true) : nums2 d = true := by
  cases hn : nums2 d with
  | true => rfl
  | false => rw [fracB_nums hn] at h; cases h
def SpNum (F : FSem) : Prop := ∀ d : D, F [.leaf d] = some (.leaf (.bool (numB d)), [none])
theorem run_is_number {W : Wd} : SpNum (runM n_is_number.length 1 [] (evSs W c_is_number)) := by
  intro d
  refine run_pure ?_
  cases d <;> simp [tell, c_is_number, evSs, evS, evC, evCs, n_is_number, isiB, numB]
theorem run_law_is_number {W : Wd} : SpNum (runM n__law_is_number.length 1 [] (evSs W c__law_is_number)) := by
  intro d
  refine run_pure ?_
  cases d <;> simp [tell, c__law_is_number, evSs, evS, evC, evCs, n__law_is_number, isiB, numB]
def SpNums (F : FSem) : Prop := ∀ d : D, Pd d → F [.leaf d, .leaf (.int 2)] = some (.leaf (.bool (nums2 d)), [none, none])
@[simp] theorem len_tuple (xs : List D) : lenD [.tuple xs] = some (.leaf (.int xs.length)) := rfl
def SpB (f : D → Bool) (F : FSem) : Prop := ∀ d : D, Pd d → F [.leaf d] = some (.leaf (.bool (f d)), [none])
theorem gGcd_abs {a b : Int} (hb : 0 < b) (hl : lim 400 b) : gGcd [.int (a.natAbs : Int), .int b] = some (.int (Int.gcd a b : Nat)) := by
  have e : Nat.gcd (a.natAbs : Int).toNat b.toNat = Int.gcd a b := by
    unfold Int.gcd
    congr 1
    omega
  rw [← e]
  exact if_pos ⟨by omega, by omega, lim_mono hl (by decide)⟩
theorem run_is_fraction {W : Wd} {F : FSem} (h : W.fn "are_numbers" = some ⟨2, [], F⟩) (s : SpNums F) (hg : W.fn "common_divisor" = some ⟨2, [], pureF 2 gGcd⟩) : SpB fracB (runM n_is_fraction.length 1 [] (evSs W c_is_fraction)) := by
  intro d hd
  refine run_pure ?_
  have k1 := s d hd
  cases hn : nums2 d with
  | false =>
    rw [hn] at k1
    rw [fracB_nums hn]
    simp [tell, c_is_fraction, evSs, evS, evC, evCs, Cop.d, Bif.d, n_is_fraction, h, lens, k1]
  | true =>
    obtain ⟨a, b, rfl⟩ := nums2_true hn
    rw [hn] at k1
    have hl := hd.pair
    by_cases hb : 0 < b
    · have k2 := gGcd_abs (a := a) hb hl.2
      have k4 : ¬ (b ≤ 0) := by omega
      simp [tell, c_is_fraction, evSs, evS, evC, evCs, Cop.d, Bif.d, n_is_fraction, h, hg, lens, k1, pureF, k2, k4, fracB, hb]
      omega
    · have k4 : b ≤ 0 := by omega
      simp [tell, c_is_fraction, evSs, evS, evC, evCs, Cop.d, Bif.d, n_is_fraction, h, hg, lens, k1, k4, fracB, hb]
theorem fracB_true {d : D} (h : fracB d = true) : ∃ a b, d = .tuple [.int a, .int b] ∧ 0 < b ∧ Int.gcd a b = 1 := by
  unfold fracB at h
  split at h
  · rename_i a b
    simp only [Bool.and_eq_true, decide_eq_true_eq] at h
    exact ⟨a, b, rfl, h.1, h.2⟩
  · cases h
theorem partB_true {d : D} (h : partB d = true) : ∃ a b, d = .tuple [.int a, .int b] ∧ 0 < b ∧ 0 ≤ a ∧ a ≤ b ∧ fracB d = true := by
  unfold partB at h
  split at h
  · rename_i a b
    simp only [Bool.and_eq_true, decide_eq_true_eq] at h
    exact ⟨a, b, rfl, h.1.1, h.2.1, h.2.2, by simp [fracB, h.1.1, h.1.2]⟩
  · cases h
theorem run_is_part {W : Wd} {F : FSem} (h : W.fn "is_fraction" = some ⟨1, [], F⟩) (s : SpB fracB F) : SpB partB (runM n_is_part.length 1 [] (evSs W c_is_part)) := by
  intro d hd
  refine run_pure ?_
  have k1 := s d hd
  cases hn : fracB d with
  | false =>
    rw [hn] at k1
    rw [partB_frac hn]
    simp [tell, c_is_part, evSs, evS, evC, evCs, Cop.d, Bif.d, n_is_part, h, lens, k1]
  | true =>
    obtain ⟨a, b, rfl, hb, hg⟩ := fracB_true hn
    rw [hn] at k1
    have e : partB (.tuple [.int a, .int b]) = (decide (0 ≤ a) && decide (a ≤ b)) := by simp [partB, hb, hg]
    rw [e]
    by_cases h0 : 0 ≤ a <;> simp [tell, c_is_part, evSs, evS, evC, evCs, Cop.d, Bif.d, n_is_part, h, lens, k1, h0]
def SpBelow2 (F : FSem) : Prop := ∀ a b c d : Int, lim 400 a → lim 400 b → lim 400 c → lim 400 d → F [.leaf (fr a b), .leaf (fr c d)] = some (.leaf (.bool (decide (a * d < c * b))), [none, none])
theorem run_is_below {W : Wd} : SpBelow2 (runM n_is_below.length 2 [] (evSs W c_is_below)) := by
  intro a b c d la lb lc ld
  refine run_pure ?_
  have m1 := mulOk_lim la ld (by decide)
  have m2 := mulOk_lim lc lb (by decide)
  simp [tell, c_is_below, evSs, evS, evC, evCs, Cop.d, Bop.d, n_is_below, m1, m2, fr]
theorem pxB_two (x y : D) : pxB (.tuple [x, y]) = if partB x && partB y then pxB (.tuple [x, y]) else false := by
  split
  · rfl
  · rename_i h
    unfold pxB
    split
    · rename_i a b c d e
      cases e
      simp only [Bool.not_eq_true] at h
      rw [h]
      rfl
    · rfl
theorem pxB_not {d : D} (h : ∀ x y, d ≠ .tuple [x, y]) : pxB d = false := by
  unfold pxB
  split
  · exact absurd rfl (h _ _)
  · rfl
theorem run_is_pixel {W : Wd} {F G : FSem} (h : W.fn "is_part" = some ⟨1, [], F⟩) (s : SpB partB F) (hb : W.fn "is_below" = some ⟨2, [], G⟩) (sb : SpBelow2 G) : SpB pxB (runM n_is_pixel.length 1 [] (evSs W c_is_pixel)) := by
  intro d hd
  refine run_pure ?_
  cases d with
  | tuple ds =>
    match ds, hd with
    | [], hd =>
      rw [pxB_not (fun x y z => (by cases z))]
      simp [tell, c_is_pixel, evSs, evS, evC, evCs, Cop.d, Bif.d, n_is_pixel, isiB]
    | [x], hd =>
      rw [pxB_not (fun x y z => (by cases z))]
      simp [tell, c_is_pixel, evSs, evS, evC, evCs, Cop.d, Bif.d, n_is_pixel, isiB]
    | [x, y], hd =>
      have px' := hd.item (x := x) (by simp)
      have py' := hd.item (x := y) (by simp)
      have k1 := s x px'
      have k2 := s y py'
      cases h1 : partB x with
      | false =>
        rw [pxB_two, h1]
        rw [h1] at k1
        simp [tell, c_is_pixel, evSs, evS, evC, evCs, Cop.d, Bif.d, n_is_pixel, isiB, h, lens, k1]
      | true =>
        cases h2 : partB y with
        | false =>
          rw [pxB_two, h1, h2]
          rw [h1] at k1
          rw [h2] at k2
          simp [tell, c_is_pixel, evSs, evS, evC, evCs, Cop.d, Bif.d, n_is_pixel, isiB, h, lens, k1, k2]
        | true =>
          rw [h1] at k1
          rw [h2] at k2
          obtain ⟨a, b, rfl, _⟩ := partB_true h1
          obtain ⟨c, d, rfl, _⟩ := partB_true h2
          have l1 := px'.pair
          have l2 := py'.pair
          have k3 := sb c d a b l2.1 l2.2 l1.1 l1.2
          have e : pxB (.tuple [.tuple [.int a, .int b], .tuple [.int c, .int d]]) = !decide (c * b < a * d) := by
            unfold pxB
            simp only [h1, h2, Bool.true_and]
            by_cases z : a * d ≤ c * b
            · simp [z, show ¬ (c * b < a * d) from by omega]
            · simp [z, show c * b < a * d from by omega]
          rw [e]
          simp only [fr] at k3
          simp [tell, c_is_pixel, evSs, evS, evC, evCs, Cop.d, Bif.d, n_is_pixel, isiB, h, hb, lens, k1, k2, k3]
    | x :: y :: z :: r, hd =>
      rw [pxB_not (fun x y z => (by cases z))]
      have : ¬ ((r.length : Int) + 1 + 1 + 1 = 2) := by omega
      simp [tell, c_is_pixel, evSs, evS, evC, evCs, Cop.d, Bif.d, n_is_pixel, isiB, this]
  | _ =>
    rw [pxB_not (fun x y z => (by cases z))]
    simp [tell, c_is_pixel, evSs, evS, evC, evCs, Cop.d, Bif.d, n_is_pixel, isiB]
/-! the law's own looks -/
theorem ne_lst {xs : List D} (h : SeqAt.shaped (.list xs) = true) : neD (.list xs) (.list []) = some (.leaf (.bool (!xs.isEmpty))) := by
  have h2 : SeqAt.shaped (.list []) = true := by simpa using shaped_ints []
  cases xs with
  | nil => simp [neD, eqB, scalEq, bT, h2, PyData.eqv, PyData.eqvAll]
  | cons c r =>
    simp only [neD, eqB, scalEq, h, h2, bT]
    simp [PyData.eqv, PyData.eqvAll]
theorem shaped_sub {xs ds : List D} (h : Pd (.tuple ds)) (hx : xs.Sublist ds) : SeqAt.shaped (.list xs) = true := by
  obtain ⟨n', e, h1, h2⟩ := h.tup
  cases e
  exact Fine.shaped (Dt.big (dt_lst (n := 39) (fun x hx' => h1 x (hx.subset hx')) (Nat.le_trans (bulkAll_sub hx) h2)))
theorem partB_of {a b c d : Int} (h1 : 0 < b) (h2 : 0 < d) (h3 : 0 ≤ a) (h4 : c ≤ d) (h5 : a * d ≤ c * b) : a ≤ b ∧ 0 ≤ c := by
  have z1 : 0 ≤ a * d := Int.mul_nonneg h3 (by omega)
  have z2 : 0 ≤ c := by
    rcases Int.lt_or_le c 0 with h | h
    · have := Int.mul_neg_of_neg_of_pos h h1
      omega
    · exact h
  refine ⟨?_, z2⟩
  have z3 : c * b ≤ d * b := Int.mul_le_mul_of_nonneg_right h4 (by omega)
  have z4 : a * d ≤ b * d := by rw [Int.mul_comm b d]; omega
  exact Int.le_of_mul_le_mul_right z4 h2
end Fc

namespace IL
open PySem PySem.Spec PyProof.Rows L2
@[simp] theorem ap_neg (f : M D) : gNeg f = bnd f fun d => match d with
  | .int i => IL.ret (.leaf (.int (-i)))
  | _ => bad := rfl
@[simp] theorem ap_part (f : M D) : gPart f = bnd f fun d => bnd (opt (asI d)) fun i => IL.ret (some i) := rfl
@[simp] theorem asI_int (i : Int) : asI (.int i) = some i := rfl
@[simp] theorem ap_sl (fa : M D) (lo hi : M (Option Int)) : gSl fa lo hi = bnd fa fun x => bnd lo fun l => bnd hi fun h => opt (slD x l h) := rfl
@[simp] theorem sl_tup (ds : List D) (l h : Option Int) : slD (.tuple ds) l h = some (.leaf (.tuple (cutD ds l h))) := rfl
theorem tup_add {a b : List D} (h : a.length + b.length ≤ 100000) : addD (.tuple a) (.tuple b) = some (.leaf (.tuple (a ++ b))) := by
  have : a.length + b.length ≤ most := h
  simp [addD, orr, int2, strCat, tupCat, this]
theorem frz_mkTup (ts : List T) : frz (mkTup ts) = .tuple (ts.map frz) := by
  unfold mkTup
  split
  · rename_i ds h
    have e := leaves_eq h
    subst e
    rw [frz_leaf, List.map_map]
    congr 1
    conv => lhs; rw [← List.map_id ds]
    apply List.map_congr_left
    intro a _
    simp
  · rw [frz_tup]
@[simp] theorem frz_lvs (ds : List D) : frz (.lst (ds.map .leaf)) = .list ds := by
  rw [frz_lst, List.map_map]
  congr 1
  conv => rhs; rw [← List.map_id ds]
  apply List.map_congr_left
  intro a _
  simp
theorem cut_drop (ds : List D) (i : Nat) (h : i ≤ ds.length) : cutD ds (some (i : Int)) none = ds.drop i := by
  unfold cutD
  rw [HT.sIx_none, HT.sIx_nat, Nat.min_eq_left h, ← List.length_drop, List.take_length]
theorem cut_take (ds : List D) (i : Nat) (h : i ≤ ds.length) : cutD ds none (some (i : Int)) = ds.take i := by
  unfold cutD
  rw [HT.sIx_none, HT.sIx_nat, Nat.min_eq_left h]
  simp
theorem cut_one (ds : List D) (i : Nat) (h : i < ds.length) : cutD ds (some (i : Int)) (some ((i : Int) + 1)) = (ds.drop i).take 1 := by
  unfold cutD
  rw [show ((i : Int) + 1) = ((i + 1 : Nat) : Int) from rfl, HT.sIx_nat, HT.sIx_nat, Nat.min_eq_left (by omega), Nat.min_eq_left (by omega)]
  congr 1
  omega
theorem cut_drop1 (ds : List D) (i : Nat) (h : i < ds.length) : cutD ds (some ((i : Int) + 1)) none = ds.drop (i + 1) := cut_drop ds (i + 1) (by omega)
theorem ix_mem {ds : List D} {r : Int} (h0 : 0 ≤ r) (h1 : r < ds.length) : ∃ x ∈ ds, ixD (.list ds) (.int r) = some x ∧ ixD (.tuple ds) (.int r) = some x := by
  obtain ⟨j, rfl⟩ := Int.eq_ofNat_of_zero_le h0
  have h2 : j < ds.length := by omega
  refine ⟨ds[j], List.getElem_mem h2, ?_, ?_⟩ <;> simp [ixD, L2.atI, ixN, h2]
end IL
namespace Fc
open PySem PySem.Spec PyProof.Rows L2 IL
theorem eq_tup_nil {ds : List D} (h : SeqAt.shaped (.tuple ds) = true) : eqD (.tuple ds) (.tuple []) = some (.leaf (.bool ds.isEmpty)) := by
  have h2 : SeqAt.shaped (.tuple []) = true := by simp [SeqAt.shaped, PyData.canLay0, PyData.canLayAll0, PyData.depth, PyData.depthAll]
  cases ds with
  | nil => simp [eqD, eqB, scalEq, bT, h2, PyData.eqv, PyData.eqvAll]
  | cons c r =>
    simp only [eqD, eqB, scalEq, h, h2, bT]
    simp [PyData.eqv, PyData.eqvAll]
end Fc

namespace IL
open PySem PySem.Spec PyProof.Rows L2
theorem lst_add {a b : List D} (h : a.length + b.length ≤ 100000) : addD (.list a) (.list b) = some (.lst ((a ++ b).map .leaf)) := by
  have : a.length + b.length ≤ most := h
  simp [addD, orr, int2, strCat, tupCat, lstCat, this]
@[simp] theorem leaves_lst (ts r : List T) : leaves (.lst ts :: r) = none := rfl
end IL
namespace Fc
open PySem PySem.Spec PyProof.Rows L2 IL
def letB (c : Nat) : Bool := decide (97 ≤ c) && decide (c ≤ 122)
def wordB : D → Bool
  | .str s => (decide (1 ≤ s.length) && decide (s.length ≤ 8)) && s.cps.toList.all letB
  | _ => false
def lettersS : Str := "abcdefghijklmnopqrstuvwxyz"
theorem in_letters (c : Nat) : inD (.str ⟨#[c]⟩) (.str lettersS) = some (.leaf (.bool (letB c))) := by
  have e : lettersS.cps.toList = List.range' 97 26 := by decide +kernel
  show bT (some (decide (c ∈ lettersS.cps.toList))) = _
  rw [e]
  show some (T.leaf (.bool _)) = _
  congr 3
  rw [Bool.eq_iff_iff]
  simp only [letB, decide_eq_true_eq, Bool.and_eq_true, List.mem_range'_1]
  omega
theorem le_a (c : Nat) : leD (.str "a") (.str ⟨#[c]⟩) = some (.leaf (.bool (decide (97 ≤ c)))) := by
  show some (T.leaf (.bool (!decide (([c] : List Nat) < [97])))) = _
  congr 3
  rw [Bool.eq_iff_iff]
  simp [List.cons_lt_cons_iff]
theorem le_z (c : Nat) : leD (.str ⟨#[c]⟩) (.str "z") = some (.leaf (.bool (decide (c ≤ 122)))) := by
  show some (T.leaf (.bool (!decide (([122] : List Nat) < [c])))) = _
  congr 3
  rw [Bool.eq_iff_iff]
  simp [List.cons_lt_cons_iff]
@[simp] theorem seq_str (z : Str) : seqD (.str z) = some (IL.signs z) := rfl
def cOf : D → Nat
  | .str s => s.cps.toList.headD 0
  | _ => 0
theorem sign_shape {z : Str} {d : D} (h : d ∈ IL.signs z) : ∃ c, c ∈ z.cps.toList ∧ d = .str ⟨#[c]⟩ ∧ cOf d = c := by
  unfold IL.signs at h
  obtain ⟨c, h1, rfl⟩ := List.mem_map.mp h
  exact ⟨c, h1, rfl, rfl⟩
theorem all_signs (z : Str) (p : Nat → Bool) : ((IL.signs z).all fun d => p (cOf d)) = z.cps.toList.all p := by
  unfold IL.signs
  rw [List.all_map]
  rfl
theorem signs_len (z : Str) : (IL.signs z).length = z.length := by simp [IL.signs, Str.length]
theorem str_dt {z : Str} (h : Pd (.str z)) : z.length ≤ 16000 ∧ (PyData.str z).canLay0 = true := by
  refine ⟨?_, h.fine.lay⟩
  have := h.blk
  simpa [PyData.bulk, Str.length] using this
theorem len_str {z : Str} (h : z.length ≤ 16000) : lenD [.str z] = some (.leaf (.int z.length)) := if_pos (Nat.le_trans h (by decide))
theorem run_is_word {W : Wd} (wl : W.glb "LETTERS" = some (.str lettersS)) (wm : W.glb "MOST_LETTERS" = some (.int 8)) : SpB wordB (runM n_is_word.length 1 [] (evSs W c_is_word)) := by
  intro d hd
  refine run_pure ?_
  cases d with
  | str z =>
    obtain ⟨hl, _⟩ := str_dt hd
    have hlen := len_str hl
    have hc : ∀ y, evC W (.comp [1] (.nm 1) (.seq (.var 0)) .no (.cmp .«in» (.var 1) (.glb "LETTERS"))) [some (.leaf (.str z)), y] = .ok (.lst (((IL.signs z).map fun d => PyData.bool (letB (cOf d))).map .leaf)) [some (.leaf (.str z)), none] := by
      intro y
      obtain ⟨e', h1, y', rfl⟩ := comp_ok (W := W) (vs := [1]) (tg := .nm 1) (it := .seq (.var 0)) (t := .no) (el := .cmp .«in» (.var 1) (.glb "LETTERS")) (e := [some (.leaf (.str z)), y]) (ds := IL.signs z) (fun _ => true) (fun d => .bool (letB (cOf d))) (fun e => ∃ y, e = [some (.leaf (.str z)), y]) (e0 := [some (.leaf (.str z)), y]) (by simp [evI, evC]) ⟨y, rfl⟩ (by rw [signs_len]; exact Nat.le_trans hl (by decide)) (by
        rintro d e hd ⟨y, rfl⟩
        obtain ⟨c, _, rfl, hc⟩ := sign_shape hd
        have hi := in_letters c
        refine ⟨[some (.leaf (.str z)), some (.leaf (.str ⟨#[c]⟩))], by simp [evTg, wipeE], _, by simp [evCond]; rfl, fun _ => ⟨[some (.leaf (.str z)), some (.leaf (.str ⟨#[c]⟩))], ?_, ⟨_, rfl⟩⟩, fun h => by cases h⟩
        rw [hc]
        generalize lettersS = LS at *
        simp [evC, evCs, Cop.d, gGlb, wl, hi])
      rw [h1]
      simp [wipeE]
    have ha := all_bools (fun d => letB (cOf d)) (IL.signs z)
    rw [all_signs z letB] at ha
    have hz : frz (.lst (((IL.signs z).map fun d => PyData.bool (letB (cOf d))).map .leaf)) = .list ((IL.signs z).map fun d => PyData.bool (letB (cOf d))) := frz_lvs _
    unfold c_is_word
    generalize IL.C.comp [1] (.nm 1) (.seq (.var 0)) .no (.cmp .«in» (.var 1) (.glb "LETTERS")) = cc at *
    generalize T.lst (((IL.signs z).map fun d => PyData.bool (letB (cOf d))).map .leaf) = tt at *
    generalize ((IL.signs z).map fun d => PyData.bool (letB (cOf d))) = bl at *
    have e0 : wordB (.str z) = ((decide (1 ≤ z.length) && decide (z.length ≤ 8)) && z.cps.toList.all letB) := rfl
    rw [e0]
    generalize z.cps.toList.all letB = B at *
    obtain ⟨n, hn⟩ : ∃ n : Int, n = (z.length : Int) := ⟨_, rfl⟩
    rw [← hn] at hlen
    by_cases h1 : 1 ≤ n
    · by_cases h8 : n ≤ 8
      · have e1 : 1 ≤ z.length := by omega
        have e2 : z.length ≤ 8 := by omega
        rw [decide_eq_true e1, decide_eq_true e2]
        simp [tell, evSs, evS, evC, evCs, Cop.d, Bif.d, n_is_word, isiB, gGlb, wm, hlen, h1, h8, hc, hz, ha]
      · have e2 : ¬ z.length ≤ 8 := by omega
        rw [decide_eq_false e2]
        simp [tell, evSs, evS, evC, evCs, Cop.d, Bif.d, n_is_word, isiB, gGlb, wm, hlen, h1, h8]
    · have e1 : ¬ 1 ≤ z.length := by omega
      rw [decide_eq_false e1]
      simp [tell, evSs, evS, evC, evCs, Cop.d, Bif.d, n_is_word, isiB, gGlb, wm, hlen, h1]
  | _ => simp [tell, c_is_word, evSs, evS, evC, evCs, Cop.d, Bif.d, n_is_word, isiB, wordB]
theorem eq_lst {xs : List D} (h : SeqAt.shaped (.list xs) = true) : eqD (.list xs) (.list []) = some (.leaf (.bool xs.isEmpty)) := by
  have h2 : SeqAt.shaped (.list []) = true := by simpa using shaped_ints []
  cases xs with
  | nil => simp [eqD, eqB, scalEq, bT, h2, PyData.eqv, PyData.eqvAll]
  | cons c r =>
    simp only [eqD, eqB, scalEq, h, h2, bT]
    simp [PyData.eqv, PyData.eqvAll]
theorem strs_shaped : ∀ (xs : List D), (∀ d ∈ xs, ∃ c : Nat, d = .str ⟨#[c]⟩ ∧ (PyData.str ⟨#[c]⟩).canLay0 = true) → PyData.canLayAll0 xs = true ∧ PyData.depthAll xs = 0
  | [], _ => ⟨by simp [PyData.canLayAll0], by simp [PyData.depthAll]⟩
  | d :: xs, h => by
    obtain ⟨h1, h2⟩ := strs_shaped xs fun x hx => h x (List.mem_cons_of_mem _ hx)
    obtain ⟨c, rfl, hc⟩ := h d List.mem_cons_self
    exact ⟨by simp [PyData.canLayAll0, h1, hc], by simp [PyData.depthAll, PyData.depth, h2]⟩
theorem run_law_is_word {W : Wd} : SpB wordB (runM n__law_is_word.length 1 [] (evSs W c__law_is_word)) := by
  intro d hd
  refine run_pure ?_
  cases d with
  | str z =>
    obtain ⟨hl, hlay⟩ := str_dt hd
    have hlen := len_str hl
    have hc : ∀ y, evC W (.comp [1] (.nm 1) (.seq (.var 0)) (.so (.not (.chain .le .le (.str "a") (.var 1) (.str "z")))) (.var 1)) [some (.leaf (.str z)), y] = .ok (.lst (((IL.signs z).filter fun d => !letB (cOf d)).map .leaf)) [some (.leaf (.str z)), none] := by
      intro y
      obtain ⟨e', h1, y', rfl⟩ := comp_ok (W := W) (vs := [1]) (tg := .nm 1) (it := .seq (.var 0)) (t := .so (.not (.chain .le .le (.str "a") (.var 1) (.str "z")))) (el := .var 1) (e := [some (.leaf (.str z)), y]) (ds := IL.signs z) (fun d => !letB (cOf d)) id (fun e => ∃ y, e = [some (.leaf (.str z)), y]) (e0 := [some (.leaf (.str z)), y]) (by simp [evI, evC]) ⟨y, rfl⟩ (by rw [signs_len]; exact Nat.le_trans hl (by decide)) (by
        rintro d e hd ⟨y, rfl⟩
        obtain ⟨c, _, rfl, hc⟩ := sign_shape hd
        have h1 := le_a c
        have h2 := le_z c
        refine ⟨[some (.leaf (.str z)), some (.leaf (.str ⟨#[c]⟩))], by simp [evTg, wipeE], [some (.leaf (.str z)), some (.leaf (.str ⟨#[c]⟩))], ?_, fun _ => ⟨[some (.leaf (.str z)), some (.leaf (.str ⟨#[c]⟩))], by simp [evC], ⟨_, rfl⟩⟩, fun _ => ⟨_, rfl⟩⟩
        rw [hc]
        unfold letB
        generalize (⟨#[c]⟩ : Str) = sc at *
        by_cases q : 97 ≤ c
        · rw [decide_eq_true q] at h1 ⊢
          simp [evCond, evC, evCs, Cop.d, h1, h2]
        · rw [decide_eq_false q] at h1 ⊢
          simp [evCond, evC, evCs, Cop.d, h1])
      rw [h1]
      simp [wipeE]
    have hsub : ∀ d ∈ (IL.signs z).filter fun d => !letB (cOf d), ∃ c : Nat, d = .str ⟨#[c]⟩ ∧ (PyData.str ⟨#[c]⟩).canLay0 = true := by
      intro d hd
      obtain ⟨c, h1, h2, _⟩ := sign_shape (List.mem_filter.mp hd).1
      refine ⟨c, h2, ?_⟩
      have h3 : (z.cps.all fun c => decide (c < 0x110000)) = true := by simpa only [PyData.canLay0, PyData.strOk] using hlay
      have h4 := Array.all_eq_true_iff_forall_mem.mp h3 c (by simpa using h1)
      simpa [PyData.canLay0, PyData.strOk] using h4
    have hsh : SeqAt.shaped (.list ((IL.signs z).filter fun d => !letB (cOf d))) = true := by
      obtain ⟨h1, h2⟩ := strs_shaped _ hsub
      simp [SeqAt.shaped, PyData.canLay0, PyData.depth, h1, h2]
    have q3 := eq_lst hsh
    have q4 : ((IL.signs z).filter fun d => !letB (cOf d)).isEmpty = z.cps.toList.all letB := by
      rw [← all_signs z letB, Bool.eq_iff_iff]
      simp
    rw [q4] at q3
    have hz : frz (.lst (((IL.signs z).filter fun d => !letB (cOf d)).map .leaf)) = .list ((IL.signs z).filter fun d => !letB (cOf d)) := frz_lvs _
    unfold c__law_is_word
    clear hsub hsh q4
    generalize IL.C.comp [1] (.nm 1) (.seq (.var 0)) (.so (.not (.chain .le .le (.str "a") (.var 1) (.str "z")))) (.var 1) = cc at *
    generalize T.lst (((IL.signs z).filter fun d => !letB (cOf d)).map .leaf) = tt at *
    generalize ((IL.signs z).filter fun d => !letB (cOf d)) = bl at *
    have e0 : wordB (.str z) = ((decide (1 ≤ z.length) && decide (z.length ≤ 8)) && z.cps.toList.all letB) := rfl
    rw [e0]
    generalize z.cps.toList.all letB = B at *
    obtain ⟨n, hn⟩ : ∃ n : Int, n = (z.length : Int) := ⟨_, rfl⟩
    rw [← hn] at hlen
    by_cases h1 : 1 ≤ n
    · by_cases h8 : n ≤ 8
      · have e1 : 1 ≤ z.length := by omega
        have e2 : z.length ≤ 8 := by omega
        rw [decide_eq_true e1, decide_eq_true e2]
        simp [tell, evSs, evS, evC, evCs, Cop.d, Bif.d, n__law_is_word, isiB, hlen, h1, h8, hc, hz, q3]
      · have e2 : ¬ z.length ≤ 8 := by omega
        rw [decide_eq_false e2]
        simp [tell, evSs, evS, evC, evCs, Cop.d, Bif.d, n__law_is_word, isiB, hlen, h1, h8]
    · have e1 : ¬ 1 ≤ z.length := by omega
      rw [decide_eq_false e1]
      simp [tell, evSs, evS, evC, evCs, Cop.d, Bif.d, n__law_is_word, isiB, hlen, h1]
  | _ => simp [tell, c__law_is_word, evSs, evS, evC, evCs, Cop.d, Bif.d, n__law_is_word, isiB, wordB]

def numsB (m : Nat) : D → Bool
  | .tuple ds => decide (ds.length = m) && ds.all numB
  | _ => false
theorem nums2_eq (d : D) : nums2 d = numsB 2 d := by
  cases d with
  | tuple ds =>
    match ds with
    | [] => rfl
    | [x] => rfl
    | [x, y] => simp [nums2, numsB]
    | x :: y :: z :: r => simp [nums2, numsB]
  | _ => rfl
def SpNumsM (F : FSem) : Prop := ∀ (d : D) (m : Nat), m ≤ 9 → Pd d → F [.leaf d, .leaf (.int m)] = some (.leaf (.bool (numsB m d)), [none, none])
theorem SpNumsM.two {F : FSem} (h : SpNumsM F) : SpNums F := fun d hd => by
  rw [nums2_eq]
  exact h d 2 (by omega) hd
theorem pd_len {ds : List D} (h : Pd (.tuple ds)) : ds.length ≤ 16000 := by
  obtain ⟨n', e, h1, h2⟩ := h.tup
  exact Nat.le_trans (bulkAll_len ds) h2
/-- [f(one) for one in thing], the name at slot 2 -/
theorem comp3 {W : Wd} {f : Str} {F : FSem} (hf : W.fn f = some ⟨1, [], F⟩) (g : D → D) {ds : List D} (hs : ∀ d ∈ ds, F [.leaf d] = some (.leaf (g d), [none])) (hm : ds.length ≤ most) (x1 y : Option T) :
    evC W (.comp [2] (.nm 2) (.seq (.var 0)) .no (.call f (.val (.var 2) .nil))) [some (.leaf (.tuple ds)), x1, y] = .ok (.lst ((ds.map g).map .leaf)) [some (.leaf (.tuple ds)), x1, none] := by
  obtain ⟨e', h1, y', rfl⟩ := comp_ok (W := W) (vs := [2]) (tg := .nm 2) (it := .seq (.var 0)) (t := .no) (el := .call f (.val (.var 2) .nil)) (e := [some (.leaf (.tuple ds)), x1, y]) (ds := ds) (fun _ => true) g (fun e => ∃ y, e = [some (.leaf (.tuple ds)), x1, y]) (e0 := [some (.leaf (.tuple ds)), x1, y]) (by simp [evI, evC]) ⟨y, rfl⟩ hm (by
    rintro d e hd ⟨y, rfl⟩
    refine ⟨[some (.leaf (.tuple ds)), x1, some (.leaf d)], by simp [evTg, wipeE], _, by simp [evCond]; rfl, fun _ => ⟨[some (.leaf (.tuple ds)), x1, some (.leaf d)], ?_, ⟨_, rfl⟩⟩, fun h => by cases h⟩
    simp [evC, evCs, hf, lens, hs d hd])
  rw [h1]
  simp [wipeE]
theorem run_are_numbers {W : Wd} {F : FSem} (h : W.fn "is_number" = some ⟨1, [], F⟩) (s : SpNum F) : SpNumsM (runM n_are_numbers.length 2 [] (evSs W c_are_numbers)) := by
  intro d m hm hd
  refine run_pure ?_
  obtain ⟨mi, hmi⟩ : ∃ mi : Int, mi = m := ⟨_, rfl⟩
  rw [← hmi]
  cases d with
  | tuple ds =>
    have hl := pd_len hd
    have hc := fun x1 y => comp3 h (fun d => .bool (numB d)) (ds := ds) (fun d _ => s d) (Nat.le_trans hl (by decide)) x1 y
    have ha := all_bools numB ds
    have hz : frz (.lst ((ds.map fun d => PyData.bool (numB d)).map .leaf)) = .list (ds.map fun d => PyData.bool (numB d)) := frz_lvs _
    have e0 : numsB m (.tuple ds) = (decide (ds.length = m) && ds.all numB) := rfl
    rw [e0]
    unfold c_are_numbers
    generalize IL.C.comp [2] (.nm 2) (.seq (.var 0)) .no (.call "is_number" (.val (.var 2) .nil)) = cc at *
    generalize T.lst ((ds.map fun d => PyData.bool (numB d)).map .leaf) = tt at *
    generalize (ds.map fun d => PyData.bool (numB d)) = bl at *
    generalize ds.all numB = B at *
    by_cases hlm : ds.length = m
    · have hq : (ds.length : Int) = mi := by omega
      rw [decide_eq_true hlm]
      simp [tell, evSs, evS, evC, evCs, Cop.d, Bif.d, n_are_numbers, isiB, hq, hc, hz, ha]
    · have hq : ¬ (ds.length : Int) = mi := by omega
      rw [decide_eq_false hlm]
      simp [tell, evSs, evS, evC, evCs, Cop.d, Bif.d, n_are_numbers, isiB, hq]
  | _ => simp [tell, c_are_numbers, evSs, evS, evC, evCs, Cop.d, Bif.d, n_are_numbers, isiB, numsB]
def tupB (m : Nat) : D → Bool
  | .tuple ds => decide (ds.length = m)
  | _ => false
def SpTup (F : FSem) : Prop := ∀ (d : D) (m : Nat), F [.leaf d, .leaf (.int m)] = some (.leaf (.bool (tupB m d)), [none, none])
theorem run_tuple_of {W : Wd} : SpTup (runM n_is_tuple_of.length 2 [] (evSs W c_is_tuple_of)) := by
  intro d m
  refine run_pure ?_
  obtain ⟨mi, hmi⟩ : ∃ mi : Int, mi = m := ⟨_, rfl⟩
  rw [← hmi]
  cases d with
  | tuple ds =>
    have e : tupB m (.tuple ds) = decide ((ds.length : Int) = mi) := by
      show decide (ds.length = m) = _
      rw [decide_eq_decide]
      omega
    rw [e]
    simp [tell, c_is_tuple_of, evSs, evS, evC, evCs, Cop.d, Bif.d, n_is_tuple_of, isiB]
  | _ => simp [tell, c_is_tuple_of, evSs, evS, evC, evCs, Cop.d, Bif.d, n_is_tuple_of, isiB, tupB]
theorem run_is_id {W : Wd} {F G : FSem} (h : W.fn "is_number" = some ⟨1, [], F⟩) (s : SpNum F) (ht : W.fn "is_tuple_of" = some ⟨2, [], G⟩) (st : SpTup G) : SpB (numsB 3) (runM n_is_id.length 1 [] (evSs W c_is_id)) := by
  intro d hd
  refine run_pure ?_
  have k1 := st d 3
  cases d with
  | tuple ds =>
    have hl := pd_len hd
    have hc := fun y => comp2 h (fun d => .bool (numB d)) (ds := ds) (fun d _ => s d) (Nat.le_trans hl (by decide)) y
    have ha := all_bools numB ds
    have hz : frz (.lst ((ds.map fun d => PyData.bool (numB d)).map .leaf)) = .list (ds.map fun d => PyData.bool (numB d)) := frz_lvs _
    have e0 : numsB 3 (.tuple ds) = (tupB 3 (.tuple ds) && ds.all numB) := rfl
    rw [e0]
    unfold c_is_id
    generalize IL.C.comp [1] (.nm 1) (.seq (.var 0)) .no (.call "is_number" (.val (.var 1) .nil)) = cc at *
    generalize T.lst ((ds.map fun d => PyData.bool (numB d)).map .leaf) = tt at *
    generalize (ds.map fun d => PyData.bool (numB d)) = bl at *
    generalize ds.all numB = B at *
    generalize tupB 3 (.tuple ds) = TB at *
    have k1 : G [.leaf (.tuple ds), .leaf (.int 3)] = some (.leaf (.bool TB), [none, none]) := k1
    cases TB <;> simp [tell, evSs, evS, evC, evCs, Cop.d, Bif.d, n_is_id, ht, lens, k1, hc, hz, ha]
  | _ =>
    have k1 : G [.leaf _, .leaf (.int 3)] = some (.leaf (.bool false), [none, none]) := k1
    simp [tell, c_is_id, evSs, evS, evC, evCs, Cop.d, Bif.d, n_is_id, ht, lens, k1, numsB]
def rectB : D → Bool
  | .tuple [.int a, .int b, .int c, .int d] => decide (a < c) && decide (b < d)
  | _ => false
theorem numB_true {d : D} (h : numB d = true) : ∃ i, d = .int i := by
  cases d with
  | int i => exact ⟨i, rfl⟩
  | _ => cases h
theorem nums4 {d : D} (h : numsB 4 d = true) : ∃ a b c e, d = .tuple [.int a, .int b, .int c, .int e] := by
  cases d with
  | tuple ds =>
    simp only [numsB, Bool.and_eq_true, decide_eq_true_eq] at h
    match ds, h with
    | [w, x, y, z], ⟨_, h⟩ =>
      simp only [List.all_cons, List.all_nil, Bool.and_true, Bool.and_eq_true] at h
      obtain ⟨h1, h2, h3, h4⟩ := h
      obtain ⟨a, rfl⟩ := numB_true h1
      obtain ⟨b, rfl⟩ := numB_true h2
      obtain ⟨c, rfl⟩ := numB_true h3
      obtain ⟨e, rfl⟩ := numB_true h4
      exact ⟨a, b, c, e, rfl⟩
  | _ => cases h
theorem rect_nums {d : D} (h : numsB 4 d = false) : rectB d = false := by
  unfold rectB
  split
  · simp [numsB, numB] at h
  · rfl
theorem run_is_rectangle {W : Wd} {F : FSem} (h : W.fn "are_numbers" = some ⟨2, [], F⟩) (s : SpNumsM F) : SpB rectB (runM n_is_rectangle.length 1 [] (evSs W c_is_rectangle)) := by
  intro d hd
  refine run_pure ?_
  have k1 := s d 4 (by omega) hd
  cases hn : numsB 4 d with
  | false =>
    rw [hn] at k1
    rw [rect_nums hn]
    have k1 : F [.leaf d, .leaf (.int 4)] = some (.leaf (.bool false), [none, none]) := k1
    simp [tell, c_is_rectangle, evSs, evS, evC, evCs, Cop.d, n_is_rectangle, h, lens, k1]
  | true =>
    obtain ⟨a, b, c, e, rfl⟩ := nums4 hn
    rw [hn] at k1
    have k1 : F [.leaf (.tuple [.int a, .int b, .int c, .int e]), .leaf (.int 4)] = some (.leaf (.bool true), [none, none]) := k1
    have i2 : ixD (.tuple [.int a, .int b, .int c, .int e]) (.int 2) = some (.int c) := rfl
    have i3 : ixD (.tuple [.int a, .int b, .int c, .int e]) (.int 3) = some (.int e) := rfl
    by_cases h1 : a < c
    · simp [tell, c_is_rectangle, evSs, evS, evC, evCs, Cop.d, n_is_rectangle, h, lens, k1, i2, i3, h1, rectB]
    · simp [tell, c_is_rectangle, evSs, evS, evC, evCs, Cop.d, n_is_rectangle, h, lens, k1, i2, i3, h1, rectB]
theorem run_is_opacity {W : Wd} {F G : FSem} (h : W.fn "is_fraction" = some ⟨1, [], F⟩) (s : SpB fracB F) (hb : W.fn "is_below" = some ⟨2, [], G⟩) (sb : SpBelow2 G) : SpB partB (runM n_is_opacity.length 1 [] (evSs W c_is_opacity)) := by
  intro d hd
  refine run_pure ?_
  have k1 := s d hd
  cases hn : fracB d with
  | false =>
    rw [hn] at k1
    rw [partB_frac hn]
    simp [tell, c_is_opacity, evSs, evS, evC, evCs, Cop.d, n_is_opacity, h, lens, k1]
  | true =>
    obtain ⟨a, b, rfl, hb0, hg⟩ := fracB_true hn
    rw [hn] at k1
    have hl := hd.pair
    have k2 := sb a b 0 1 hl.1 hl.2 (by decide) (by decide)
    have k3 := sb 1 1 a b (by decide) (by decide) hl.1 hl.2
    simp only [fr] at k2 k3
    have e : partB (.tuple [.int a, .int b]) = (!decide (a * 1 < 0 * b) && !decide (1 * b < a * 1)) := by
      show (decide (0 < b) && decide (Int.gcd a b = 1) && (decide (0 ≤ a) && decide (a ≤ b))) = _
      rw [decide_eq_true hb0, decide_eq_true hg, Bool.and_self, Bool.true_and]
      rw [Bool.eq_iff_iff]
      simp
    rw [e]
    generalize decide (a * 1 < 0 * b) = B1 at *
    generalize decide (1 * b < a * 1) = B2 at *
    cases B1 <;> simp [tell, c_is_opacity, evSs, evS, evC, evCs, Cop.d, n_is_opacity, h, hb, lens, mkTup, k1, k2, k3]
def parB : D → Bool
  | .str s => decide (s = "") || wordB (.str s)
  | _ => false
theorem eq_strs (a b : Str) : eqD (.str a) (.str b) = some (.leaf (.bool (decide (a = b)))) := by
  simp only [eqD, eqB, scalEq, bT, Option.map_some]
  congr 3
theorem run_is_parent {W : Wd} {F : FSem} (h : W.fn "is_word" = some ⟨1, [], F⟩) (s : SpB wordB F) : SpB parB (runM n_is_parent.length 1 [] (evSs W c_is_parent)) := by
  intro d hd
  refine run_pure ?_
  cases d with
  | str z =>
    have k1 := s _ hd
    have k2 := eq_strs z ""
    have e : parB (.str z) = (decide (z = "") || wordB (.str z)) := rfl
    rw [e]
    generalize decide (z = "") = B1 at *
    generalize wordB (.str z) = B2 at *
    cases B1 <;> simp [tell, c_is_parent, evSs, evS, evC, evCs, Cop.d, n_is_parent, isiB, h, lens, k1, k2]
  | _ => simp [tell, c_is_parent, evSs, evS, evC, evCs, Cop.d, n_is_parent, isiB, parB]
end Fc

namespace Fc
open PySem PySem.Spec PyProof.Rows L2 IL
def pairB : D → Bool
  | .tuple [x, y] => numsB 3 x && pxB y
  | _ => false
def rowB (m : Nat) : D → Bool
  | .tuple ds => decide (ds.length = m) && ds.all pairB
  | _ => false
def tlen : D → Nat
  | .tuple ds => ds.length
  | _ => 0
def contB : D → Bool
  | .tuple (r :: rs) => decide (0 < tlen r) && (r :: rs).all (rowB (tlen r))
  | _ => false
def SpRow (F : FSem) : Prop := ∀ (d : D) (m : Nat), Pd d → F [.leaf d, .leaf (.int m)] = some (.leaf (.bool (rowB m d)), [none, none])
theorem tupB2 {d : D} (h : tupB 2 d = true) : ∃ x y, d = .tuple [x, y] := by
  cases d with
  | tuple ds =>
    simp only [tupB, decide_eq_true_eq] at h
    match ds, h with
    | [x, y], _ => exact ⟨x, y, rfl⟩
  | _ => cases h
theorem pairB_not {d : D} (h : tupB 2 d = false) : pairB d = false := by
  unfold pairB
  split
  · simp [tupB] at h
  · rfl
theorem run_row {W : Wd} {F G P : FSem} (ht : W.fn "is_tuple_of" = some ⟨2, [], F⟩) (st : SpTup F) (hi : W.fn "is_id" = some ⟨1, [], G⟩) (si : SpB (numsB 3) G) (hp : W.fn "is_pixel" = some ⟨1, [], P⟩) (sp : SpB pxB P) : SpRow (runM n_is_content_row.length 2 [] (evSs W c_is_content_row)) := by
  intro d m hd
  refine run_pure ?_
  have k1 := st d m
  obtain ⟨mi, hmi⟩ : ∃ mi : Int, mi = m := ⟨_, rfl⟩
  rw [← hmi] at k1 ⊢
  have e1 : ∀ d : D, rowB m d = (tupB m d && (match d with
    | .tuple ds => ds.all pairB
    | _ => false)) := fun d => by cases d <;> rfl
  rw [e1]
  cases hn : tupB m d with
  | false =>
    rw [hn] at k1
    simp [tell, c_is_content_row, evSs, evS, evC, evCs, n_is_content_row, ht, lens, k1]
  | true =>
    rw [hn] at k1
    cases d with
    | tuple ds =>
      have hl := pd_len hd
      have hc : ∀ x1 y, evC W (.comp [2] (.nm 2) (.seq (.var 0)) .no (.and (.call "is_tuple_of" (.val (.var 2) (.val (.int 2) .nil))) (.and (.call "is_id" (.val (.vix 2 (.int 0)) .nil)) (.call "is_pixel" (.val (.vix 2 (.int 1)) .nil))))) [some (.leaf (.tuple ds)), x1, y] = .ok (.lst ((ds.map fun d => PyData.bool (pairB d)).map .leaf)) [some (.leaf (.tuple ds)), x1, none] := by
        intro x1 y
        obtain ⟨e', h1, y', rfl⟩ := comp_ok (W := W) (vs := [2]) (tg := .nm 2) (it := .seq (.var 0)) (t := .no) (el := (.and (.call "is_tuple_of" (.val (.var 2) (.val (.int 2) .nil))) (.and (.call "is_id" (.val (.vix 2 (.int 0)) .nil)) (.call "is_pixel" (.val (.vix 2 (.int 1)) .nil))))) (e := [some (.leaf (.tuple ds)), x1, y]) (ds := ds) (fun _ => true) (fun d => .bool (pairB d)) (fun e => ∃ y, e = [some (.leaf (.tuple ds)), x1, y]) (e0 := [some (.leaf (.tuple ds)), x1, y]) (by simp [evI, evC]) ⟨y, rfl⟩ (Nat.le_trans hl (by decide)) (by
          rintro d e hx ⟨y, rfl⟩
          refine ⟨[some (.leaf (.tuple ds)), x1, some (.leaf d)], by simp [evTg, wipeE], _, by simp [evCond]; rfl, fun _ => ⟨[some (.leaf (.tuple ds)), x1, some (.leaf d)], ?_, ⟨_, rfl⟩⟩, fun h => by cases h⟩
          have hdd := hd.item hx
          have k2 := st d 2
          have k2 : F [.leaf d, .leaf (.int 2)] = some (.leaf (.bool (tupB 2 d)), [none, none]) := k2
          cases h2 : tupB 2 d with
          | false =>
            rw [h2] at k2
            rw [pairB_not h2]
            simp [evC, evCs, ht, lens, k2]
          | true =>
            obtain ⟨x, y, rfl⟩ := tupB2 h2
            rw [h2] at k2
            have k3 := si x (hdd.item (by simp))
            have k4 := sp y (hdd.item (by simp))
            have e3 : pairB (.tuple [x, y]) = (numsB 3 x && pxB y) := rfl
            rw [e3]
            generalize pxB y = B2 at *
            cases h3 : numsB 3 x with
            | false =>
              rw [h3] at k3
              simp [evC, evCs, ht, hi, lens, k2, k3]
            | true =>
              rw [h3] at k3
              simp [evC, evCs, ht, hi, hp, lens, k2, k3, k4])
        rw [h1]
        simp [wipeE]
      have ha := all_bools pairB ds
      have hz : frz (.lst ((ds.map fun d => PyData.bool (pairB d)).map .leaf)) = .list (ds.map fun d => PyData.bool (pairB d)) := frz_lvs _
      simp only [Bool.true_and]
      unfold c_is_content_row
      generalize IL.C.comp [2] (.nm 2) (.seq (.var 0)) .no (.and (.call "is_tuple_of" (.val (.var 2) (.val (.int 2) .nil))) (.and (.call "is_id" (.val (.vix 2 (.int 0)) .nil)) (.call "is_pixel" (.val (.vix 2 (.int 1)) .nil)))) = cc at *
      generalize T.lst ((ds.map fun d => PyData.bool (pairB d)).map .leaf) = tt at *
      generalize (ds.map fun d => PyData.bool (pairB d)) = bl at *
      generalize ds.all pairB = B at *
      simp [tell, evSs, evS, evC, evCs, Bif.d, n_is_content_row, ht, lens, k1, hc, hz, ha]
    | _ => cases hn
theorem isi_not {d : D} (h : ∀ xs, d ≠ .tuple xs) : isiB .tuple d = false := by
  cases d with
  | tuple xs => exact absurd rfl (h xs)
  | _ => rfl
theorem run_content {W : Wd} {F : FSem} (hr : W.fn "is_content_row" = some ⟨2, [], F⟩) (sr : SpRow F) : SpB contB (runM n_is_content.length 1 [] (evSs W c_is_content)) := by
  intro d hd
  refine run_pure ?_
  cases d with
  | tuple ds =>
    cases ds with
    | nil => simp [tell, c_is_content, evSs, evS, evC, evCs, Cop.d, Bif.d, n_is_content, isiB, contB]
    | cons r rs =>
      have hl := pd_len hd
      by_cases hrt : ∃ xs, r = .tuple xs
      · obtain ⟨xs, rfl⟩ := hrt
        have e1 : contB (.tuple (.tuple xs :: rs)) = (decide (0 < xs.length) && (PyData.tuple xs :: rs).all (rowB xs.length)) := rfl
        rw [e1]
        have i0 : ixD (.tuple (.tuple xs :: rs)) (.int 0) = some (.tuple xs) := ix_tup0 _ _
        obtain ⟨ds, hds⟩ : ∃ ds, ds = PyData.tuple xs :: rs := ⟨_, rfl⟩
        rw [← hds] at i0 hd hl ⊢
        have hne : ds ≠ [] := by rw [hds]; exact List.cons_ne_nil _ _
        clear hds e1
        obtain ⟨mi, hmi⟩ : ∃ mi : Int, mi = xs.length := ⟨_, rfl⟩
        have hc : ∀ y, evC W (.comp [1] (.nm 1) (.seq (.var 0)) .no (.call "is_content_row" (.val (.var 1) (.val (.bif .len (.val (.vix 0 (.int 0)) .nil)) .nil)))) [some (.leaf (.tuple ds)), y] = .ok (.lst ((ds.map fun d => PyData.bool (rowB xs.length d)).map .leaf)) [some (.leaf (.tuple ds)), none] := by
          intro y
          obtain ⟨e', h1, y', rfl⟩ := comp_ok (W := W) (vs := [1]) (tg := .nm 1) (it := .seq (.var 0)) (t := .no) (el := (.call "is_content_row" (.val (.var 1) (.val (.bif .len (.val (.vix 0 (.int 0)) .nil)) .nil)))) (e := [some (.leaf (.tuple ds)), y]) (ds := ds) (fun _ => true) (fun d => .bool (rowB xs.length d)) (fun e => ∃ y, e = [some (.leaf (.tuple ds)), y]) (e0 := [some (.leaf (.tuple ds)), y]) (by simp [evI, evC]) ⟨y, rfl⟩ (Nat.le_trans hl (by decide)) (by
            rintro d e hx ⟨y, rfl⟩
            refine ⟨[some (.leaf (.tuple ds)), some (.leaf d)], by simp [evTg, wipeE], _, by simp [evCond]; rfl, fun _ => ⟨[some (.leaf (.tuple ds)), some (.leaf d)], ?_, ⟨_, rfl⟩⟩, fun h => by cases h⟩
            have k2 := sr d xs.length (hd.item hx)
            simp [evC, evCs, Bif.d, hr, lens, i0, k2])
          rw [h1]
          simp [wipeE]
        have ha := all_bools (rowB xs.length) ds
        have hz : frz (.lst ((ds.map fun d => PyData.bool (rowB xs.length d)).map .leaf)) = .list (ds.map fun d => PyData.bool (rowB xs.length d)) := frz_lvs _
        unfold c_is_content
        generalize IL.C.comp [1] (.nm 1) (.seq (.var 0)) .no (.call "is_content_row" (.val (.var 1) (.val (.bif .len (.val (.vix 0 (.int 0)) .nil)) .nil))) = cc at *
        generalize T.lst ((ds.map fun d => PyData.bool (rowB xs.length d)).map .leaf) = tt at *
        generalize (ds.map fun d => PyData.bool (rowB xs.length d)) = bl at *
        generalize ds.all (rowB xs.length) = B at *
        have hp : 0 < ds.length := List.length_pos_iff.mpr hne
        by_cases hx : xs = []
        · subst hx
          simp [tell, evSs, evS, evC, evCs, Cop.d, Bif.d, n_is_content, isiB, hne, i0]
        · have hxp : 0 < xs.length := List.length_pos_iff.mpr hx
          rw [decide_eq_true hxp]
          simp [tell, evSs, evS, evC, evCs, Cop.d, Bif.d, n_is_content, isiB, hne, i0, hx, hc, hz, ha]
      · have e1 : contB (.tuple (r :: rs)) = false := by
          have : tlen r = 0 := by
            cases r with
            | tuple xs => exact absurd ⟨xs, rfl⟩ hrt
            | _ => rfl
          simp [contB, this]
        rw [e1]
        have hi := isi_not fun xs e => hrt ⟨xs, e⟩
        have i0 : ixD (.tuple (r :: rs)) (.int 0) = some r := ix_tup0 _ _
        have hne : r :: rs ≠ [] := List.cons_ne_nil _ _
        generalize r :: rs = ds at *
        have ht0 : isiB .tuple (.tuple ds) = true := rfl
        simp [tell, c_is_content, evSs, evS, evC, evCs, Cop.d, Bif.d, n_is_content, ht0, hne, i0, hi]
  | _ => simp [tell, c_is_content, evSs, evS, evC, evCs, Cop.d, Bif.d, n_is_content, isiB, contB]
end Fc

namespace Fc
open PySem PySem.Spec PyProof.Rows L2 IL
theorem shaped_fr (a b : Int) : SeqAt.shaped (fr a b) = true := by
  simp [SeqAt.shaped, fr, PyData.canLay0, PyData.canLayAll0, PyData.depth, PyData.depthAll]
theorem eq_fr (a b c d : Int) : eqD (fr a b) (fr c d) = some (.leaf (.bool (decide (a = c ∧ b = d)))) := by
  have h1 := shaped_fr a b
  have h2 := shaped_fr c d
  have h3 : PyData.eqv (fr a b) (fr c d) = decide (a = c ∧ b = d) := by
    rw [Bool.eq_iff_iff]
    simp [fr, PyData.eqv, PyData.eqvAll]
  have h4 : scalEq (fr a b) (fr c d) = none := rfl
  simp only [eqD, eqB, h1, h2, h3, h4, bT, Bool.and_self, if_true, Option.map_some]
theorem frac_eq {a b : Int} (hb : 0 < b) : ((Rat.divInt a b).num = a ∧ ((Rat.divInt a b).den : Int) = b) ↔ Int.gcd a b = 1 := by
  have hg := gcd_pos (a := a) (b := b) (by omega)
  have hr := rat_pos (a := a) hb
  unfold fq fr at hr
  injection hr with hr
  injection hr with h1 h2
  injection h2 with h2 _
  injection h1 with h1
  injection h2 with h2
  rw [← h1, ← h2]
  constructor
  · rintro ⟨_, h⟩
    rw [Int.fdiv_eq_ediv_of_nonneg _ (by omega)] at h
    have hd : ((Int.gcd a b : Nat) : Int) ∣ b := Int.gcd_dvd_right ..
    have h3 := Int.mul_ediv_cancel' hd
    rw [h] at h3
    have h4 : ((Int.gcd a b : Nat) : Int) * b = 1 * b := by omega
    have := Int.eq_of_mul_eq_mul_right (by omega) h4
    omega
  · intro h
    rw [h]
    simp
theorem num_two {x y : D} (h : numB x = true) (h' : numB y = true) : ∃ a b, x = .int a ∧ y = .int b := by
  obtain ⟨a, rfl⟩ := numB_true h
  obtain ⟨b, rfl⟩ := numB_true h'
  exact ⟨a, b, rfl, rfl⟩
theorem partB_num {x y : D} (h : (numB x && numB y) = false) : partB (.tuple [x, y]) = false := by
  unfold partB
  split
  · rename_i a b e
    cases e
    cases h
  · rfl
theorem partB_len {d : D} (h : ∀ x y, d ≠ .tuple [x, y]) : partB d = false := by
  unfold partB
  split
  · exact absurd rfl (h _ _)
  · rfl
theorem run_law_is_part {W : Wd} {F G : FSem} (h : W.fn "_law_is_number" = some ⟨1, [], F⟩) (s : SpNum F) (hg : W.fn "_law_frac" = some ⟨2, [], G⟩) (sg : SpFr G) : SpB partB (runM n__law_is_part.length 1 [] (evSs W c__law_is_part)) := by
  intro d hd
  refine run_pure ?_
  cases d with
  | tuple ds =>
    match ds, hd with
    | [], hd =>
      rw [partB_len (fun _ _ z => by cases z)]
      simp [tell, c__law_is_part, evSs, evS, evC, evCs, Cop.d, Bif.d, n__law_is_part, isiB]
    | [x], hd =>
      rw [partB_len (fun _ _ z => by cases z)]
      simp [tell, c__law_is_part, evSs, evS, evC, evCs, Cop.d, Bif.d, n__law_is_part, isiB]
    | [x, y], hd =>
      have k1 := s x
      have k2 := s y
      cases h1 : numB x with
      | false =>
        rw [h1] at k1
        rw [partB_num (by rw [h1]; rfl)]
        simp [tell, c__law_is_part, evSs, evS, evC, evCs, Cop.d, Bif.d, n__law_is_part, isiB, h, lens, k1]
      | true =>
        rw [h1] at k1
        cases h2 : numB y with
        | false =>
          rw [h2] at k2
          rw [partB_num (by rw [h2, Bool.and_false])]
          simp [tell, c__law_is_part, evSs, evS, evC, evCs, Cop.d, Bif.d, n__law_is_part, isiB, h, lens, k1, k2]
        | true =>
          rw [h2] at k2
          obtain ⟨a, b, rfl, rfl⟩ := num_two h1 h2
          have hl := hd.pair
          by_cases q1 : 0 ≤ a
          · by_cases q2 : a ≤ b
            · by_cases q3 : 0 < b
              · have k3 := sg a b q3 hl.1 hl.2
                have k4 : eqD (fq (Rat.divInt a b)) (.tuple [.int a, .int b]) = some (.leaf (.bool (decide ((Rat.divInt a b).num = a ∧ ((Rat.divInt a b).den : Int) = b)))) := eq_fr _ _ _ _
                have e : partB (.tuple [.int a, .int b]) = decide ((Rat.divInt a b).num = a ∧ ((Rat.divInt a b).den : Int) = b) := by
                  show (decide (0 < b) && decide (Int.gcd a b = 1) && (decide (0 ≤ a) && decide (a ≤ b))) = _
                  rw [decide_eq_true q1, decide_eq_true q2, decide_eq_true q3, Bool.and_self, Bool.and_true, Bool.true_and, decide_eq_decide]
                  exact (frac_eq q3).symm
                rw [e]
                simp only [lf2, nn] at k3
                generalize fq (Rat.divInt a b) = Q at *
                generalize decide ((Rat.divInt a b).num = a ∧ ((Rat.divInt a b).den : Int) = b) = B at *
                simp [tell, c__law_is_part, evSs, evS, evC, evCs, Cop.d, Bif.d, n__law_is_part, isiB, h, hg, lens, k1, k2, q1, q2, q3, k3, k4]
              · have e : partB (.tuple [.int a, .int b]) = false := by
                  show (decide (0 < b) && decide (Int.gcd a b = 1) && (decide (0 ≤ a) && decide (a ≤ b))) = _
                  rw [decide_eq_false q3]
                  rfl
                rw [e]
                simp [tell, c__law_is_part, evSs, evS, evC, evCs, Cop.d, Bif.d, n__law_is_part, isiB, h, lens, k1, k2, q1, q2, q3]
            · have e : partB (.tuple [.int a, .int b]) = false := by
                show (decide (0 < b) && decide (Int.gcd a b = 1) && (decide (0 ≤ a) && decide (a ≤ b))) = _
                rw [decide_eq_false q2, Bool.and_false, Bool.and_false]
              rw [e]
              simp [tell, c__law_is_part, evSs, evS, evC, evCs, Cop.d, Bif.d, n__law_is_part, isiB, h, lens, k1, k2, q1, q2]
          · have e : partB (.tuple [.int a, .int b]) = false := by
              show (decide (0 < b) && decide (Int.gcd a b = 1) && (decide (0 ≤ a) && decide (a ≤ b))) = _
              rw [decide_eq_false q1, Bool.false_and, Bool.and_false]
            rw [e]
            simp [tell, c__law_is_part, evSs, evS, evC, evCs, Cop.d, Bif.d, n__law_is_part, isiB, h, lens, k1, k2, q1]
    | x :: y :: z :: r, hd =>
      rw [partB_len (fun _ _ z => by cases z)]
      have : ¬ ((r.length : Int) + 1 + 1 + 1 = 2) := by omega
      simp [tell, c__law_is_part, evSs, evS, evC, evCs, Cop.d, Bif.d, n__law_is_part, isiB, this]
  | _ =>
    rw [partB_len (fun _ _ z => by cases z)]
    simp [tell, c__law_is_part, evSs, evS, evC, evCs, Cop.d, Bif.d, n__law_is_part, isiB]
theorem run_law_is_pixel {W : Wd} {F : FSem} (h : W.fn "_law_is_part" = some ⟨1, [], F⟩) (s : SpB partB F) : SpB pxB (runM n__law_is_pixel.length 1 [] (evSs W c__law_is_pixel)) := by
  intro d hd
  refine run_pure ?_
  cases d with
  | tuple ds =>
    match ds, hd with
    | [], hd =>
      rw [pxB_not (fun x y z => (by cases z))]
      simp [tell, c__law_is_pixel, evSs, evS, evC, evCs, Cop.d, Bif.d, n__law_is_pixel, isiB]
    | [x], hd =>
      rw [pxB_not (fun x y z => (by cases z))]
      simp [tell, c__law_is_pixel, evSs, evS, evC, evCs, Cop.d, Bif.d, n__law_is_pixel, isiB]
    | [x, y], hd =>
      have px' := hd.item (x := x) (by simp)
      have py' := hd.item (x := y) (by simp)
      have k1 := s x px'
      have k2 := s y py'
      cases h1 : partB x with
      | false =>
        rw [pxB_two, h1]
        rw [h1] at k1
        simp [tell, c__law_is_pixel, evSs, evS, evC, evCs, Cop.d, Bif.d, n__law_is_pixel, isiB, h, lens, k1]
      | true =>
        cases h2 : partB y with
        | false =>
          rw [pxB_two, h1, h2]
          rw [h1] at k1
          rw [h2] at k2
          simp [tell, c__law_is_pixel, evSs, evS, evC, evCs, Cop.d, Bif.d, n__law_is_pixel, isiB, h, lens, k1, k2]
        | true =>
          rw [h1] at k1
          rw [h2] at k2
          obtain ⟨a, b, rfl, _⟩ := partB_true h1
          obtain ⟨c, d, rfl, _⟩ := partB_true h2
          have l1 := px'.pair
          have l2 := py'.pair
          have m1 := mulOk_lim l1.1 l2.2 (by decide)
          have m2 := mulOk_lim l2.1 l1.2 (by decide)
          have e : pxB (.tuple [.tuple [.int a, .int b], .tuple [.int c, .int d]]) = decide (a * d ≤ c * b) := by
            show (partB (.tuple [.int a, .int b]) && partB (.tuple [.int c, .int d]) && decide (a * d ≤ c * b)) = _
            rw [h1, h2]
            rfl
          rw [e]
          simp [tell, c__law_is_pixel, evSs, evS, evC, evCs, Cop.d, Bop.d, Bif.d, n__law_is_pixel, isiB, h, lens, k1, k2, m1, m2]
    | x :: y :: z :: r, hd =>
      rw [pxB_not (fun x y z => (by cases z))]
      have : ¬ ((r.length : Int) + 1 + 1 + 1 = 2) := by omega
      simp [tell, c__law_is_pixel, evSs, evS, evC, evCs, Cop.d, Bif.d, n__law_is_pixel, isiB, this]
  | _ =>
    rw [pxB_not (fun x y z => (by cases z))]
    simp [tell, c__law_is_pixel, evSs, evS, evC, evCs, Cop.d, Bif.d, n__law_is_pixel, isiB]
theorem filt_empty (xs : List D) (p : D → Bool) : (xs.filter fun d => !p d).isEmpty = xs.all p := by
  rw [Bool.eq_iff_iff]
  simp
theorem pairB_len {d : D} (h : ∀ x y, d ≠ .tuple [x, y]) : pairB d = false := by
  unfold pairB
  split
  · exact absurd rfl (h _ _)
  · rfl
theorem run_law_is_pair {W : Wd} {F G : FSem} (hn : W.fn "_law_is_number" = some ⟨1, [], F⟩) (sn : SpNum F) (hp : W.fn "_law_is_pixel" = some ⟨1, [], G⟩) (sp : SpB pxB G) : SpB pairB (runM n__law_is_pair.length 1 [] (evSs W c__law_is_pair)) := by
  intro d hd
  refine run_pure ?_
  cases d with
  | tuple ds =>
    match ds, hd with
    | [], hd =>
      rw [pairB_len (fun x y z => (by cases z))]
      simp [tell, c__law_is_pair, evSs, evS, evC, evCs, Cop.d, Bif.d, n__law_is_pair, isiB]
    | [x], hd =>
      rw [pairB_len (fun x y z => (by cases z))]
      simp [tell, c__law_is_pair, evSs, evS, evC, evCs, Cop.d, Bif.d, n__law_is_pair, isiB]
    | [x, y], hd =>
      have px' := hd.item (x := x) (by simp)
      have py' := hd.item (x := y) (by simp)
      have k2 := sp y py'
      by_cases ht : ∃ xs, x = .tuple xs
      · obtain ⟨xs, rfl⟩ := ht
        have hl := pd_len px'
        have e : pairB (.tuple [.tuple xs, y]) = (decide (xs.length = 3) && xs.all numB && pxB y) := rfl
        rw [e]
        have hc : ∀ y1, evC W (.comp [1] (.nm 1) (.seq (.vix 0 (.int 0))) (.so (.not (.call "_law_is_number" (.val (.var 1) .nil)))) (.var 1)) [some (.leaf (.tuple [.tuple xs, y])), y1] = .ok (.lst ((xs.filter fun d => !numB d).map .leaf)) [some (.leaf (.tuple [.tuple xs, y])), none] := by
          intro y1
          obtain ⟨e', h1, y', rfl⟩ := comp_ok (W := W) (vs := [1]) (tg := .nm 1) (it := .seq (.vix 0 (.int 0))) (t := .so (.not (.call "_law_is_number" (.val (.var 1) .nil)))) (el := .var 1) (e := [some (.leaf (.tuple [.tuple xs, y])), y1]) (ds := xs) (fun d => !numB d) id (fun e => ∃ z, e = [some (.leaf (.tuple [.tuple xs, y])), z]) (e0 := [some (.leaf (.tuple [.tuple xs, y])), y1]) (by simp [evI, evC]) ⟨y1, rfl⟩ (Nat.le_trans hl (by decide)) (by
            rintro d e hd ⟨z, rfl⟩
            have k := sn d
            refine ⟨[some (.leaf (.tuple [.tuple xs, y])), some (.leaf d)], by simp [evTg, wipeE], [some (.leaf (.tuple [.tuple xs, y])), some (.leaf d)], by simp [evCond, evC, evCs, hn, lens, k], fun _ => ⟨[some (.leaf (.tuple [.tuple xs, y])), some (.leaf d)], by simp [evC], ⟨_, rfl⟩⟩, fun _ => ⟨_, rfl⟩⟩)
          rw [h1]
          simp [wipeE]
        have q3 := eq_lst (Fine.shaped (Dt.big (dt_filter px' fun d => !numB d)))
        rw [filt_empty] at q3
        have hz : frz (.lst ((xs.filter fun d => !numB d).map .leaf)) = .list (xs.filter fun d => !numB d) := frz_lvs _
        unfold c__law_is_pair
        generalize IL.C.comp [1] (.nm 1) (.seq (.vix 0 (.int 0))) (.so (.not (.call "_law_is_number" (.val (.var 1) .nil)))) (.var 1) = cc at *
        generalize T.lst ((xs.filter fun d => !numB d).map .leaf) = tt at *
        generalize (xs.filter fun d => !numB d) = fl at *
        generalize xs.all numB = B1 at *
        generalize pxB y = B2 at *
        obtain ⟨n, hnn⟩ : ∃ n : Int, n = xs.length := ⟨_, rfl⟩
        by_cases h3 : xs.length = 3
        · have h3' : (xs.length : Int) = 3 := by omega
          rw [decide_eq_true h3]
          cases B1 <;> simp [tell, evSs, evS, evC, evCs, Cop.d, Bif.d, n__law_is_pair, isiB, h3', hc, hz, q3, hp, lens, k2]
        · have h3' : ¬ (xs.length : Int) = 3 := by omega
          rw [decide_eq_false h3]
          simp [tell, evSs, evS, evC, evCs, Cop.d, Bif.d, n__law_is_pair, isiB, h3']
      · have e : pairB (.tuple [x, y]) = false := by
          show (numsB 3 x && pxB y) = false
          have : numsB 3 x = false := by
            cases x with
            | tuple xs => exact absurd ⟨xs, rfl⟩ ht
            | _ => rfl
          rw [this]
          rfl
        rw [e]
        have hi := isi_not fun xs e => ht ⟨xs, e⟩
        have ht0 : ∀ ds, isiB .tuple (.tuple ds) = true := fun _ => rfl
        simp [tell, c__law_is_pair, evSs, evS, evC, evCs, Cop.d, Bif.d, n__law_is_pair, ht0, hi]
    | x :: y :: z :: r, hd =>
      rw [pairB_len (fun x y z => (by cases z))]
      have : ¬ ((r.length : Int) + 1 + 1 + 1 = 2) := by omega
      simp [tell, c__law_is_pair, evSs, evS, evC, evCs, Cop.d, Bif.d, n__law_is_pair, isiB, this]
  | _ =>
    rw [pairB_len (fun x y z => (by cases z))]
    simp [tell, c__law_is_pair, evSs, evS, evC, evCs, Cop.d, Bif.d, n__law_is_pair, isiB]
def clipB : D → Bool
  | .none => true
  | d => rectB d
theorem run_law_is_clip {W : Wd} {F : FSem} (hn : W.fn "_law_is_number" = some ⟨1, [], F⟩) (sn : SpNum F) : SpB clipB (runM n__law_is_clip.length 1 [] (evSs W c__law_is_clip)) := by
  intro d hd
  refine run_pure ?_
  cases d with
  | tuple ds =>
    have hl := pd_len hd
    have hc : ∀ y1, evC W (.comp [1] (.nm 1) (.seq (.var 0)) (.so (.not (.call "_law_is_number" (.val (.var 1) .nil)))) (.var 1)) [some (.leaf (.tuple ds)), y1] = .ok (.lst ((ds.filter fun d => !numB d).map .leaf)) [some (.leaf (.tuple ds)), none] := by
      intro y1
      obtain ⟨e', h1, y', rfl⟩ := comp_ok (W := W) (vs := [1]) (tg := .nm 1) (it := .seq (.var 0)) (t := .so (.not (.call "_law_is_number" (.val (.var 1) .nil)))) (el := .var 1) (e := [some (.leaf (.tuple ds)), y1]) (ds := ds) (fun d => !numB d) id (fun e => ∃ z, e = [some (.leaf (.tuple ds)), z]) (e0 := [some (.leaf (.tuple ds)), y1]) (by simp [evI, evC]) ⟨y1, rfl⟩ (Nat.le_trans hl (by decide)) (by
        rintro d e hd ⟨z, rfl⟩
        have k := sn d
        refine ⟨[some (.leaf (.tuple ds)), some (.leaf d)], by simp [evTg, wipeE], [some (.leaf (.tuple ds)), some (.leaf d)], by simp [evCond, evC, evCs, hn, lens, k], fun _ => ⟨[some (.leaf (.tuple ds)), some (.leaf d)], by simp [evC], ⟨_, rfl⟩⟩, fun _ => ⟨_, rfl⟩⟩)
      rw [h1]
      simp [wipeE]
    have q3 := ne_lst (Fine.shaped (Dt.big (dt_filter hd fun d => !numB d)))
    rw [filt_empty] at q3
    have hz : frz (.lst ((ds.filter fun d => !numB d).map .leaf)) = .list (ds.filter fun d => !numB d) := frz_lvs _
    have en : numsB 4 (.tuple ds) = (decide (ds.length = 4) && ds.all numB) := rfl
    have ec : clipB (.tuple ds) = rectB (.tuple ds) := rfl
    rw [ec]
    have isn : isD (.tuple ds) .none = some (.leaf (.bool false)) := rfl
    cases hb : numsB 4 (.tuple ds) with
    | false =>
      rw [rect_nums hb]
      rw [hb] at en
      unfold c__law_is_clip
      generalize IL.C.comp [1] (.nm 1) (.seq (.var 0)) (.so (.not (.call "_law_is_number" (.val (.var 1) .nil)))) (.var 1) = cc at *
      generalize T.lst ((ds.filter fun d => !numB d).map .leaf) = tt at *
      generalize (ds.filter fun d => !numB d) = fl at *
      generalize ds.all numB = B1 at *
      by_cases h3 : ds.length = 4
      · have h3' : (ds.length : Int) = 4 := by omega
        rw [decide_eq_true h3, Bool.true_and] at en
        subst en
        simp [tell, evSs, evS, evC, evCs, Cop.d, Bif.d, n__law_is_clip, isiB, isn, h3', hc, hz, q3]
      · have h3' : ¬ (ds.length : Int) = 4 := by omega
        simp [tell, evSs, evS, evC, evCs, Cop.d, Bif.d, n__law_is_clip, isiB, isn, h3']
    | true =>
      rw [hb] at en
      obtain ⟨a, b, c, e, e9⟩ := nums4 hb
      have h4 : ds.length = 4 ∧ ds.all numB = true := by
        have := en.symm
        simpa using this
      have h3' : (ds.length : Int) = 4 := by omega
      rw [h4.2] at q3
      have i0 : ixD (.tuple ds) (.int 0) = some (.int a) := by rw [e9]; rfl
      have i1 : ixD (.tuple ds) (.int 1) = some (.int b) := by rw [e9]; rfl
      have i2 : ixD (.tuple ds) (.int 2) = some (.int c) := by rw [e9]; rfl
      have i3 : ixD (.tuple ds) (.int 3) = some (.int e) := by rw [e9]; rfl
      have er : rectB (.tuple ds) = (decide (a < c) && decide (b < e)) := by rw [e9]; rfl
      rw [er]
      clear e9 er en hb hd
      unfold c__law_is_clip
      generalize IL.C.comp [1] (.nm 1) (.seq (.var 0)) (.so (.not (.call "_law_is_number" (.val (.var 1) .nil)))) (.var 1) = cc at *
      generalize T.lst ((ds.filter fun d => !numB d).map .leaf) = tt at *
      generalize (ds.filter fun d => !numB d) = fl at *
      by_cases h1 : a < c <;> simp [tell, evSs, evS, evC, evCs, Cop.d, Bif.d, n__law_is_clip, isiB, isn, h3', hc, hz, q3, i0, i1, i2, i3, h1]
  | none => 
    have isn : isD .none .none = some (.leaf (.bool true)) := rfl
    simp [tell, c__law_is_clip, evSs, evS, evC, evCs, Cop.d, Bif.d, n__law_is_clip, isiB, isn, clipB]
  | bool b =>
    have isn : isD (.bool b) .none = some (.leaf (.bool false)) := rfl
    simp [tell, c__law_is_clip, evSs, evS, evC, evCs, Cop.d, Bif.d, n__law_is_clip, isiB, isn, clipB, rectB]
  | int b =>
    have isn : isD (.int b) .none = some (.leaf (.bool false)) := rfl
    simp [tell, c__law_is_clip, evSs, evS, evC, evCs, Cop.d, Bif.d, n__law_is_clip, isiB, isn, clipB, rectB]
  | str b =>
    have isn : isD (.str b) .none = some (.leaf (.bool false)) := rfl
    simp [tell, c__law_is_clip, evSs, evS, evC, evCs, Cop.d, Bif.d, n__law_is_clip, isiB, isn, clipB, rectB]
  | list b =>
    have isn : isD (.list b) .none = some (.leaf (.bool false)) := rfl
    simp [tell, c__law_is_clip, evSs, evS, evC, evCs, Cop.d, Bif.d, n__law_is_clip, isiB, isn, clipB, rectB]
  | dict b =>
    have isn : isD (.dict b) .none = some (.leaf (.bool false)) := rfl
    simp [tell, c__law_is_clip, evSs, evS, evC, evCs, Cop.d, Bif.d, n__law_is_clip, isiB, isn, clipB, rectB]
end Fc

namespace Fc
open PySem PySem.Spec PyProof.Rows L2 IL
theorem row_tup {m : Nat} {d : D} (h : ∀ xs, d ≠ .tuple xs) : rowB m d = false := by
  cases d with
  | tuple xs => exact absurd rfl (h xs)
  | _ => rfl
theorem run_law_is_content {W : Wd} {F : FSem} (hp : W.fn "_law_is_pair" = some ⟨1, [], F⟩) (sp : SpB pairB F) : SpB contB (runM n__law_is_content.length 1 [] (evSs W c__law_is_content)) := by
  intro d hd
  refine run_pure ?_
  rw [lco_eq]
  cases d with
  | tuple ds =>
    have hsh : SeqAt.shaped (.tuple ds) = true := Fine.shaped (Dt.big hd)
    have q1 := eq_tup_nil hsh
    cases hds : ds with
    | nil =>
      subst hds
      simp only [List.isEmpty_nil] at q1
      simp [tell, lco_r0, lco_s0, evSs, evS, evC, evCs, Cop.d, n__law_is_content, isiB, mkTup, q1, contB]
    | cons r rs =>
      rw [← hds]
      have e1 : ds.isEmpty = false := by rw [hds]; rfl
      rw [e1] at q1
      have i0 : ixD (.tuple ds) (.int 0) = some r := by rw [hds]; exact ix_tup0 _ _
      have ec : contB (.tuple ds) = (decide (0 < tlen r) && ds.all (rowB (tlen r))) := by rw [hds]; rfl
      have g0 : evS W lco_s0 [some (.leaf (.tuple ds)), none, none] = .ok .nx [some (.leaf (.tuple ds)), none, none] := by
        simp [lco_s0, evSs, evS, evC, evCs, Cop.d, isiB, mkTup, q1]
      have hi : evI W lco_i1 [some (.leaf (.tuple ds)), none, none] = .ok ds [some (.leaf (.tuple ds)), none, none] := by
        simp [lco_i1, evI, evC]
      have hfor : evS W lco_s1 [some (.leaf (.tuple ds)), none, none] = gFor (evTg W (.nm 1)) (evSs W lco_b1_r0) ds [some (.leaf (.tuple ds)), none, none] := by
        simp only [lco_s1_eq, evS]
        rw [ap_bnd, hi]
      show tell (evSs W lco_r0) [some (.leaf (.tuple ds)), none, none] = _
      unfold tell
      rw [step (c := lco_r0) rfl g0]
      have out : ∀ e', evS W lco_s1 [some (.leaf (.tuple ds)), none, none] = .ok (.rt (.leaf (.bool false))) e' → (match evSs W lco_r1 [some (.leaf (.tuple ds)), none, none] with
          | .ok (.rt t) e => some t
          | .ok .nx e => some (.leaf .none)
          | x => none) = some (.leaf (.bool false)) := by
        intro e' h
        show (match (gSeq (evS W lco_s1) (evSs W lco_r2)) [some (.leaf (.tuple ds)), none, none] with
          | .ok (.rt t) e => some t
          | .ok .nx e => some (.leaf .none)
          | x => none) = _
        unfold gSeq bnd
        rw [h]
        rfl
      by_cases hr : ∃ xs, r = .tuple xs ∧ xs ≠ []
      · obtain ⟨xs, rfl, hx0⟩ := hr
        have hxp : 0 < xs.length := List.length_pos_iff.mpr hx0
        have et : tlen (.tuple xs) = xs.length := rfl
        rw [et, decide_eq_true hxp, Bool.true_and] at ec
        rw [ec]
        let Inv : List D → En → Prop := fun pre e => ∃ y1 y2, e = [some (.leaf (.tuple ds)), y1, y2]
        obtain ⟨e', k1, k2⟩ := gFor_all (bd := evTg W (.nm 1)) (b := evSs W lco_b1_r0) (rowB xs.length) Inv (.leaf (.bool false)) ds [] [some (.leaf (.tuple ds)), none, none] ⟨none, none, rfl⟩ (by
          rintro pre d e hm _ ⟨y1, y2, rfl⟩
          have hdd := hd.item hm
          by_cases ht : ∃ ls, d = .tuple ls
          · obtain ⟨ls, rfl⟩ := ht
            have hl := pd_len hdd
            have hsh2 : SeqAt.shaped (.tuple ls) = true := Fine.shaped (Dt.big hdd)
            have q2 := eq_tup_nil hsh2
            have er : rowB xs.length (.tuple ls) = (decide (ls.length = xs.length) && ls.all pairB) := rfl
            rw [er]
            by_cases hn2 : ls.length = xs.length
            · have hne : ls.isEmpty = false := by
                cases ls with
                | nil => simp at hn2; omega
                | cons _ _ => rfl
              rw [hne] at q2
              have hli : (ls.length : Int) = (xs.length : Int) := by omega
              rw [decide_eq_true hn2, Bool.true_and]
              have hc : ∀ x0 y1, evC W (.comp [2] (.nm 2) (.seq (.var 1)) (.so (.not (.call "_law_is_pair" (.val (.var 2) .nil)))) (.var 2)) [x0, some (.leaf (.tuple ls)), y1] = .ok (.lst ((ls.filter fun d => !pairB d).map .leaf)) [x0, some (.leaf (.tuple ls)), none] := by
                intro x0 y1
                obtain ⟨e', h1, y', rfl⟩ := comp_ok (W := W) (vs := [2]) (tg := .nm 2) (it := .seq (.var 1)) (t := .so (.not (.call "_law_is_pair" (.val (.var 2) .nil)))) (el := .var 2) (e := [x0, some (.leaf (.tuple ls)), y1]) (ds := ls) (fun d => !pairB d) id (fun e => ∃ z, e = [x0, some (.leaf (.tuple ls)), z]) (e0 := [x0, some (.leaf (.tuple ls)), y1]) (by simp [evI, evC]) ⟨y1, rfl⟩ (Nat.le_trans hl (by decide)) (by
                  rintro d e hd1 ⟨z, rfl⟩
                  have k := sp d (hdd.item hd1)
                  refine ⟨[x0, some (.leaf (.tuple ls)), some (.leaf d)], by simp [evTg, wipeE], [x0, some (.leaf (.tuple ls)), some (.leaf d)], by simp [evCond, evC, evCs, hp, lens, k], fun _ => ⟨[x0, some (.leaf (.tuple ls)), some (.leaf d)], by simp [evC], ⟨_, rfl⟩⟩, fun _ => ⟨_, rfl⟩⟩)
                rw [h1]
                simp [wipeE]
              have q3 := ne_lst (Fine.shaped (Dt.big (dt_filter hdd fun d => !pairB d)))
              rw [filt_empty] at q3
              have hz : frz (.lst ((ls.filter fun d => !pairB d).map .leaf)) = .list (ls.filter fun d => !pairB d) := frz_lvs _
              unfold lco_b1_r0 lco_b1_r1 lco_b1_r2 lco_b1_s0 lco_b1_s1
              generalize IL.C.comp [2] (.nm 2) (.seq (.var 1)) (.so (.not (.call "_law_is_pair" (.val (.var 2) .nil)))) (.var 2) = cc at *
              generalize T.lst ((ls.filter fun d => !pairB d).map .leaf) = tt at *
              generalize (ls.filter fun d => !pairB d) = fl at *
              generalize ls.all pairB = B at *
              refine ⟨[some (.leaf (.tuple ds)), some (.leaf (.tuple ls)), none], fun hB => ⟨?_, _, _, rfl⟩, fun hB => ?_⟩
              · subst hB
                simp [evSs, evS, evC, evCs, evTg, Cop.d, Bif.d, isiB, mkTup, q2, i0, hli, hc, hz, q3]
              · subst hB
                simp [evSs, evS, evC, evCs, evTg, Cop.d, Bif.d, isiB, mkTup, q2, i0, hli, hc, hz, q3]
            · have hli : ¬ (ls.length : Int) = (xs.length : Int) := by omega
              rw [decide_eq_false hn2, Bool.false_and]
              refine ⟨[some (.leaf (.tuple ds)), some (.leaf (.tuple ls)), y2], (fun z => by cases z), fun _ => ?_⟩
              generalize ls.isEmpty = B at *
              cases B <;> simp [lco_b1_r0, lco_b1_s0, evSs, evS, evC, evCs, evTg, Cop.d, Bif.d, isiB, mkTup, q2, i0, hli]
          · have hl : rowB xs.length d = false := row_tup fun ls e => ht ⟨ls, e⟩
            have hi := isi_not fun ls e => ht ⟨ls, e⟩
            refine ⟨[some (.leaf (.tuple ds)), some (.leaf d), y2], fun z => absurd z (by rw [hl]; exact Bool.false_ne_true), fun _ => ?_⟩
            simp [lco_b1_r0, lco_b1_s0, evSs, evS, evC, evCs, evTg, Cop.d, hi])
        cases hb : ds.all (rowB xs.length) with
        | false =>
          exact out _ (by rw [hfor]; exact k2 hb)
        | true =>
          obtain ⟨k3, y1, y2, rfl⟩ := k1 hb
          rw [← hfor] at k3
          rw [step (c := lco_r1) rfl k3]
          simp [lco_r2, lco_s2, lco_r3, evSs, evS, evC]
      · have hz : tlen r = 0 := by
          cases r with
          | tuple xs =>
            by_cases hx : xs = []
            · rw [hx]; rfl
            · exact absurd ⟨xs, rfl, hx⟩ hr
          | _ => rfl
        have ec2 : contB (.tuple ds) = false := by
          rw [ec, hz]
          rfl
        rw [ec2]
        have one : ∃ e', (bnd (evTg W (.nm 1) r) fun _ => evSs W lco_b1_r0) [some (.leaf (.tuple ds)), none, none] = .ok (.rt (.leaf (.bool false))) e' := by
          by_cases ht : ∃ ls, r = .tuple ls
          · obtain ⟨ls, rfl⟩ := ht
            have hls : ls = [] := Classical.byContradiction fun z => hr ⟨ls, rfl, z⟩
            subst hls
            have q2 := eq_tup_nil (ds := []) (by simp [SeqAt.shaped, PyData.canLay0, PyData.canLayAll0, PyData.depth, PyData.depthAll])
            simp only [List.isEmpty_nil] at q2
            refine ⟨[some (.leaf (.tuple ds)), some (.leaf (.tuple [])), none], ?_⟩
            simp [lco_b1_r0, lco_b1_s0, evSs, evS, evC, evCs, evTg, Cop.d, Bif.d, isiB, mkTup, q2]
          · have hi := isi_not fun ls e => ht ⟨ls, e⟩
            refine ⟨[some (.leaf (.tuple ds)), some (.leaf r), none], ?_⟩
            simp [lco_b1_r0, lco_b1_s0, evSs, evS, evC, evCs, evTg, Cop.d, hi]
        obtain ⟨e', h1⟩ := one
        refine out e' ?_
        rw [hfor, hds]
        rw [← hds]
        unfold bnd at h1
        have h2 : ∀ rs', gFor (evTg W (.nm 1)) (evSs W lco_b1_r0) (r :: rs') [some (.leaf (.tuple ds)), none, none] = .ok (.rt (.leaf (.bool false))) e' := by
          intro rs'
          unfold gFor bnd
          split at h1
          · have h3 : evSs W lco_b1_r0 _ = .ok (.rt (.leaf (.bool false))) e' := h1
            simp only [h3]
            rfl
          · cases h1
          · cases h1
        have h4 := h2 rs
        rw [← hds] at h4
        exact h4
  | _ => simp [tell, lco_r0, lco_s0, evSs, evS, evC, evCs, Cop.d, n__law_is_content, isiB, contB]
def nodeB : D → Bool
  | .tuple [a, b, c, d, e, f, g, h] => (wordB a && parB b && numB c && numB d) && clipB e && (partB f && isiB .bool g) && (isNone h || contB h)
  | _ => false
theorem tup8 {d : D} (h : tupB 8 d = true) : ∃ a b c d' e f g h', d = .tuple [a, b, c, d', e, f, g, h'] := by
  cases d with
  | tuple ds =>
    simp only [tupB, decide_eq_true_eq] at h
    match ds, h with
    | [a, b, c, d, e, f, g, h], _ => exact ⟨a, b, c, d, e, f, g, h, rfl⟩
  | _ => cases h
theorem nodeB_not {d : D} (h : tupB 8 d = false) : nodeB d = false := by
  unfold nodeB
  split
  · simp [tupB] at h
  · rfl
theorem clip_eq (d : D) : clipB d = (isNone d || rectB d) := by
  cases d <;> rfl
theorem is_none (d : D) : isD d .none = some (.leaf (.bool (isNone d))) := rfl
theorem isnt_none (d : D) : isntD d .none = some (.leaf (.bool (!isNone d))) := rfl
theorem run_is_node {W : Wd} {F1 F2 F3 F4 F5 F6 F7 : FSem} (h1 : W.fn "is_tuple_of" = some ⟨2, [], F1⟩) (s1 : SpTup F1) (h2 : W.fn "is_word" = some ⟨1, [], F2⟩) (s2 : SpB wordB F2) (h3 : W.fn "is_parent" = some ⟨1, [], F3⟩) (s3 : SpB parB F3) (h4 : W.fn "is_number" = some ⟨1, [], F4⟩) (s4 : SpNum F4) (h5 : W.fn "is_rectangle" = some ⟨1, [], F5⟩) (s5 : SpB rectB F5) (h6 : W.fn "is_opacity" = some ⟨1, [], F6⟩) (s6 : SpB partB F6) (h7 : W.fn "is_content" = some ⟨1, [], F7⟩) (s7 : SpB contB F7) : SpB nodeB (runM n_is_node.length 1 [] (evSs W c_is_node)) := by
  intro t hd
  refine run_pure ?_
  rw [isn_eq]
  have k1 := s1 t 8
  have k1 : F1 [.leaf t, .leaf (.int 8)] = some (.leaf (.bool (tupB 8 t)), [none, none]) := k1
  cases hn : tupB 8 t with
  | false =>
    rw [hn] at k1
    rw [nodeB_not hn]
    simp [tell, isn_r0, isn_s0, evSs, evS, evC, evCs, n_is_node, h1, lens, k1]
  | true =>
    rw [hn] at k1
    obtain ⟨a, b, c, d, e, f, g, h, rfl⟩ := tup8 hn
    have e0 : nodeB (.tuple [a, b, c, d, e, f, g, h]) = ((wordB a && parB b && numB c && numB d) && clipB e && (partB f && isiB .bool g) && (isNone h || contB h)) := rfl
    rw [e0, clip_eq]
    have m1 := s2 a (hd.item (by simp))
    have m2 := s3 b (hd.item (by simp))
    have m3 := s4 c
    have m4 := s4 d
    have m5 := s5 e (hd.item (by simp))
    have m5n := isnt_none e
    have m6 := s6 f (hd.item (by simp))
    have m8 := s7 h (hd.item (by simp))
    have m8n := is_none h
    generalize wordB a = B1 at *
    generalize parB b = B2 at *
    generalize numB c = B3 at *
    generalize numB d = B4 at *
    generalize rectB e = B5 at *
    generalize isNone e = N5 at *
    generalize partB f = B6 at *
    generalize hg7 : isiB .bool g = B7 at *
    generalize contB h = B8 at *
    generalize isNone h = N8 at *
    have g0 : evS W isn_s0 [some (.leaf (.tuple [a, b, c, d, e, f, g, h])), none, none, none, none, none, none, none, none] = .ok .nx [some (.leaf (.tuple [a, b, c, d, e, f, g, h])), none, none, none, none, none, none, none, none] := by
      simp [isn_s0, evSs, evS, evC, evCs, h1, lens, k1]
    have g1 : evS W isn_s1 [some (.leaf (.tuple [a, b, c, d, e, f, g, h])), none, none, none, none, none, none, none, none] = .ok .nx [some (.leaf (.tuple [a, b, c, d, e, f, g, h])), some (.leaf a), some (.leaf b), some (.leaf c), some (.leaf d), some (.leaf e), some (.leaf f), some (.leaf g), some (.leaf h)] := by
      simp [isn_s1, evS, evC, evTg, evTgs, tgN]
    show tell (evSs W isn_r0) [some (.leaf (.tuple [a, b, c, d, e, f, g, h])), none, none, none, none, none, none, none, none] = _
    generalize some (T.leaf (.tuple [a, b, c, d, e, f, g, h])) = X0 at *
    have g2 : evS W isn_s2 [X0, some (.leaf a), some (.leaf b), some (.leaf c), some (.leaf d), some (.leaf e), some (.leaf f), some (.leaf g), some (.leaf h)] = .ok (if (B1 && B2 && B3 && B4) = true then .nx else .rt (.leaf (.bool false))) [X0, some (.leaf a), some (.leaf b), some (.leaf c), some (.leaf d), some (.leaf e), some (.leaf f), some (.leaf g), some (.leaf h)] := by
      cases B1
      · simp [isn_s2, evSs, evS, evC, evCs, h2, lens, m1]
      · cases B2
        · simp [isn_s2, evSs, evS, evC, evCs, h2, h3, lens, m1, m2]
        · cases B3
          · simp [isn_s2, evSs, evS, evC, evCs, h2, h3, h4, lens, m1, m2, m3]
          · cases B4 <;> simp [isn_s2, evSs, evS, evC, evCs, h2, h3, h4, lens, m1, m2, m3, m4]
    have g3 : evS W isn_s3 [X0, some (.leaf a), some (.leaf b), some (.leaf c), some (.leaf d), some (.leaf e), some (.leaf f), some (.leaf g), some (.leaf h)] = .ok (if (N5 || B5) = true then .nx else .rt (.leaf (.bool false))) [X0, some (.leaf a), some (.leaf b), some (.leaf c), some (.leaf d), some (.leaf e), some (.leaf f), some (.leaf g), some (.leaf h)] := by
      cases N5
      · cases B5 <;> simp [isn_s3, evSs, evS, evC, evCs, Cop.d, h5, lens, m5, m5n]
      · simp [isn_s3, evSs, evS, evC, evCs, Cop.d, m5n]
    have g4 : evS W isn_s4 [X0, some (.leaf a), some (.leaf b), some (.leaf c), some (.leaf d), some (.leaf e), some (.leaf f), some (.leaf g), some (.leaf h)] = .ok (if (B6 && B7) = true then .nx else .rt (.leaf (.bool false))) [X0, some (.leaf a), some (.leaf b), some (.leaf c), some (.leaf d), some (.leaf e), some (.leaf f), some (.leaf g), some (.leaf h)] := by
      cases B6
      · simp [isn_s4, evSs, evS, evC, evCs, h6, lens, m6]
      · cases B7 <;> simp [isn_s4, evSs, evS, evC, evCs, h6, lens, m6, hg7]
    have stop : ∀ {s : S} {c r : Ss} {t : T} {E : En}, c = .cons s r → evS W s E = .ok (.rt t) E → evSs W c E = .ok (.rt t) E := by
      intro s c r t E hc h
      subst hc
      simp only [evSs, gSeq, bnd, h]
      rfl
    unfold tell
    rw [step (c := isn_r0) rfl g0, step (c := isn_r1) rfl g1]
    cases c1 : (B1 && B2 && B3 && B4) with
    | false =>
      rw [c1] at g2
      rw [stop (c := isn_r2) rfl g2]
      simp
    | true =>
      rw [c1] at g2
      rw [step (c := isn_r2) rfl g2]
      cases c2 : (N5 || B5) with
      | false =>
        rw [c2] at g3
        rw [stop (c := isn_r3) rfl g3]
        simp
      | true =>
        rw [c2] at g3
        rw [step (c := isn_r3) rfl g3]
        cases c3 : (B6 && B7) with
        | false =>
          rw [c3] at g4
          rw [stop (c := isn_r4) rfl g4]
          simp
        | true =>
          rw [c3] at g4
          rw [step (c := isn_r4) rfl g4]
          cases N8 <;> simp [isn_r5, isn_s5, isn_r6, evSs, evS, evC, evCs, Cop.d, h7, lens, m8, m8n]
theorem ne_strs (a b : Str) : neD (.str a) (.str b) = some (.leaf (.bool (!decide (a = b)))) := by
  simp only [neD, eqB, scalEq, bT, Option.map_some]
  congr 3
theorem run_law_is_node {W : Wd} {F2 F4 F5 F6 F7 : FSem} (h2 : W.fn "_law_is_word" = some ⟨1, [], F2⟩) (s2 : SpB wordB F2) (h4 : W.fn "_law_is_number" = some ⟨1, [], F4⟩) (s4 : SpNum F4) (h5 : W.fn "_law_is_clip" = some ⟨1, [], F5⟩) (s5 : SpB clipB F5) (h6 : W.fn "_law_is_part" = some ⟨1, [], F6⟩) (s6 : SpB partB F6) (h7 : W.fn "_law_is_content" = some ⟨1, [], F7⟩) (s7 : SpB contB F7) : SpB nodeB (runM n__law_is_node.length 1 [] (evSs W c__law_is_node)) := by
  intro t hd
  refine run_pure ?_
  rw [lno_eq]
  cases hn : tupB 8 t with
  | false =>
    rw [nodeB_not hn]
    cases t with
    | tuple ds =>
      have : ¬ (ds.length : Int) = 8 := by
        simp only [tupB, decide_eq_false_iff_not] at hn
        omega
      simp [tell, lno_r0, lno_s0, evSs, evS, evC, evCs, Cop.d, Bif.d, n__law_is_node, isiB, this]
    | _ => simp [tell, lno_r0, lno_s0, evSs, evS, evC, evCs, Cop.d, Bif.d, n__law_is_node, isiB]
  | true =>
    obtain ⟨a, b, c, d, e, f, g, h, rfl⟩ := tup8 hn
    have e0 : nodeB (.tuple [a, b, c, d, e, f, g, h]) = ((wordB a && parB b && numB c && numB d) && clipB e && (partB f && isiB .bool g) && (isNone h || contB h)) := rfl
    rw [e0]
    have m1 := s2 a (hd.item (by simp))
    have m2 := s2 b (hd.item (by simp))
    have m3 := s4 c
    have m4 := s4 d
    have m5 := s5 e (hd.item (by simp))
    have m6 := s6 f (hd.item (by simp))
    have m8 := s7 h (hd.item (by simp))
    have m8n := is_none h
    obtain ⟨ds, hds⟩ : ∃ ds, ds = [a, b, c, d, e, f, g, h] := ⟨_, rfl⟩
    have i0 : ixD (.tuple ds) (.int 0) = some a := by rw [hds]; rfl
    have i1 : ixD (.tuple ds) (.int 1) = some b := by rw [hds]; rfl
    have i2 : ixD (.tuple ds) (.int 2) = some c := by rw [hds]; rfl
    have i3 : ixD (.tuple ds) (.int 3) = some d := by rw [hds]; rfl
    have i4 : ixD (.tuple ds) (.int 4) = some e := by rw [hds]; rfl
    have i5 : ixD (.tuple ds) (.int 5) = some f := by rw [hds]; rfl
    have i6 : ixD (.tuple ds) (.int 6) = some g := by rw [hds]; rfl
    have i7 : ixD (.tuple ds) (.int 7) = some h := by rw [hds]; rfl
    have hlen : lenD [.tuple ds] = some (.leaf (.int 8)) := by rw [hds]; rfl
    have hti : isiB .tuple (.tuple ds) = true := rfl
    rw [← hds]
    clear hds hd e0 hn
    have g1 : evS W lno_s1 [some (.leaf (.tuple ds))] = .ok (if parB b = true then .nx else .rt (.leaf (.bool false))) [some (.leaf (.tuple ds))] := by
      by_cases hs : ∃ z, b = .str z
      · obtain ⟨z, rfl⟩ := hs
        have q := ne_strs z ""
        have eb : parB (.str z) = (decide (z = "") || wordB (.str z)) := rfl
        have ei : isiB .str (.str z) = true := rfl
        rw [eb]
        generalize decide (z = "") = E1 at *
        generalize wordB (.str z) = E2 at *
        cases E1
        · cases E2 <;> simp [lno_s1, evSs, evS, evC, evCs, Cop.d, i1, ei, q, h2, lens, m2]
        · simp [lno_s1, evSs, evS, evC, evCs, Cop.d, i1, ei, q]
      · have ei : isiB .str b = false := by
          cases b with
          | str z => exact absurd ⟨z, rfl⟩ hs
          | _ => rfl
        have ep : parB b = false := by
          cases b with
          | str z => exact absurd ⟨z, rfl⟩ hs
          | _ => rfl
        rw [ep]
        simp [lno_s1, evSs, evS, evC, evCs, Cop.d, i1, ei]
    clear m2
    generalize wordB a = B1 at *
    generalize parB b = B2 at *
    generalize numB c = B3 at *
    generalize numB d = B4 at *
    generalize clipB e = B5 at *
    generalize partB f = B6 at *
    generalize hg7 : isiB .bool g = B7 at *
    generalize contB h = B8 at *
    generalize isNone h = N8 at *
    have g0 : evS W lno_s0 [some (.leaf (.tuple ds))] = .ok (if B1 = true then .nx else .rt (.leaf (.bool false))) [some (.leaf (.tuple ds))] := by
      cases B1 <;> simp [lno_s0, evSs, evS, evC, evCs, Cop.d, Bif.d, hti, hlen, i0, h2, lens, m1]
    have g2 : evS W lno_s2 [some (.leaf (.tuple ds))] = .ok (if (B3 && B4 && B5) = true then .nx else .rt (.leaf (.bool false))) [some (.leaf (.tuple ds))] := by
      cases B3
      · simp [lno_s2, evSs, evS, evC, evCs, Cop.d, i2, h4, lens, m3]
      · cases B4
        · simp [lno_s2, evSs, evS, evC, evCs, Cop.d, i2, i3, h4, lens, m3, m4]
        · cases B5 <;> simp [lno_s2, evSs, evS, evC, evCs, Cop.d, i2, i3, i4, h4, h5, lens, m3, m4, m5]
    have g3 : evS W lno_s3 [some (.leaf (.tuple ds))] = .ok (if (B6 && B7) = true then .nx else .rt (.leaf (.bool false))) [some (.leaf (.tuple ds))] := by
      cases B6
      · simp [lno_s3, evSs, evS, evC, evCs, Cop.d, i5, h6, lens, m6]
      · cases B7 <;> simp [lno_s3, evSs, evS, evC, evCs, Cop.d, i5, i6, h6, lens, m6, hg7]
    have stop : ∀ {s : S} {c r : Ss} {t : T} {E : En}, c = .cons s r → evS W s E = .ok (.rt t) E → evSs W c E = .ok (.rt t) E := by
      intro s c r t E hc h
      subst hc
      simp only [evSs, gSeq, bnd, h]
      rfl
    show tell (evSs W lno_r0) [some (.leaf (.tuple ds))] = _
    unfold tell
    cases B1 with
    | false =>
      rw [stop (c := lno_r0) rfl g0]
      simp
    | true =>
      rw [step (c := lno_r0) rfl g0]
      cases B2 with
      | false =>
        rw [stop (c := lno_r1) rfl g1]
        simp
      | true =>
        rw [step (c := lno_r1) rfl g1]
        cases c2 : (B3 && B4 && B5) with
        | false =>
          rw [c2] at g2
          rw [stop (c := lno_r2) rfl g2]
          cases B3 <;> cases B4 <;> cases B5 <;> simp at c2 ⊢
        | true =>
          rw [c2] at g2
          rw [step (c := lno_r2) rfl g2]
          simp only [Bool.and_eq_true] at c2
          obtain ⟨⟨rfl, rfl⟩, rfl⟩ := c2
          cases c3 : (B6 && B7) with
          | false =>
            rw [c3] at g3
            rw [stop (c := lno_r3) rfl g3]
            simp
          | true =>
            rw [c3] at g3
            rw [step (c := lno_r3) rfl g3]
            cases N8 <;> simp [lno_r4, lno_s4, lno_r5, evSs, evS, evC, evCs, Cop.d, i7, h7, lens, m8, m8n]
end Fc

namespace Fc
open PySem PySem.Spec PyProof.Rows L2 IL
def leafC (c : Nat) : D → Bool
  | .int i => decide (lim c i)
  | d => leafOk d
/-- plain data, n deep, its numbers below 2 ^ c -/
def LvC (c : Nat) : Nat → D → Prop
  | 0, d => leafC c d = true
  | n + 1, d => leafC c d = true ∨ ∃ ds, (d = .tuple ds ∨ d = .list ds) ∧ ∀ x ∈ ds, LvC c n x
theorem LvC.leaf {c : Nat} : ∀ {n : Nat} {d : D}, leafC c d = true → LvC c n d
  | 0, _, h => h
  | _ + 1, _, h => .inl h
theorem leafC_mono {c c' : Nat} (hc : c ≤ c') {d : D} (h : leafC c d = true) : leafC c' d = true := by
  cases d with
  | int i => exact decide_eq_true (lim_mono (of_decide_eq_true h) hc)
  | _ => exact h
theorem LvC.up {c c' : Nat} (hc : c ≤ c') : ∀ {n n' : Nat} {d : D}, LvC c n d → n ≤ n' → LvC c' n' d
  | 0, _, _, h, _ => .leaf (leafC_mono hc h)
  | n + 1, 0, _, _, hn => absurd hn (by omega)
  | n + 1, n' + 1, d, h, hn => by
    rcases h with h | ⟨ds, h1, h3⟩
    · exact .inl (leafC_mono hc h)
    · exact .inr ⟨ds, h1, fun x hx => (h3 x hx).up hc (by omega)⟩
theorem LvC.mono {c n n' : Nat} {d : D} (h : LvC c n d) (hn : n ≤ n') : LvC c n' d := h.up (Nat.le_refl _) hn
theorem leafC_ok {c : Nat} (hc : c ≤ 400) {d : D} (h : leafC c d = true) : leafOk d = true := by
  cases d with
  | int i => exact decide_eq_true (lim_mono (of_decide_eq_true h) hc)
  | _ => exact h
theorem LvC.plain {c : Nat} (hc : c ≤ 400) : ∀ {n : Nat} {d : D}, LvC c n d → Lv n d
  | 0, _, h => .leaf (leafC_ok hc h)
  | n + 1, d, h => by
    rcases h with h | ⟨ds, h1, h3⟩
    · exact .leaf (leafC_ok hc h)
    · exact .inr ⟨ds, h1, fun x hx => (h3 x hx).plain hc⟩
structure DtC (c n b : Nat) (d : D) : Prop where
  lv : LvC c n d
  blk : d.bulk ≤ b
theorem DtC.plain {c n b : Nat} {d : D} (h : DtC c n b d) (hc : c ≤ 400) : Dt n b d := ⟨h.lv.plain hc, h.blk⟩
theorem DtC.up {c c' n n' b b' : Nat} {d : D} (h : DtC c n b d) (hc : c ≤ c') (h1 : n ≤ n') (h2 : b ≤ b') : DtC c' n' b' d := ⟨h.lv.up hc h1, Nat.le_trans h.blk h2⟩
theorem lvc_tup {c n : Nat} {ds : List D} (h : LvC c n (.tuple ds)) : ∃ n', n = n' + 1 ∧ ∀ x ∈ ds, LvC c n' x := by
  cases n with
  | zero => cases h
  | succ n =>
    rcases h with h | ⟨es, h1 | h1, h3⟩
    · cases h
    · cases h1; exact ⟨n, rfl, h3⟩
    · cases h1
theorem pick {is : List Int} {r : Int} (h0 : 0 ≤ r) (h1 : r < is.length) : ∃ v ∈ is, ixD (.list (is.map .int)) (.int r) = some (.int v) := by
  obtain ⟨j, rfl⟩ := Int.eq_ofNat_of_zero_le h0
  have h2 : j < is.length := by omega
  exact ⟨is[j], List.getElem_mem h2, by simp [ixD, L2.atI, ixN, h2]⟩
theorem lv_i {n : Nat} {i : Int} (h : lim 100 i) : LvC 100 n (.int i) := .leaf (decide_eq_true h)
theorem lv_seq {n : Nat} {ds : List D} (h : ∀ x ∈ ds, LvC 100 n x) : LvC 100 (n + 1) (.tuple ds) := .inr ⟨ds, .inl rfl, h⟩
theorem dt_fq {r : Rat} (h : limQ 100 r) : DtC 100 1 2 (fq r) := by
  refine ⟨lv_seq fun z hz => ?_, by simp [fq, fr, PyData.bulk, PyData.bulkAll]⟩
  simp only [List.mem_cons, List.not_mem_nil, or_false] at hz
  rcases hz with rfl | rfl
  · exact lv_i h.1
  · exact lv_i h.2
theorem lim_small {i : Int} (h0 : 0 ≤ i) (h1 : i < 2 ^ 20) : lim 100 i := lim_mono (show lim 20 i from show i.natAbs < 2 ^ 20 by omega) (by decide)
theorem lim_abs {i : Int} (h0 : -(2 ^ 20) < i) (h1 : i < 2 ^ 20) : lim 100 i := lim_mono (show lim 20 i from show i.natAbs < 2 ^ 20 by omega) (by decide)
def SpPoint (F : FSem) : Prop := ∀ (cells : List Int) (k : Nat) (t : T), k + 10 < 2 ^ 26 → FeedOk cells k t → ∃ (d : D) (t' : T), DtC 100 2 6 d ∧ FeedOk cells (k + 4) t' ∧ F [t] = some (.leaf d, [some t'])
theorem run_point {W : Wd} {Fd Fr : FSem} (hd : W.fn "_law_draw" = some ⟨2, [0], Fd⟩) (sd : SpDraw Fd) (hr : W.fn "_law_frac" = some ⟨2, [], Fr⟩) (sr : SpFr Fr) : SpPoint (runM n__law_point.length 1 [0] (evSs W c__law_point)) := by
  intro cells k t hk ht
  obtain ⟨r1, t1, a1, b1, f1, k1⟩ := sd cells k t 17 (by omega) ht (by decide) (by decide)
  obtain ⟨r2, t2, a2, b2, f2, k2⟩ := sd cells (k + 1) t1 4 (by omega) f1 (by decide) (by decide)
  obtain ⟨v, hv, iv⟩ := pick (is := [0, 16, 16, r1]) a2 (by simpa using b2)
  have hv0 : 0 ≤ v ∧ v ≤ 16 := by
    simp only [List.mem_cons, List.not_mem_nil, or_false] at hv
    rcases hv with rfl | rfl | rfl | rfl <;> omega
  obtain ⟨r3, t3, a3, b3, f3, k3⟩ := sd cells (k + 2) t2 (v + 1) (by omega) f2 (by omega) (by omega)
  have lr3 := lim_small a3 (by omega)
  have lv := lim_small hv0.1 (by omega)
  have k4 := sr r3 16 (by decide) (lim_mono lr3 (by decide)) (by decide)
  have k5 := sr v 16 (by decide) (lim_mono lv (by decide)) (by decide)
  have q1 := dt_fq (limQ_divInt (by decide) lr3 (show lim 100 16 by decide))
  have q2 := dt_fq (limQ_divInt (by decide) lv (show lim 100 16 by decide))
  simp only [lf2, nn] at k4 k5
  simp only [List.map_cons, List.map_nil] at iv
  generalize fq (Rat.divInt r3 16) = P1 at *
  generalize fq (Rat.divInt v 16) = P2 at *
  refine ⟨.tuple [P1, P2], t3, ⟨lv_seq fun z hz => ?_, ?_⟩, f3.mono (by omega), run_lent1 (e' := [some (.leaf (.int v))]) ?_⟩
  · simp only [List.mem_cons, List.not_mem_nil, or_false] at hz
    rcases hz with rfl | rfl
    · exact q1.lv
    · exact q2.lv
  · have := q1.blk
    have := q2.blk
    rw [bulk_tup]
    simp only [PyData.bulkAll]
    omega
  · simp [c__law_point, evSs, evS, evC, evCs, Bop.d, n__law_point, hd, hr, lens, maskN, mkTup, k1, k2, k3, iv, k4, k5]
theorem tix_lvs (ps : List D) (y : D) : tIx (.lst (ps.map .leaf)) y = ixD (.list ps) y := by
  unfold tIx ixD
  cases y with
  | int i =>
    show (match L2.atI (ps.map T.leaf) i with
      | some (.leaf d) => some d
      | _ => none) = L2.atI ps i
    unfold L2.atI
    rw [List.length_map]
    cases ixN ps.length i with
    | none => rfl
    | some j =>
      show (match (ps.map T.leaf)[j]? with
        | some (.leaf d) => some d
        | _ => none) = ps[j]?
      rw [List.getElem?_map]
      cases ps[j]? <;> rfl
  | _ => rfl
theorem dt_id {a b c : Int} (ha : lim 100 a) (hb : lim 100 b) (hc : lim 100 c) : DtC 100 1 3 (.tuple [.int a, .int b, .int c]) := by
  refine ⟨lv_seq fun z hz => ?_, by simp [PyData.bulk, PyData.bulkAll]⟩
  simp only [List.mem_cons, List.not_mem_nil, or_false] at hz
  rcases hz with rfl | rfl | rfl
  · exact lv_i ha
  · exact lv_i hb
  · exact lv_i hc
theorem dt_pr {x y : D} (hx : DtC 100 1 3 x) (hy : DtC 100 2 6 y) : DtC 100 3 11 (.tuple [x, y]) := by
  refine ⟨lv_seq fun z hz => ?_, ?_⟩
  · simp only [List.mem_cons, List.not_mem_nil, or_false] at hz
    rcases hz with rfl | rfl
    · exact hx.lv.mono (by omega)
    · exact hy.lv
  · have := hx.blk
    have := hy.blk
    rw [bulk_tup]
    simp only [PyData.bulkAll]
    omega
theorem cell_ok {W : Wd} {Fd : FSem} (hd : W.fn "_law_draw" = some ⟨2, [0], Fd⟩) (sd : SpDraw Fd) (cells : List Int) {k : Nat} {t : T} (hk : k + 10 < 2 ^ 26) (ht : FeedOk cells k t) {ps acc : List D} (hps : ps.length = 4) (hp : ∀ p ∈ ps, DtC 100 2 6 p) (hacc : acc.length ≤ 100) {c x y : Int} (lc : lim 100 c) (lx : lim 100 x) (ly : lim 100 y) (x1 x2 x5 x9 x10 : Option T) :
    ∃ (t' : T) (p : D) (y9 : Option T), FeedOk cells (k + 4) t' ∧ DtC 100 3 11 p ∧ evSs W ct_b3_b1_r0 [some t, x1, x2, some (.lst (ps.map .leaf)), some (.leaf (.int c)), x5, some (.leaf (.int y)), some (.lst (acc.map .leaf)), some (.leaf (.int x)), x9, x10] = .ok .nx [some t', x1, x2, some (.lst (ps.map .leaf)), some (.leaf (.int c)), x5, some (.leaf (.int y)), some (.lst ((acc ++ [p]).map .leaf)), some (.leaf (.int x)), y9, x10] := by
  obtain ⟨r1, t1, a1, b1, f1, k1⟩ := sd cells k t 5 (by omega) ht (by decide) (by decide)
  obtain ⟨r2, t2, a2, b2, f2, k2⟩ := sd cells (k + 1) t1 9 (by omega) f1 (by decide) (by decide)
  obtain ⟨r3, t3, a3, b3, f3, k3⟩ := sd cells (k + 1 + 1) t2 9 (by omega) f2 (by decide) (by decide)
  have htl : (acc.map T.leaf).length < most := by simp; exact Nat.lt_of_le_of_lt hacc (by decide)
  have m3 : ∀ a b c : D, mkTup [.leaf a, .leaf b, .leaf c] = .leaf (.tuple [a, b, c]) := fun _ _ _ => rfl
  have m2 : ∀ a b : D, mkTup [.leaf a, .leaf b] = .leaf (.tuple [a, b]) := fun _ _ => rfl
  have fin : ∀ (own : D) (k' : Nat) (t4 : T), k' + 1 ≤ k + 4 → FeedOk cells k' t4 → DtC 100 1 3 own → ∃ (t' : T) (p : D), FeedOk cells (k + 4) t' ∧ DtC 100 3 11 p ∧ evSs W ct_b3_b1_r2 [some t4, x1, x2, some (.lst (ps.map .leaf)), some (.leaf (.int c)), x5, some (.leaf (.int y)), some (.lst (acc.map .leaf)), some (.leaf (.int x)), some (.leaf own), x10] = .ok .nx [some t', x1, x2, some (.lst (ps.map .leaf)), some (.leaf (.int c)), x5, some (.leaf (.int y)), some (.lst ((acc ++ [p]).map .leaf)), some (.leaf (.int x)), some (.leaf own), x10] := by
    intro own k' t4 hk' f4 ho
    obtain ⟨r5, t5, a5, b5, f5, k5⟩ := sd cells k' t4 4 (by omega) f4 (by decide) (by decide)
    obtain ⟨p, hpm, ip, _⟩ := ix_mem (ds := ps) (r := r5) a5 (by rw [hps]; exact b5)
    have tp := tix_lvs ps (.int r5)
    refine ⟨t5, .tuple [own, p], f5.mono (by omega), dt_pr ho (hp p hpm), ?_⟩
    have hA : T.lst ((acc ++ [PyData.tuple [own, p]]).map .leaf) = .lst (acc.map .leaf ++ [.leaf (.tuple [own, p])]) := by simp
    rw [hA]
    generalize T.lst (ps.map .leaf) = S at *
    generalize acc.map T.leaf = A at *
    simp [ct_b3_b1_r2, ct_b3_b1_s2, ct_b3_b1_r3, evSs, evS, evC, evCs, hd, lens, maskN, k5, tp, ip, m2, htl]
  have g0 : evS W ct_b3_b1_s0 [some t, x1, x2, some (.lst (ps.map .leaf)), some (.leaf (.int c)), x5, some (.leaf (.int y)), some (.lst (acc.map .leaf)), some (.leaf (.int x)), x9, x10] = .ok .nx [some t, x1, x2, some (.lst (ps.map .leaf)), some (.leaf (.int c)), x5, some (.leaf (.int y)), some (.lst (acc.map .leaf)), some (.leaf (.int x)), some (.leaf (.tuple [.int c, .int x, .int y])), x10] := by
    generalize T.lst (ps.map .leaf) = S at *
    generalize T.lst (acc.map T.leaf) = A at *
    simp [ct_b3_b1_s0, evS, evC, evCs, m3]
  by_cases hr : r1 = 0
  · have g1 : evS W ct_b3_b1_s1 [some t, x1, x2, some (.lst (ps.map .leaf)), some (.leaf (.int c)), x5, some (.leaf (.int y)), some (.lst (acc.map .leaf)), some (.leaf (.int x)), some (.leaf (.tuple [.int c, .int x, .int y])), x10] = .ok .nx [some t3, x1, x2, some (.lst (ps.map .leaf)), some (.leaf (.int c)), x5, some (.leaf (.int y)), some (.lst (acc.map .leaf)), some (.leaf (.int x)), some (.leaf (.tuple [.int r2, .int r3, .int y])), x10] := by
      generalize T.lst (ps.map .leaf) = S at *
      generalize T.lst (acc.map T.leaf) = A at *
      simp [ct_b3_b1_s1, evSs, evS, evC, evCs, Cop.d, hd, lens, maskN, k1, hr, k2, k3, m3]
    obtain ⟨t', p, f', dp, q⟩ := fin (.tuple [.int r2, .int r3, .int y]) (k + 1 + 1 + 1) t3 (by omega) f3 (dt_id (lim_small a2 (by omega)) (lim_small a3 (by omega)) ly)
    exact ⟨t', p, _, f', dp, by rw [step (c := ct_b3_b1_r0) rfl g0, step (c := ct_b3_b1_r1) rfl g1]; exact q⟩
  · have g1 : evS W ct_b3_b1_s1 [some t, x1, x2, some (.lst (ps.map .leaf)), some (.leaf (.int c)), x5, some (.leaf (.int y)), some (.lst (acc.map .leaf)), some (.leaf (.int x)), some (.leaf (.tuple [.int c, .int x, .int y])), x10] = .ok .nx [some t1, x1, x2, some (.lst (ps.map .leaf)), some (.leaf (.int c)), x5, some (.leaf (.int y)), some (.lst (acc.map .leaf)), some (.leaf (.int x)), some (.leaf (.tuple [.int c, .int x, .int y])), x10] := by
      generalize T.lst (ps.map .leaf) = S at *
      generalize T.lst (acc.map T.leaf) = A at *
      simp [ct_b3_b1_s1, evSs, evS, evC, evCs, Cop.d, hd, lens, maskN, k1, hr]
    obtain ⟨t', p, f', dp, q⟩ := fin (.tuple [.int c, .int x, .int y]) (k + 1) t1 (by omega) f1 (dt_id lc lx ly)
    exact ⟨t', p, _, f', dp, by rw [step (c := ct_b3_b1_r0) rfl g0, step (c := ct_b3_b1_r1) rfl g1]; exact q⟩
theorem far10 : ∀ n : Fin 10, far ((n.val : Nat) : Int) = true := by decide
theorem rng_c {c : Int} {C : Nat} (hc : c = C) (h : C ≤ 9) : rng1 [.int c] = some (rangeL 0 C) := by
  subst hc
  have h9 := far10 ⟨C, by omega⟩
  unfold rng1
  simp only
  have h9 : far (C : Int) = true := h9
  rw [h9]
  rfl
theorem rg_at {i C : Nat} {d : D} (h : (rangeL 0 C)[i]? = some d) : i < C ∧ d = .int (0 + (i : Int)) := by
  unfold rangeL at h
  rw [List.getElem?_map] at h
  obtain ⟨j, h1, h2⟩ := Option.map_eq_some_iff.mp h
  have h3 := (List.getElem?_eq_some_iff.mp h1)
  obtain ⟨h4, h5⟩ := h3
  simp at h4 h5
  subst h5
  exact ⟨h4, h2.symm⟩
theorem line_ok {W : Wd} {Fd : FSem} (hd : W.fn "_law_draw" = some ⟨2, [0], Fd⟩) (sd : SpDraw Fd) (cells : List Int) {k : Nat} {t : T} (hk : k + 100 < 2 ^ 26) (ht : FeedOk cells k t) {ps rows : List D} (hps : ps.length = 4) (hp : ∀ p ∈ ps, DtC 100 2 6 p) (hrows : rows.length ≤ 100) {c w y : Int} {Wn : Nat} (hw : w = Wn) (hw9 : Wn ≤ 4) (lc : lim 100 c) (ly : lim 100 y) (x2 x7 x8 x9 x10 : Option T) :
    ∃ (t' : T) (row : List D) (y7 y8 y9 : Option T), FeedOk cells (k + 16) t' ∧ row.length = Wn ∧ (∀ p ∈ row, DtC 100 3 11 p) ∧ evSs W ct_b3_r0 [some t, some (.leaf (.int w)), x2, some (.lst (ps.map .leaf)), some (.leaf (.int c)), some (.lst (rows.map .leaf)), some (.leaf (.int y)), x7, x8, x9, x10] = .ok .nx [some t', some (.leaf (.int w)), x2, some (.lst (ps.map .leaf)), some (.leaf (.int c)), some (.lst ((rows ++ [PyData.tuple row]).map .leaf)), some (.leaf (.int y)), y7, y8, y9, x10] := by
  have g0 : evS W ct_b3_s0 [some t, some (.leaf (.int w)), x2, some (.lst (ps.map .leaf)), some (.leaf (.int c)), some (.lst (rows.map .leaf)), some (.leaf (.int y)), x7, x8, x9, x10] = .ok .nx [some t, some (.leaf (.int w)), x2, some (.lst (ps.map .leaf)), some (.leaf (.int c)), some (.lst (rows.map .leaf)), some (.leaf (.int y)), some (.lst (([] : List D).map .leaf)), x8, x9, x10] := by
    generalize T.lst (ps.map .leaf) = S at *
    generalize T.lst (rows.map T.leaf) = A at *
    simp [ct_b3_s0, evS, evC, evCs]
  let Inv : Nat → En → Prop := fun i e => ∃ (t' : T) (row : List D) (y8 y9 : Option T), FeedOk cells (k + 4 * i) t' ∧ row.length = i ∧ (∀ p ∈ row, DtC 100 3 11 p) ∧ e = [some t', some (.leaf (.int w)), x2, some (.lst (ps.map .leaf)), some (.leaf (.int c)), some (.lst (rows.map .leaf)), some (.leaf (.int y)), some (.lst (row.map .leaf)), y8, y9, x10]
  obtain ⟨e', q1, t', row, y8, y9, f', l', d', rfl⟩ := gFor_inv (bd := evTg W (.nm 8)) (b := evSs W ct_b3_b1_r0) Inv (rangeL 0 Wn) 0 [some t, some (.leaf (.int w)), x2, some (.lst (ps.map .leaf)), some (.leaf (.int c)), some (.lst (rows.map .leaf)), some (.leaf (.int y)), some (.lst (([] : List D).map .leaf)), x8, x9, x10] ⟨t, [], x8, x9, ht, rfl, (fun _ h => nomatch h), rfl⟩ (by
    rintro i d e hi ⟨t3, row, y8, y9, f3, l3, d3, rfl⟩
    obtain ⟨hil, rfl⟩ := rg_at hi
    obtain ⟨t4, p, z9, f4, dp, q⟩ := cell_ok hd sd cells (k := k + 4 * (0 + i)) (by omega) f3 hps hp (acc := row) (by omega) lc (x := 0 + (i : Int)) (lim_small (by omega) (by omega)) ly (some (.leaf (.int w))) x2 (some (.lst (rows.map .leaf))) y9 x10
    refine ⟨_, ?_, t4, row ++ [p], some (.leaf (.int (0 + (i : Int)))), z9, by rw [show k + 4 * (0 + i + 1) = k + 4 * (0 + i) + 4 by omega]; exact f4, by simp [l3], fun z hz => ?_, rfl⟩
    · rw [← q]
      generalize T.lst (ps.map .leaf) = S
      generalize T.lst (rows.map .leaf) = A
      generalize T.lst (row.map .leaf) = B
      simp [evTg]
    · rcases List.mem_append.mp hz with hz | hz
      · exact d3 z hz
      · simp only [List.mem_cons, List.not_mem_nil, or_false] at hz
        subst hz
        exact dp)
  have lr : (rangeL 0 Wn).length = Wn := by simp [rangeL]
  rw [lr, Nat.zero_add] at f' l'
  have hrg := rng_c hw (by omega)
  have g1 : evS W ct_b3_s1 [some t, some (.leaf (.int w)), x2, some (.lst (ps.map .leaf)), some (.leaf (.int c)), some (.lst (rows.map .leaf)), some (.leaf (.int y)), some (.lst (([] : List D).map .leaf)), x8, x9, x10] = .ok .nx [some t', some (.leaf (.int w)), x2, some (.lst (ps.map .leaf)), some (.leaf (.int c)), some (.lst (rows.map .leaf)), some (.leaf (.int y)), some (.lst (row.map .leaf)), y8, y9, x10] := by
    have hi : evI W ct_b3_i1 [some t, some (.leaf (.int w)), x2, some (.lst (ps.map .leaf)), some (.leaf (.int c)), some (.lst (rows.map .leaf)), some (.leaf (.int y)), some (.lst (([] : List D).map .leaf)), x8, x9, x10] = .ok (rangeL 0 Wn) [some t, some (.leaf (.int w)), x2, some (.lst (ps.map .leaf)), some (.leaf (.int c)), some (.lst (rows.map .leaf)), some (.leaf (.int y)), some (.lst (([] : List D).map .leaf)), x8, x9, x10] := by
      generalize T.lst (ps.map .leaf) = S
      generalize T.lst (rows.map .leaf) = A
      simp [ct_b3_i1, evI, gRng, evC, evCs, hrg]
    simp only [ct_b3_s1_eq, evS]
    rw [ap_bnd, hi]
    exact q1
  have htl : (rows.map T.leaf).length < most := by simp; exact Nat.lt_of_le_of_lt hrows (by decide)
  have hz : frz (.lst (row.map .leaf)) = .list row := frz_lvs _
  have t1 : tupleD [.list row] = some (.leaf (.tuple row)) := rfl
  refine ⟨t', row, some (.leaf (.list row)), y8, y9, f'.mono (by omega), l', d', ?_⟩
  rw [step (c := ct_b3_r0) rfl g0, step (c := ct_b3_r1) rfl g1]
  have hA : T.lst ((rows ++ [PyData.tuple row]).map .leaf) = .lst (rows.map .leaf ++ [.leaf (.tuple row)]) := by simp
  rw [hA]
  generalize T.lst (ps.map .leaf) = S at *
  generalize T.lst (row.map .leaf) = B at *
  generalize rows.map T.leaf = A at *
  simp [ct_b3_r2, ct_b3_s2, ct_b3_r3, evSs, evS, evC, evCs, Bif.d, hz, t1, htl]
end Fc

namespace Fc
open PySem PySem.Spec PyProof.Rows L2 IL
theorem run_lent3g {m : M Fl} {nN : Nat} {t t' r a b : T} {e' : En} (h : m (some t :: some a :: some b :: List.replicate (nN - 3) none) = .ok (.rt r) (some t' :: e')) (hl : 2 ≤ e'.length) : runM nN 3 [0] m [t, a, b] = some (r, [some t', none, none]) := by
  unfold runM runF
  show (match (match m (some t :: some a :: some b :: List.replicate (nN - 3) none) with
    | .ok (.rt t) e => some (t, (e ++ List.replicate 3 none).take 3)
    | .ok .nx e => some (.leaf .none, (e ++ List.replicate 3 none).take 3)
    | _ => none) with
    | some (t, o) => some (t, maskN [0] 0 o)
    | none => none) = _
  rw [h]
  match e', hl with
  | x :: y :: r', _ => simp [maskN]
theorem run_lent4g {m : M Fl} {nN : Nat} {t t' r a b c : T} {e' : En} (h : m (some t :: some a :: some b :: some c :: List.replicate (nN - 4) none) = .ok (.rt r) (some t' :: e')) (hl : 3 ≤ e'.length) : runM nN 4 [0] m [t, a, b, c] = some (r, [some t', none, none, none]) := by
  unfold runM runF
  show (match (match m (some t :: some a :: some b :: some c :: List.replicate (nN - 4) none) with
    | .ok (.rt t) e => some (t, (e ++ List.replicate 4 none).take 4)
    | .ok .nx e => some (.leaf .none, (e ++ List.replicate 4 none).take 4)
    | _ => none) with
    | some (t, o) => some (t, maskN [0] 0 o)
    | none => none) = _
  rw [h]
  match e', hl with
  | x :: y :: z :: r', _ => simp [maskN]
theorem bulk_each {b : Nat} : ∀ {ps : List D}, (∀ p ∈ ps, p.bulk ≤ b) → PyData.bulkAll ps ≤ ps.length * (b + 1)
  | [], _ => by simp [PyData.bulkAll]
  | p :: ps, hp => by
    have h1 := hp p List.mem_cons_self
    have h2 := bulk_each fun x hx => hp x (List.mem_cons_of_mem _ hx)
    simp only [PyData.bulkAll, List.length_cons, Nat.succ_mul]
    omega
def SpCont (F : FSem) : Prop := ∀ (cells : List Int) (k : Nat) (t : T) (w h : Nat), k + 200 < 2 ^ 26 → FeedOk cells k t → w ≤ 4 → h ≤ 4 → ∃ (d : D) (t' : T), DtC 100 5 200 d ∧ FeedOk cells (k + 100) t' ∧ F [t, .leaf (.int w), .leaf (.int h)] = some (.leaf d, [some t', none, none])
theorem points_ok {W : Wd} {Fp : FSem} (hp : W.fn "_law_point" = some ⟨1, [0], Fp⟩) (sp : SpPoint Fp) (cells : List Int) {k : Nat} {t : T} (hk : k + 100 < 2 ^ 26) (ht : FeedOk cells k t) (x1 x2 x3 x4 x5 x6 x7 x8 x9 x10 : Option T) :
    ∃ (t' : T) (ps : List D), FeedOk cells (k + 16) t' ∧ ps.length = 4 ∧ (∀ p ∈ ps, DtC 100 2 6 p) ∧ evC W (.comp [10] (.nm 10) (.rng1 (.val (.int 4) .nil)) .no (.call "_law_point" (.lend 0 .nil))) [some t, x1, x2, x3, x4, x5, x6, x7, x8, x9, x10] = .ok (.lst (ps.map .leaf)) [some t', x1, x2, x3, x4, x5, x6, x7, x8, x9, none] := by
  let Inv : Nat → List D → En → Prop := fun i acc e => ∃ (t' : T) (y : Option T), FeedOk cells (k + 4 * i) t' ∧ (∀ x ∈ acc, DtC 100 2 6 x) ∧ e = [some t', x1, x2, x3, x4, x5, x6, x7, x8, x9, y]
  obtain ⟨e', acc, q1, q2, t', y6, f', d', rfl⟩ := gLc_inv (vs := [10]) (bd := evTg W (.nm 10)) (tt := evCond W .no) (el := fz (evC W (.call "_law_point" (.lend 0 .nil)))) Inv (rangeL 0 4) 0 [] [some t, x1, x2, x3, x4, x5, x6, x7, x8, x9, x10] (by simp [rangeL, most]) ⟨t, x10, ht, (fun _ h => nomatch h), rfl⟩ (by
    rintro i d acc e hi ⟨t3, y6, f3, d3, rfl⟩
    obtain ⟨hil, rfl⟩ := rg_at (C := 4) hi
    obtain ⟨p, t4, dp, f4, k4⟩ := sp cells (k + 4 * (0 + i)) t3 (by omega) f3
    refine ⟨[some t4, x1, x2, x3, x4, x5, x6, x7, x8, x9, some (.leaf (.int (0 + (i : Int))))], p, ?_, t4, _, by rw [show k + 4 * (0 + i + 1) = k + 4 * (0 + i) + 4 by omega]; exact f4, fun z hz => ?_, rfl⟩
    · simp [evTg, wipeM, wipeE, evCond, evC, evCs, hp, lens, maskN, k4]
    · rcases List.mem_append.mp hz with hz | hz
      · exact d3 z hz
      · simp only [List.mem_cons, List.not_mem_nil, or_false] at hz
        subst hz
        exact dp)
  have lr : (rangeL 0 4).length = 4 := by simp [rangeL]
  rw [lr] at f' q2
  refine ⟨t', acc, f'.mono (by omega), by simpa using q2, d', ?_⟩
  have hi : evI W (.rng1 (.val (.int 4) .nil)) [some t, x1, x2, x3, x4, x5, x6, x7, x8, x9, x10] = .ok (rangeL 0 4) [some t, x1, x2, x3, x4, x5, x6, x7, x8, x9, x10] := by
    simp [evI, gRng, evC, evCs, rng1, show far 4 = true from by decide]
  rw [ev_comp', ap_bnd, hi]
  exact q1
theorem run_lcontent {W : Wd} {Fd Fp : FSem} (hd : W.fn "_law_draw" = some ⟨2, [0], Fd⟩) (sd : SpDraw Fd) (hp : W.fn "_law_point" = some ⟨1, [0], Fp⟩) (sp : SpPoint Fp) : SpCont (runM n__law_content.length 3 [0] (evSs W c__law_content)) := by
  intro cells k t w h hk ht hw4 hh4
  obtain ⟨wi, hw⟩ : ∃ wi : Int, wi = w := ⟨_, rfl⟩
  obtain ⟨hi', hh⟩ : ∃ hi' : Int, hi' = h := ⟨_, rfl⟩
  rw [← hw, ← hh]
  obtain ⟨t1, ps, f1, lps, dps, hcc⟩ := points_ok hp sp cells (k := k) (by omega) ht (some (.leaf (.int wi))) (some (.leaf (.int hi'))) none none none none none none none none
  obtain ⟨c0, t2, a2, b2, f2, k2⟩ := sd cells (k + 16) t1 9 (by omega) f1 (by decide) (by decide)
  have lc : lim 100 (1 + c0) := lim_small (by omega) (by omega)
  have g0 : evS W ct_s0 [some t, some (.leaf (.int wi)), some (.leaf (.int hi')), none, none, none, none, none, none, none, none] = .ok .nx [some t1, some (.leaf (.int wi)), some (.leaf (.int hi')), some (.lst (ps.map .leaf)), none, none, none, none, none, none, none] := by
    unfold ct_s0
    generalize IL.C.comp [10] (.nm 10) (.rng1 (.val (.int 4) .nil)) .no (.call "_law_point" (.lend 0 .nil)) = cc at *
    generalize T.lst (ps.map .leaf) = S at *
    simp [evS, hcc]
  have g1 : evS W ct_s1 [some t1, some (.leaf (.int wi)), some (.leaf (.int hi')), some (.lst (ps.map .leaf)), none, none, none, none, none, none, none] = .ok .nx [some t2, some (.leaf (.int wi)), some (.leaf (.int hi')), some (.lst (ps.map .leaf)), some (.leaf (.int (1 + c0))), none, none, none, none, none, none] := by
    generalize T.lst (ps.map .leaf) = S at *
    simp [ct_s1, evS, evC, evCs, Bop.d, hd, lens, maskN, k2]
  generalize 1 + c0 = c at *
  have g2 : evS W ct_s2 [some t2, some (.leaf (.int wi)), some (.leaf (.int hi')), some (.lst (ps.map .leaf)), some (.leaf (.int c)), none, none, none, none, none, none] = .ok .nx [some t2, some (.leaf (.int wi)), some (.leaf (.int hi')), some (.lst (ps.map .leaf)), some (.leaf (.int c)), some (.lst (([] : List D).map .leaf)), none, none, none, none, none] := by
    generalize T.lst (ps.map .leaf) = S at *
    simp [ct_s2, evS, evC, evCs]
  let Inv : Nat → En → Prop := fun i e => ∃ (t' : T) (rows : List D) (y6 y7 y8 y9 : Option T), FeedOk cells (k + 17 + 16 * i) t' ∧ rows.length = i ∧ (∀ r ∈ rows, DtC 100 4 48 r) ∧ e = [some t', some (.leaf (.int wi)), some (.leaf (.int hi')), some (.lst (ps.map .leaf)), some (.leaf (.int c)), some (.lst (rows.map .leaf)), y6, y7, y8, y9, none]
  obtain ⟨e', q1, t', rows, y6, y7, y8, y9, f', l', d', rfl⟩ := gFor_inv (bd := evTg W (.nm 6)) (b := evSs W ct_b3_r0) Inv (rangeL 0 h) 0 [some t2, some (.leaf (.int wi)), some (.leaf (.int hi')), some (.lst (ps.map .leaf)), some (.leaf (.int c)), some (.lst (([] : List D).map .leaf)), none, none, none, none, none] ⟨t2, [], none, none, none, none, f2.mono (by omega), rfl, (fun _ h => nomatch h), rfl⟩ (by
    rintro i d e hi ⟨t3, rows, y6, y7, y8, y9, f3, l3, d3, rfl⟩
    obtain ⟨hil, rfl⟩ := rg_at hi
    obtain ⟨t4, row, z7, z8, z9, f4, lr, dr, q⟩ := line_ok hd sd cells (k := k + 17 + 16 * (0 + i)) (by omega) f3 lps dps (rows := rows) (by omega) hw hw4 lc (y := 0 + (i : Int)) (lim_small (by omega) (by omega)) (some (.leaf (.int hi'))) y7 y8 y9 none
    refine ⟨_, ?_, t4, rows ++ [PyData.tuple row], some (.leaf (.int (0 + (i : Int)))), z7, z8, z9, by rw [show k + 17 + 16 * (0 + i + 1) = k + 17 + 16 * (0 + i) + 16 by omega]; exact f4, by simp [l3], fun z hz => ?_, rfl⟩
    · rw [← q]
      generalize T.lst (ps.map .leaf) = S
      generalize T.lst (rows.map .leaf) = A
      simp [evTg]
    · rcases List.mem_append.mp hz with hz | hz
      · exact d3 z hz
      · simp only [List.mem_cons, List.not_mem_nil, or_false] at hz
        subst hz
        refine ⟨lv_seq fun p hp => (dr p hp).lv, ?_⟩
        have := bulk_each fun p hp => (dr p hp).blk
        rw [bulk_tup]
        have h4 : row.length * (11 + 1) ≤ 4 * 12 := Nat.mul_le_mul_right 12 (by omega)
        omega)
  have lr : (rangeL 0 h).length = h := by simp [rangeL]
  rw [lr, Nat.zero_add] at f' l'
  have hrg := rng_c hh (by omega)
  have g3 : evS W ct_s3 [some t2, some (.leaf (.int wi)), some (.leaf (.int hi')), some (.lst (ps.map .leaf)), some (.leaf (.int c)), some (.lst (([] : List D).map .leaf)), none, none, none, none, none] = .ok .nx [some t', some (.leaf (.int wi)), some (.leaf (.int hi')), some (.lst (ps.map .leaf)), some (.leaf (.int c)), some (.lst (rows.map .leaf)), y6, y7, y8, y9, none] := by
    have hi : evI W ct_i3 [some t2, some (.leaf (.int wi)), some (.leaf (.int hi')), some (.lst (ps.map .leaf)), some (.leaf (.int c)), some (.lst (([] : List D).map .leaf)), none, none, none, none, none] = .ok (rangeL 0 h) [some t2, some (.leaf (.int wi)), some (.leaf (.int hi')), some (.lst (ps.map .leaf)), some (.leaf (.int c)), some (.lst (([] : List D).map .leaf)), none, none, none, none, none] := by
      generalize T.lst (ps.map .leaf) = S
      simp [ct_i3, evI, gRng, evC, evCs, hrg]
    simp only [ct_s3_eq, evS]
    rw [ap_bnd, hi]
    exact q1
  have hz : frz (.lst (rows.map .leaf)) = .list rows := frz_lvs _
  have t1' : tupleD [.list rows] = some (.leaf (.tuple rows)) := rfl
  refine ⟨.tuple rows, t', ⟨lv_seq fun p hp => (d' p hp).lv, ?_⟩, f'.mono (by omega), ?_⟩
  · have := bulk_each fun p hp => (d' p hp).blk
    rw [bulk_tup]
    have h4 : rows.length * (48 + 1) ≤ 4 * 49 := Nat.mul_le_mul_right 49 (by omega)
    omega
  · refine run_lent3g (e' := [some (.leaf (.int wi)), some (.leaf (.int hi')), some (.lst (ps.map .leaf)), some (.leaf (.int c)), some (.leaf (.list rows)), y6, y7, y8, y9, none]) ?_ (by simp)
    show evSs W c__law_content [some t, some (.leaf (.int wi)), some (.leaf (.int hi')), none, none, none, none, none, none, none, none] = _
    rw [ct_eq, step (c := ct_r0) rfl g0, step (c := ct_r1) rfl g1, step (c := ct_r2) rfl g2, step (c := ct_r3) rfl g3]
    generalize T.lst (ps.map .leaf) = S
    generalize T.lst (rows.map .leaf) = A at *
    simp [ct_r4, ct_s4, ct_r5, evSs, evS, evC, evCs, Bif.d, hz, t1']
def strOkD (d : D) : Prop := leafC 100 d = true ∧ d.bulk ≤ 10
def SpNode (F : FSem) : Prop := ∀ (cells : List Int) (k : Nat) (t : T) (nm pr : D) (wide : Nat), k + 400 < 2 ^ 26 → FeedOk cells k t → strOkD nm → strOkD pr → 1 ≤ wide → wide ≤ 3 → ∃ (ds : List D) (t' : T), ds.length = 8 ∧ ds.head? = some nm ∧ (∀ x ∈ ds, LvC 100 5 x) ∧ PyData.bulkAll ds ≤ 300 ∧ FeedOk cells (k + 150) t' ∧ F [t, .leaf nm, .leaf pr, .leaf (.int wide)] = some (.leaf (.tuple ds), [some t', none, none, none])
theorem run_lnode {W : Wd} {Fd Fr Fc : FSem} (hd : W.fn "_law_draw" = some ⟨2, [0], Fd⟩) (sd : SpDraw Fd) (hr : W.fn "_law_frac" = some ⟨2, [], Fr⟩) (sr : SpFr Fr) (hc : W.fn "_law_content" = some ⟨3, [0], Fc⟩) (sc : SpCont Fc) : SpNode (runM n__law_node.length 4 [0] (evSs W c__law_node)) := by
  intro cells k t nm pr wide hk ht hnm hpr hw1 hw3
  obtain ⟨wi, hw⟩ : ∃ wi : Int, wi = wide := ⟨_, rfl⟩
  rw [← hw]
  obtain ⟨r1, t1, a1, b1, f1, k1⟩ := sd cells k t 9 (by omega) ht (by decide) (by decide)
  obtain ⟨r2, t2, a2, b2, f2, k2⟩ := sd cells (k + 1) t1 7 (by omega) f1 (by decide) (by decide)
  obtain ⟨r3, t3, a3, b3, f3, k3⟩ := sd cells (k + 2) t2 5 (by omega) f2 (by decide) (by decide)
  obtain ⟨r4, t4, a4, b4, f4, k4⟩ := sd cells (k + 3) t3 5 (by omega) f3 (by decide) (by decide)
  obtain ⟨r5, t5, a5, b5, f5, k5⟩ := sd cells (k + 4) t4 6 (by omega) f4 (by decide) (by decide)
  obtain ⟨r6, t6, a6, b6, f6, k6⟩ := sd cells (k + 5) t5 6 (by omega) f5 (by decide) (by decide)
  obtain ⟨r7, t7, a7, b7, f7, k7⟩ := sd cells (k + 6) t6 4 (by omega) f6 (by decide) (by decide)
  obtain ⟨r8, t8, a8, b8, f8, k8⟩ := sd cells (k + 7) t7 17 (by omega) f7 (by decide) (by decide)
  obtain ⟨r9, t9, a9, b9, f9, k9⟩ := sd cells (k + 8) t8 5 (by omega) f8 (by decide) (by decide)
  obtain ⟨r10, t10, a10, b10, f10, k10⟩ := sd cells (k + 9) t9 9 (by omega) f9 (by decide) (by decide)
  obtain ⟨r11, t11, a11, b11, f11, k11⟩ := sd cells (k + 10) t10 6 (by omega) f10 (by decide) (by decide)
  obtain ⟨v, hv, iv⟩ := pick (is := [16, 16, 16, r8, 0]) a9 (by simpa using b9)
  have hv0 : 0 ≤ v ∧ v ≤ 16 := by
    simp only [List.mem_cons, List.not_mem_nil, or_false] at hv
    rcases hv with rfl | rfl | rfl | rfl | rfl <;> omega
  have lv := lim_small hv0.1 (by omega)
  have kf := sr v 16 (by decide) (lim_mono lv (by decide)) (by decide)
  have dop := dt_fq (limQ_divInt (by decide) lv (show lim 100 16 by decide))
  simp only [lf2, nn] at kf
  simp only [List.map_cons, List.map_nil] at iv
  generalize fq (Rat.divInt v 16) = OP at *
  obtain ⟨x, hx⟩ : ∃ x, x = r1 - 3 := ⟨_, rfl⟩
  obtain ⟨y, hy⟩ : ∃ y, y = r2 - 3 := ⟨_, rfl⟩
  obtain ⟨l, hl⟩ : ∃ l, l = r3 - 1 := ⟨_, rfl⟩
  obtain ⟨tp, htp⟩ : ∃ tp, tp = r4 - 1 := ⟨_, rfl⟩
  have g0 : evS W nd_s0 [some t, some (.leaf nm), some (.leaf pr), some (.leaf (.int wi)), none, none, none, none, none, none, none, none] = .ok .nx [some t2, some (.leaf nm), some (.leaf pr), some (.leaf (.int wi)), some (.leaf (.int x)), some (.leaf (.int y)), none, none, none, none, none, none] := by
    rw [hx, hy]
    simp [nd_s0, evS, evC, evCs, Bop.d, gPar, hd, lens, maskN, k1, k2]
  have g1 : evS W nd_s1 [some t2, some (.leaf nm), some (.leaf pr), some (.leaf (.int wi)), some (.leaf (.int x)), some (.leaf (.int y)), none, none, none, none, none, none] = .ok .nx [some t4, some (.leaf nm), some (.leaf pr), some (.leaf (.int wi)), some (.leaf (.int x)), some (.leaf (.int y)), some (.leaf (.int l)), some (.leaf (.int tp)), none, none, none, none] := by
    rw [hl, htp]
    simp [nd_s1, evS, evC, evCs, Bop.d, gPar, hd, lens, maskN, k3, k4]
  have mk4 : ∀ a b c d : D, mkTup [.leaf a, .leaf b, .leaf c, .leaf d] = .leaf (.tuple [a, b, c, d]) := fun _ _ _ _ => rfl
  obtain ⟨rg, hrg⟩ : ∃ rg, rg = l + 1 + r5 := ⟨_, rfl⟩
  obtain ⟨bt, hbt⟩ : ∃ bt, bt = tp + 1 + r6 := ⟨_, rfl⟩
  have g2 : evS W nd_s2 [some t4, some (.leaf nm), some (.leaf pr), some (.leaf (.int wi)), some (.leaf (.int x)), some (.leaf (.int y)), some (.leaf (.int l)), some (.leaf (.int tp)), none, none, none, none] = .ok .nx [some t6, some (.leaf nm), some (.leaf pr), some (.leaf (.int wi)), some (.leaf (.int x)), some (.leaf (.int y)), some (.leaf (.int l)), some (.leaf (.int tp)), some (.leaf (.tuple [.int l, .int tp, .int rg, .int bt])), none, none, none] := by
    rw [hrg, hbt]
    simp [nd_s2, evS, evC, evCs, Bop.d, hd, lens, maskN, k5, k6, mk4]
  obtain ⟨clip, hclip, g3⟩ : ∃ clip : D, DtC 100 1 4 clip ∧ evS W nd_s3 [some t6, some (.leaf nm), some (.leaf pr), some (.leaf (.int wi)), some (.leaf (.int x)), some (.leaf (.int y)), some (.leaf (.int l)), some (.leaf (.int tp)), some (.leaf (.tuple [.int l, .int tp, .int rg, .int bt])), none, none, none] = .ok .nx [some t7, some (.leaf nm), some (.leaf pr), some (.leaf (.int wi)), some (.leaf (.int x)), some (.leaf (.int y)), some (.leaf (.int l)), some (.leaf (.int tp)), some (.leaf clip), none, none, none] := by
    by_cases h7 : r7 = 0
    · refine ⟨.tuple [.int l, .int tp, .int rg, .int bt], ⟨lv_seq fun z hz => ?_, by simp [PyData.bulk, PyData.bulkAll]⟩, ?_⟩
      · simp only [List.mem_cons, List.not_mem_nil, or_false] at hz
        rcases hz with rfl | rfl | rfl | rfl <;> exact lv_i (lim_abs (by omega) (by omega))
      · simp [nd_s3, evS, evC, evCs, Cop.d, hd, lens, maskN, k7, h7]
    · refine ⟨.none, ⟨.leaf rfl, by simp [PyData.bulk]⟩, ?_⟩
      simp [nd_s3, evS, evC, evCs, Cop.d, hd, lens, maskN, k7, h7]
  have g4 : evS W nd_s4 [some t7, some (.leaf nm), some (.leaf pr), some (.leaf (.int wi)), some (.leaf (.int x)), some (.leaf (.int y)), some (.leaf (.int l)), some (.leaf (.int tp)), some (.leaf clip), none, none, none] = .ok .nx [some t9, some (.leaf nm), some (.leaf pr), some (.leaf (.int wi)), some (.leaf (.int x)), some (.leaf (.int y)), some (.leaf (.int l)), some (.leaf (.int tp)), some (.leaf clip), some (.leaf OP), none, none] := by
    simp [nd_s4, evS, evC, evCs, hd, hr, lens, maskN, k8, k9, iv, kf]
  obtain ⟨hid, hhid⟩ : ∃ hid : Bool, hid = decide (r10 = 0) := ⟨_, rfl⟩
  have g5 : evS W nd_s5 [some t9, some (.leaf nm), some (.leaf pr), some (.leaf (.int wi)), some (.leaf (.int x)), some (.leaf (.int y)), some (.leaf (.int l)), some (.leaf (.int tp)), some (.leaf clip), some (.leaf OP), none, none] = .ok .nx [some t10, some (.leaf nm), some (.leaf pr), some (.leaf (.int wi)), some (.leaf (.int x)), some (.leaf (.int y)), some (.leaf (.int l)), some (.leaf (.int tp)), some (.leaf clip), some (.leaf OP), some (.leaf (.bool hid)), none] := by
    rw [hhid]
    simp [nd_s5, evS, evC, evCs, Cop.d, hd, lens, maskN, k10]
  have g6 : evS W nd_s6 [some t10, some (.leaf nm), some (.leaf pr), some (.leaf (.int wi)), some (.leaf (.int x)), some (.leaf (.int y)), some (.leaf (.int l)), some (.leaf (.int tp)), some (.leaf clip), some (.leaf OP), some (.leaf (.bool hid)), none] = .ok .nx [some t10, some (.leaf nm), some (.leaf pr), some (.leaf (.int wi)), some (.leaf (.int x)), some (.leaf (.int y)), some (.leaf (.int l)), some (.leaf (.int tp)), some (.leaf clip), some (.leaf OP), some (.leaf (.bool hid)), some (.leaf .none)] := by
    simp [nd_s6, evS, evC]
  obtain ⟨cont, t14, hcont, f14, g7⟩ : ∃ (cont : D) (t14 : T), DtC 100 5 200 cont ∧ FeedOk cells (k + 150) t14 ∧ evS W nd_s7 [some t10, some (.leaf nm), some (.leaf pr), some (.leaf (.int wi)), some (.leaf (.int x)), some (.leaf (.int y)), some (.leaf (.int l)), some (.leaf (.int tp)), some (.leaf clip), some (.leaf OP), some (.leaf (.bool hid)), some (.leaf .none)] = .ok .nx [some t14, some (.leaf nm), some (.leaf pr), some (.leaf (.int wi)), some (.leaf (.int x)), some (.leaf (.int y)), some (.leaf (.int l)), some (.leaf (.int tp)), some (.leaf clip), some (.leaf OP), some (.leaf (.bool hid)), some (.leaf cont)] := by
    by_cases h11 : 0 < r11
    · obtain ⟨r12, t12, a12, b12, f12, k12⟩ := sd cells (k + 11) t11 wi (by omega) f11 (by omega) (by omega)
      obtain ⟨r13, t13, a13, b13, f13, k13⟩ := sd cells (k + 12) t12 wi (by omega) f12 (by omega) (by omega)
      obtain ⟨w, hwn⟩ := Int.eq_ofNat_of_zero_le (show 0 ≤ 1 + r12 by omega)
      obtain ⟨h, hhn⟩ := Int.eq_ofNat_of_zero_le (show 0 ≤ 1 + r13 by omega)
      obtain ⟨d, t14, hd14, f14, k14⟩ := sc cells (k + 13) t13 w h (by omega) f13 (by omega) (by omega)
      rw [show ((w : Nat) : Int) = 1 + r12 from hwn.symm, show ((h : Nat) : Int) = 1 + r13 from hhn.symm] at k14
      refine ⟨d, t14, hd14, f14.mono (by omega), ?_⟩
      simp [nd_s7, evSs, evS, evC, evCs, Cop.d, Bop.d, hd, hc, lens, maskN, k11, h11, k12, k13, k14]
    · refine ⟨.none, t11, ⟨.leaf rfl, by simp [PyData.bulk]⟩, f11.mono (by omega), ?_⟩
      simp [nd_s7, evSs, evS, evC, evCs, Cop.d, Bop.d, hd, lens, maskN, k11, h11]
  refine ⟨[nm, pr, .int x, .int y, clip, OP, .bool hid, cont], t14, rfl, rfl, fun z hz => ?_, ?_, f14, run_lent4g (e' := [some (.leaf nm), some (.leaf pr), some (.leaf (.int wi)), some (.leaf (.int x)), some (.leaf (.int y)), some (.leaf (.int l)), some (.leaf (.int tp)), some (.leaf clip), some (.leaf OP), some (.leaf (.bool hid)), some (.leaf cont)]) ?_ (by simp)⟩
  · simp only [List.mem_cons, List.not_mem_nil, or_false] at hz
    rcases hz with rfl | rfl | rfl | rfl | rfl | rfl | rfl | rfl
    · exact .leaf hnm.1
    · exact .leaf hpr.1
    · exact lv_i (lim_abs (by omega) (by omega))
    · exact lv_i (lim_abs (by omega) (by omega))
    · exact hclip.lv.mono (by omega)
    · exact dop.lv.mono (by omega)
    · exact .leaf rfl
    · exact hcont.lv
  · have z1 := hnm.2
    have z2 := hpr.2
    have z3 := hclip.blk
    have z4 := dop.blk
    have z5 := hcont.blk
    have bi : ∀ i : Int, (PyData.int i).bulk = 0 := fun _ => by simp [PyData.bulk]
    have bb : ∀ i : Bool, (PyData.bool i).bulk = 0 := fun _ => by simp [PyData.bulk]
    simp only [PyData.bulkAll, bi, bb]
    omega
  · show evSs W c__law_node [some t, some (.leaf nm), some (.leaf pr), some (.leaf (.int wi)), none, none, none, none, none, none, none, none] = _
    rw [nd_eq, step (c := nd_r0) rfl g0, step (c := nd_r1) rfl g1, step (c := nd_r2) rfl g2, step (c := nd_r3) rfl g3, step (c := nd_r4) rfl g4, step (c := nd_r5) rfl g5, step (c := nd_r6) rfl g6, step (c := nd_r7) rfl g7]
    have mk8 : ∀ a b c d e f g h : D, mkTup [.leaf a, .leaf b, .leaf c, .leaf d, .leaf e, .leaf f, .leaf g, .leaf h] = .leaf (.tuple [a, b, c, d, e, f, g, h]) := fun _ _ _ _ _ _ _ _ => rfl
    simp [nd_r8, nd_s8, nd_r9, evSs, evS, evC, evCs, mk8]
end Fc

namespace IL
open PySem PySem.Spec PyProof.Rows L2
@[simp] theorem ap_rev (f : M D) : gRev f = bnd f fun d => opt (revD d) := rfl
theorem sIx_last (n d : Nat) : HT.sIx (n + 1) d (some (-1)) = n := by
  show (if (-1 : Int) < 0 then ((-1 : Int) + ((n + 1 : Nat) : Int)).toNat else min (-1 : Int).toNat (n + 1)) = n
  rw [if_pos (by omega)]
  omega
theorem cut_lastone (ds : List D) : ∃ l, cutD ds (some (-1)) none = l ∧ l.Sublist ds := by
  refine ⟨_, rfl, ?_⟩
  unfold cutD
  exact (List.take_sublist _ _).trans (List.drop_sublist _ _)
end IL
namespace Fc
open PySem PySem.Spec PyProof.Rows L2 IL
theorem app_toList (x y : Str) : (x ++ y).cps.toList = x.cps.toList ++ y.cps.toList := Array.toList_append
theorem leaf_codes {s : Str} : leafOk (.str s) = true ↔ ∀ c ∈ s.cps.toList, c < 0x110000 := by
  constructor
  · intro h c hc
    simp only [leafOk, Bool.and_eq_true, PyData.canLay0, PyData.strOk] at h
    have h3 := Array.all_eq_true_iff_forall_mem.mp h.1.1 c (by simpa using hc)
    simpa using h3
  · intro h
    simp only [leafOk, Bool.and_eq_true]
    refine ⟨⟨?_, by simp [PyData.showable]⟩, ?_⟩
    · simp only [PyData.canLay0, PyData.strOk]
      rw [Array.all_eq_true_iff_forall_mem]
      intro c hc
      have := h c (by simpa using hc)
      simpa using this
    · simp only [PyData.leavesShort]
      rw [List.all_eq_true]
      intro c hc
      have := h c hc
      simp
      omega
theorem leaf_of (s : String) : leafOk (.str (Str.ofString s)) = true := by
  rw [leaf_codes]
  intro c hc
  rw [Str.ofString_eq_toList] at hc
  simp only at hc
  obtain ⟨ch, _, rfl⟩ := List.mem_map.mp hc
  have := ch.valid
  show ch.val.toNat < 1114112
  rcases this with h | h
  · have : ch.val.toNat < 0xd800 := h
    omega
  · exact h.2
theorem shown_len {c : Nat} {a : Int} (h0 : 0 < c) (h : lim c a) : (Str.ofString (toString a)).cps.size ≤ c + 1 := by
  have hl : a.natAbs.log2 < c := by
    by_cases h0 : a.natAbs = 0
    · rw [h0]
      have : Nat.log2 0 = 0 := by decide
      omega
    · exact (Nat.log2_lt h0).mpr h
  have h1 := int_text_length_le (a := a) (k := c) h0 hl
  have e := PySem.ofString_length (toString a)
  have e2 : (Str.ofString (toString a)).length = (Str.ofString (toString a)).cps.size := rfl
  omega
theorem strOf_ok {c : Nat} {a : Int} (hc : c ≤ 400) (h : lim c a) : strOfD [.int a] = some (.leaf (.str (Str.ofString (toString a)))) := by
  have hl : a.natAbs.log2 < 1920 := by
    by_cases h0 : a.natAbs = 0
    · rw [h0]; decide
    · exact Nat.lt_of_lt_of_le ((Nat.log2_lt h0).mpr h) (by omega)
  exact if_pos hl
def fBent (W : Wd) : Nat → FSem
  | 0 => fun _ => none
  | m + 1 => runM n__law_bent.length 3 [0] (evSs (W.add "_law_bent" ⟨3, [0], fBent W m⟩) c__law_bent)
def SpBent (M : Nat) (F : FSem) : Prop := ∀ (cells : List Int) (k : Nat) (t : T) (n b c deep : Nat) (d : D), deep < M → n ≤ 20 → b ≤ 4000 → 100 ≤ c → c ≤ 200 → k + 10 * deep + 200 < 2 ^ 26 → FeedOk cells k t → DtC c n b d →
  ∃ tr t', FeedOk cells (k + 4 * (deep + 1)) t' ∧ DtC (c + 1) (n + 2) (2 * b + 250) (frz tr) ∧ F [t, .leaf d, .leaf (.int deep)] = some (tr, [some t', none, none])
theorem stop {W : Wd} {s : S} {c r : Ss} {t : T} {E E' : En} (hc : c = .cons s r) (h : evS W s E = .ok (.rt t) E') : evSs W c E = .ok (.rt t) E' := by
  subst hc
  simp only [evSs, gSeq, bnd, h]
  rfl
theorem run_lent3 {m : M Fl} {t t' r : T} {a b : T} {e' : En} (h : m [some t, some a, some b, none, none, none, none] = .ok (.rt r) (some t' :: e')) (hl : 2 ≤ e'.length) : runM 7 3 [0] m [t, a, b] = some (r, [some t', none, none]) := run_lent3g (nN := 7) h hl
/-- a small leaf -/
theorem dt_leafC {c n b : Nat} {d : D} (h : leafC c d = true) (hb : d.bulk ≤ b) : DtC c n b d := ⟨.leaf h, hb⟩
theorem lvc_item {c n : Nat} {ds : List D} (h : ∀ x ∈ ds, LvC c n x) {x : D} (hx : x ∈ ds) : LvC c n x := h x hx
theorem numC {c : Nat} {n : Nat} {i : Int} (h : LvC c n (.int i)) : lim c i := by
  cases n with
  | zero => exact of_decide_eq_true h
  | succ n =>
    rcases h with h | ⟨_, h | h, _⟩
    · exact of_decide_eq_true h
    · cases h
    · cases h
theorem strC {c n : Nat} {s : Str} (h : LvC c n (.str s)) : leafOk (.str s) = true := by
  cases n with
  | zero => exact h
  | succ n =>
    rcases h with h | ⟨_, h | h, _⟩
    · exact h
    · cases h
    · cases h
theorem pt {c n : Nat} {ds : List D} (h : ∀ x ∈ ds, LvC c n x) : LvC c (n + 1) (.tuple ds) := .inr ⟨ds, .inl rfl, h⟩
theorem bent_str {W : Wd} {Fd : FSem} (hd : W.fn "_law_draw" = some ⟨2, [0], Fd⟩) (sd : SpDraw Fd) (cells : List Int) {k c n b : Nat} {t : T} {z : Str} (hk : k + 100 < 2 ^ 26) (ht : FeedOk cells k t) (hb : b ≤ 4000) (hc1 : 100 ≤ c) (hz : DtC c n b (.str z)) (x2 x3 : Option T) :
    ∃ r t', FeedOk cells (k + 1) t' ∧ DtC (c + 1) (n + 2) (2 * b + 250) r ∧ evS W bn_s3 [some t, some (.leaf (.str z)), x2, x3, none, none, none] = .ok (.rt (.leaf r)) [some t', some (.leaf (.str z)), x2, x3, none, none, none] := by
  obtain ⟨r, t1, a1, b1, f1, k1⟩ := sd cells k t 7 (by omega) ht (by decide) (by decide)
  have hzb : z.length ≤ b := by have := hz.blk; simpa [PyData.bulk, Str.length] using this
  have A : addD (.str z) (.str "a") = some (.leaf (.str (z ++ "a"))) := by
    have e1 : (Str.ofString "a").length = 1 := by decide +kernel
    have : z.length + (Str.ofString "a").length ≤ most := by rw [e1]; exact Nat.le_trans (show z.length + 1 ≤ 4001 by omega) (by decide)
    simp only [addD, orr, int2, strCat, if_pos this]
  have hza : leafOk (.str (z ++ "a")) = true := by
    rw [leaf_codes]
    intro cc hcc
    rw [app_toList] at hcc
    rcases List.mem_append.mp hcc with h | h
    · exact leaf_codes.mp (strC hz.lv) cc h
    · have : cc ∈ [97] := h
      simp only [List.mem_cons, List.not_mem_nil, or_false] at this
      omega
  have hzl : (PyData.str (z ++ "a")).bulk ≤ b + 1 := by
    have e : (z ++ Str.ofString "a").cps.toList.length = z.cps.toList.length + 1 := by
      rw [app_toList, List.length_append]
      rfl
    simp only [PyData.bulk]
    simp [Str.length] at e hzb ⊢
    omega
  obtain ⟨x, hx, ix, _⟩ := ix_mem (ds := [.str "a", .str "", .str "A", .str (z ++ "a"), .str "abcdefghi", .int 1, .str "cy"]) (r := r) a1 (by simpa using b1)
  refine ⟨x, t1, f1, ?_, ?_⟩
  · simp only [List.mem_cons, List.not_mem_nil, or_false] at hx
    rcases hx with rfl | rfl | rfl | rfl | rfl | rfl | rfl
    · exact dt_leafC (leaf_of _) (Nat.le_trans (show _ ≤ 10 by decide +kernel) (by omega))
    · exact dt_leafC (leaf_of _) (Nat.le_trans (show _ ≤ 10 by decide +kernel) (by omega))
    · exact dt_leafC (leaf_of _) (Nat.le_trans (show _ ≤ 10 by decide +kernel) (by omega))
    · exact dt_leafC hza (by omega)
    · exact dt_leafC (leaf_of _) (Nat.le_trans (show _ ≤ 10 by decide +kernel) (by omega))
    · exact dt_leafC (decide_eq_true (lim_mono (show lim 1 1 by decide) (by omega))) (by simp [PyData.bulk])
    · exact dt_leafC (leaf_of _) (Nat.le_trans (show _ ≤ 10 by decide +kernel) (by omega))
  · generalize hzz : z ++ Str.ofString "a" = za at *
    simp [bn_s3, evSs, evS, evC, evCs, Bop.d, isiB, hd, lens, maskN, k1, A, ix]
theorem bent_int {W : Wd} {Fd : FSem} (hd : W.fn "_law_draw" = some ⟨2, [0], Fd⟩) (sd : SpDraw Fd) (cells : List Int) {k c n b : Nat} {t : T} {i : Int} (hk : k + 100 < 2 ^ 26) (ht : FeedOk cells k t) (hc1 : 100 ≤ c) (hc2 : c ≤ 200) (hz : DtC c n b (.int i)) (x2 x3 : Option T) :
    ∃ r t', FeedOk cells (k + 1) t' ∧ DtC (c + 1) (n + 2) (2 * b + 250) r ∧ evS W bn_s5 [some t, some (.leaf (.int i)), x2, x3, none, none, none] = .ok (.rt (.leaf r)) [some t', some (.leaf (.int i)), x2, x3, none, none, none] := by
  obtain ⟨r, t1, a1, b1, f1, k1⟩ := sd cells k t 8 (by omega) ht (by decide) (by decide)
  have li := numC hz.lv
  obtain ⟨P30, e30, h30⟩ : ∃ P, powD (.int 10) (.int 30) = some (.leaf (.int P)) ∧ P = 10 ^ 30 := ⟨_, rfl, by decide⟩
  have l30 : lim 100 P30 := by rw [h30]; decide
  clear h30
  have k2 := strOf_ok (by omega) li
  have hsl := shown_len (by omega) li
  have hsk := leaf_of (toString i)
  have bsa : (PyData.str (Str.ofString (toString i))).bulk ≤ c + 1 := by simpa [PyData.bulk] using hsl
  have l1 : lim c 1 := lim_mono (show lim 1 1 by decide) (by omega)
  have ln : lim c (-i) := by unfold lim at *; rw [Int.natAbs_neg]; exact li
  have bi : ∀ i : Int, (PyData.int i).bulk = 0 := fun _ => by simp [PyData.bulk]
  have hsC : leafC (c + 1) (.str (Str.ofString (toString i))) = true := hsk
  generalize PyData.str (Str.ofString (toString i)) = sa at *
  obtain ⟨x, hx, ix, _⟩ := ix_mem (ds := [.int (i + 1), .int (i - 1), .int 0, .bool (decide (i = 1)), sa, .none, .int (-i), .int P30]) (r := r) a1 (by simpa using b1)
  refine ⟨x, t1, f1, ?_, ?_⟩
  · simp only [List.mem_cons, List.not_mem_nil, or_false] at hx
    rcases hx with rfl | rfl | rfl | rfl | rfl | rfl | rfl | rfl
    · exact dt_leafC (decide_eq_true (lim_add li l1)) (by rw [bi]; omega)
    · exact dt_leafC (decide_eq_true (lim_sub li l1)) (by rw [bi]; omega)
    · exact dt_leafC (decide_eq_true (lim_mono (show lim 1 0 by decide) (by omega))) (by rw [bi]; omega)
    · exact dt_leafC rfl (by simp [PyData.bulk])
    · exact dt_leafC hsC (by omega)
    · exact dt_leafC rfl (by simp [PyData.bulk])
    · exact dt_leafC (decide_eq_true (lim_mono ln (by omega))) (by rw [bi]; omega)
    · exact dt_leafC (decide_eq_true (lim_mono l30 (by omega))) (by rw [bi]; omega)
  · simp [-IL.pow_int, bn_s5, evSs, evS, evC, evCs, Bop.d, Cop.d, Bif.d, hd, lens, maskN, k1, e30, k2, ix]
theorem bent_odd {W : Wd} {Fd : FSem} (hd : W.fn "_law_draw" = some ⟨2, [0], Fd⟩) (sd : SpDraw Fd) (cells : List Int) {k c n b : Nat} {t : T} {d : D} (hk : k + 100 < 2 ^ 26) (ht : FeedOk cells k t) (hc1 : 100 ≤ c) (hi : isiB .int d = false ∨ isiB .bool d = true) (x2 x3 : Option T) :
    ∃ r t', FeedOk cells (k + 1) t' ∧ DtC (c + 1) (n + 2) (2 * b + 250) r ∧ evS W bn_s4 [some t, some (.leaf d), x2, x3, none, none, none] = .ok (.rt (.leaf r)) [some t', some (.leaf d), x2, x3, none, none, none] := by
  obtain ⟨r, t1, a1, b1, f1, k1⟩ := sd cells k t 6 (by omega) ht (by decide) (by decide)
  obtain ⟨x, hx, ix, _⟩ := ix_mem (ds := [.int 0, .tuple [], .str "a", .int 1, .bool true, .none]) (r := r) a1 (by simpa using b1)
  have m1 : mkTup [] = .leaf (.tuple []) := rfl
  refine ⟨x, t1, f1, ?_, ?_⟩
  · simp only [List.mem_cons, List.not_mem_nil, or_false] at hx
    rcases hx with rfl | rfl | rfl | rfl | rfl | rfl
    · exact dt_leafC (decide_eq_true (lim_mono (show lim 1 0 by decide) (by omega))) (by simp [PyData.bulk])
    · exact ⟨.inr ⟨_, .inl rfl, fun _ h => nomatch h⟩, by simp [PyData.bulk, PyData.bulkAll]⟩
    · exact dt_leafC (leaf_of _) (Nat.le_trans (show _ ≤ 10 by decide +kernel) (by omega))
    · exact dt_leafC (decide_eq_true (lim_mono (show lim 1 1 by decide) (by omega))) (by simp [PyData.bulk])
    · exact dt_leafC rfl (by simp [PyData.bulk])
    · exact dt_leafC rfl (by simp [PyData.bulk])
  · by_cases h1 : isiB .int d = false
    · simp [bn_s4, evSs, evS, evC, evCs, h1, hd, lens, maskN, k1, ix, m1]
    · have h1 : isiB .int d = true := by
        cases hh : isiB .int d with
        | true => rfl
        | false => exact absurd hh h1
      have h2 : isiB .bool d = true := by
        rcases hi with h | h
        · rw [h1] at h; cases h
        · exact h
      simp [bn_s4, evSs, evS, evC, evCs, h1, h2, hd, lens, maskN, k1, ix, m1]
end Fc

namespace IL
open PySem PySem.Spec PyProof.Rows L2
theorem cut_dropS (ds : List D) (j : Nat) : cutD ds (some ((j : Int) + 1)) none = ds.drop (j + 1) := by
  by_cases h : j < ds.length
  · exact cut_drop1 ds j h
  · unfold cutD
    rw [show ((j : Int) + 1) = ((j + 1 : Nat) : Int) from rfl, HT.sIx_nat, HT.sIx_none, Nat.min_eq_right (by omega)]
    rw [List.drop_eq_nil_of_le (by omega : ds.length ≤ j + 1), List.drop_length]
    simp
end IL
namespace Fc
open PySem PySem.Spec PyProof.Rows L2 IL
theorem ne_tup_nil {ds : List D} (h : SeqAt.shaped (.tuple ds) = true) : neD (.tuple ds) (.tuple []) = some (.leaf (.bool (!ds.isEmpty))) := by
  have h2 : SeqAt.shaped (.tuple []) = true := by simp [SeqAt.shaped, PyData.canLay0, PyData.canLayAll0, PyData.depth, PyData.depthAll]
  cases ds with
  | nil => simp [neD, eqB, scalEq, bT, h2, PyData.eqv, PyData.eqvAll]
  | cons c r =>
    simp only [neD, eqB, scalEq, h, h2, bT]
    simp [PyData.eqv, PyData.eqvAll]
theorem bulkAll_rev : ∀ ds : List D, PyData.bulkAll ds.reverse = PyData.bulkAll ds
  | [] => rfl
  | x :: r => by rw [List.reverse_cons, bulkAll_append, bulkAll_rev r]; simp only [PyData.bulkAll]; omega
theorem cat_dt {c n b : Nat} {ls : List D} (h : ∀ x ∈ ls, LvC c n x) (hb : PyData.bulkAll ls ≤ b) : DtC c (n + 1) b (.tuple ls) := ⟨pt h, by rw [bulk_tup]; exact hb⟩
theorem bent_tup {W : Wd} {Fd : FSem} (hd : W.fn "_law_draw" = some ⟨2, [0], Fd⟩) (sd : SpDraw Fd) (cells : List Int) {k c n b : Nat} {t : T} {ds : List D} (hk : k + 100 < 2 ^ 26) (ht : FeedOk cells k t) (hb : b ≤ 4000) (hc1 : 100 ≤ c) (hz : DtC c n b (.tuple ds)) (x2 x3 : Option T) :
    ∃ r t' x4 x5 x6, FeedOk cells (k + 3) t' ∧ DtC (c + 1) (n + 2) (2 * b + 250) r ∧ evS W bn_s2 [some t, some (.leaf (.tuple ds)), x2, x3, none, none, none] = .ok (.rt (.leaf r)) [some t', some (.leaf (.tuple ds)), x2, x3, x4, x5, x6] := by
  obtain ⟨n', rfl, hit⟩ := lvc_tup hz.lv
  have hbk : PyData.bulkAll ds ≤ b := by have := hz.blk; rwa [bulk_tup] at this
  have hl := Nat.le_trans (bulkAll_len ds) hbk
  obtain ⟨r1, t1, a1, b1, f1, k1⟩ := sd cells k t ((ds.length : Int) + 1) (by omega) ht (by omega) (by omega)
  obtain ⟨j, rfl⟩ := Int.eq_ofNat_of_zero_le a1
  have hj : j ≤ ds.length := by omega
  obtain ⟨r2, t2, a2, b2, f2, k2⟩ := sd cells (k + 1) t1 8 (by omega) f1 (by decide) (by decide)
  obtain ⟨r3, t3, a3, b3, f3, k3⟩ := sd cells (k + 1 + 1) t2 6 (by omega) f2 (by decide) (by decide)
  obtain ⟨odd, ho, io, _⟩ := ix_mem (ds := [.int 0, .int (-1), .tuple [], .none, .bool true, .str "a", .tuple [.int 0, .int 1], .int 41]) (r := r2) a2 (by simpa using b2)
  have hodd : LvC c 1 odd ∧ odd.bulk ≤ 2 := by
    have q : ∀ i : Int, lim 10 i → LvC c 1 (.int i) ∧ (PyData.int i).bulk ≤ 2 := fun i h => ⟨.leaf (decide_eq_true (lim_mono h (by omega))), by simp [PyData.bulk]⟩
    simp only [List.mem_cons, List.not_mem_nil, or_false] at ho
    rcases ho with rfl | rfl | rfl | rfl | rfl | rfl | rfl | rfl
    · exact q 0 (by decide)
    · exact q (-1) (by decide)
    · exact ⟨.inr ⟨_, .inl rfl, fun _ h => nomatch h⟩, by simp [PyData.bulk, PyData.bulkAll]⟩
    · exact ⟨.leaf rfl, by simp [PyData.bulk]⟩
    · exact ⟨.leaf rfl, by simp [PyData.bulk]⟩
    · exact ⟨.leaf (leaf_of _), by decide +kernel⟩
    · refine ⟨.inr ⟨_, .inl rfl, fun w hw => ?_⟩, by simp [PyData.bulk, PyData.bulkAll]⟩
      simp only [List.mem_cons, List.not_mem_nil, or_false] at hw
      rcases hw with rfl | rfl
      · exact .leaf (decide_eq_true (lim_mono (show lim 1 0 by decide) (by omega)))
      · exact .leaf (decide_eq_true (lim_mono (show lim 1 1 by decide) (by omega)))
    · exact q 41 (by decide)
  have c1 := cut_take ds j hj
  have c2 := cut_drop ds j hj
  have c3 := cut_dropS ds j
  obtain ⟨l, c4, hls⟩ := cut_lastone ds
  have lt1 : (ds.take j).length ≤ ds.length := by rw [List.length_take]; omega
  have lt2 : (ds.drop j).length ≤ ds.length := by rw [List.length_drop]; omega
  have lt3 : (ds.drop (j + 1)).length ≤ ds.length := by rw [List.length_drop]; omega
  have lt4 : l.length ≤ ds.length := hls.length_le
  have s1 := bulkAll_split ds j
  have s3 := bulkAll_sub (List.drop_sublist (j + 1) ds)
  have s4 := bulkAll_sub hls
  have s5 := bulkAll_sub (List.take_sublist j ds)
  have s6 := bulkAll_rev ds
  have m1 : ∀ x ∈ ds.take j, x ∈ ds := fun x hx => List.mem_of_mem_take hx
  have m2 : ∀ x ∈ ds.drop j, x ∈ ds := fun x hx => List.mem_of_mem_drop hx
  have m3 : ∀ x ∈ ds.drop (j + 1), x ∈ ds := fun x hx => List.mem_of_mem_drop hx
  have m4 : ∀ x ∈ l, x ∈ ds := fun x hx => hls.subset hx
  have A1 := tup_add (a := ds.take j) (b := [odd]) (by simp; omega)
  have A2 := tup_add (a := ds.take j ++ [odd]) (b := ds.drop j) (by simp; omega)
  have A3 := tup_add (a := ds.take j) (b := ds.drop (j + 1)) (by omega)
  have A4 := tup_add (a := ds.take j ++ [odd]) (b := ds.drop (j + 1)) (by simp; omega)
  have A5 := tup_add (a := ds) (b := l) (by omega)
  have L1 : listD [.tuple ds] = some (.lst (ds.map .leaf)) := rfl
  have Z1 : frz (.lst (ds.map .leaf)) = .list ds := frz_lvs _
  have up : ∀ x ∈ ds, LvC (c + 1) (n' + 2) x := fun x hx => (hit x hx).up (by omega) (by omega)
  have hod : LvC (c + 1) (n' + 2) odd := hodd.1.up (by omega) (by omega)
  obtain ⟨tk, htk⟩ : ∃ tk, tk = ds.take j := ⟨_, rfl⟩
  obtain ⟨dj, hdj⟩ : ∃ dj, dj = ds.drop j := ⟨_, rfl⟩
  obtain ⟨dj1, hdj1⟩ : ∃ dj1, dj1 = ds.drop (j + 1) := ⟨_, rfl⟩
  rw [← htk] at c1 m1 A1 A2 A3 A4 s1 s5
  rw [← hdj] at c2 m2 A2 s1
  rw [← hdj1] at c3 m3 A3 A4 s3
  obtain ⟨x, hx, ixx, _⟩ := ix_mem (ds := [.tuple (tk ++ [odd] ++ dj), .tuple (tk ++ dj1), .tuple (tk ++ [odd] ++ dj1), .list ds, .tuple (ds ++ l), .tuple ds.reverse]) (r := r3) a3 (by simpa using b3)
  have B1 := lst_add (a := [.tuple (tk ++ [odd] ++ dj), .tuple (tk ++ dj1), .tuple (tk ++ [odd] ++ dj1)]) (b := [.list ds, .tuple (ds ++ l), .tuple ds.reverse]) (by simp)
  have app : ∀ {a b : List D}, (∀ x ∈ a, LvC (c + 1) (n' + 2) x) → (∀ x ∈ b, LvC (c + 1) (n' + 2) x) → ∀ x ∈ a ++ b, LvC (c + 1) (n' + 2) x := fun h1 h2 x hx => by
    rcases List.mem_append.mp hx with hx | hx
    · exact h1 x hx
    · exact h2 x hx
  have one : ∀ x ∈ [odd], LvC (c + 1) (n' + 2) x := fun x hx => by
    simp only [List.mem_cons, List.not_mem_nil, or_false] at hx
    subst hx
    exact hod
  refine ⟨x, t3, some (.leaf (.int j)), some (.leaf odd), some (.leaf (.list [.tuple (tk ++ [odd] ++ dj), .tuple (tk ++ dj1), .tuple (tk ++ [odd] ++ dj1)])), f3.mono (by omega), ?_, ?_⟩
  · have b2' := hodd.2
    simp only [List.mem_cons, List.not_mem_nil, or_false] at hx
    rcases hx with rfl | rfl | rfl | rfl | rfl | rfl
    · exact cat_dt (app (app (fun x h => up x (m1 x h)) one) fun x h => up x (m2 x h)) (by simp only [bulkAll_append, PyData.bulkAll]; omega)
    · exact cat_dt (app (fun x h => up x (m1 x h)) fun x h => up x (m3 x h)) (by simp only [bulkAll_append]; omega)
    · exact cat_dt (app (app (fun x h => up x (m1 x h)) one) fun x h => up x (m3 x h)) (by simp only [bulkAll_append, PyData.bulkAll]; omega)
    · exact ⟨.inr ⟨_, .inr rfl, up⟩, by rw [bulk_lst]; omega⟩
    · exact cat_dt (app up fun x h => up x (m4 x h)) (by simp only [bulkAll_append]; omega)
    · exact cat_dt (fun x h => up x (List.mem_reverse.mp h)) (by rw [s6]; omega)
  · have mk1 : ∀ d : D, mkTup [.leaf d] = .leaf (.tuple [d]) := fun _ => rfl
    have mk0 : mkTup [] = .leaf (.tuple []) := rfl
    have rv : revD (.tuple ds) = some (.leaf (.tuple ds.reverse)) := rfl
    have ti : isiB .tuple (.tuple ds) = true := rfl
    generalize ds.reverse = rs at *
    generalize T.lst (ds.map .leaf) = tl at *
    generalize tk ++ [odd] ++ dj = X1 at *
    generalize tk ++ dj1 = X2 at *
    generalize tk ++ [odd] ++ dj1 = X3 at *
    generalize tk ++ [odd] = X0 at *
    generalize ds ++ l = X4 at *
    generalize hlen : (ds.length : Int) = len at *
    generalize hji : (j : Int) = ji at *
    simp [bn_s2, evSs, evS, evC, evCs, evO, Bop.d, Bif.d, ti, hd, lens, maskN, hlen, k1, k2, io, c1, c2, c3, c4, mk0, mk1, A1, A2, A3, A4, A5, L1, Z1, rv, B1, k3, ixx]
theorem bent_step {W : Wd} {Fd : FSem} (hd : W.fn "_law_draw" = some ⟨2, [0], Fd⟩) (sd : SpDraw Fd) (m : Nat) (ih : SpBent m (fBent W m)) : SpBent (m + 1) (fBent W (m + 1)) := by
  intro cells k t n b c deep d hdm hn hb hc1 hc2 hk ht hp
  have hd' : (W.add "_law_bent" ⟨3, [0], fBent W m⟩).fn "_law_draw" = some ⟨2, [0], Fd⟩ := hd
  have hs' : (W.add "_law_bent" ⟨3, [0], fBent W m⟩).fn "_law_bent" = some ⟨3, [0], fBent W m⟩ := rfl
  show ∃ tr t', _ ∧ _ ∧ runM 7 3 [0] (evSs (W.add "_law_bent" ⟨3, [0], fBent W m⟩) c__law_bent) _ = _
  generalize W.add "_law_bent" ⟨3, [0], fBent W m⟩ = V at *
  obtain ⟨w, t1, w0, w1, f1, k1⟩ := sd cells k t 9 (by omega) ht (by decide) (by decide)
  obtain ⟨di, hdi⟩ : ∃ di : Int, di = deep := ⟨_, rfl⟩
  rw [← hdi]
  have g0 : evS V bn_s0 [some t, some (.leaf d), some (.leaf (.int di)), none, none, none, none] = .ok .nx [some t1, some (.leaf d), some (.leaf (.int di)), some (.leaf (.int w)), none, none, none] := by
    simp [bn_s0, evS, evC, evCs, hd', lens, k1, maskN]
  have fin : ∀ (r t' : T) (e' : En), evSs V bn_r1 [some t1, some (.leaf d), some (.leaf (.int di)), some (.leaf (.int w)), none, none, none] = .ok (.rt r) (some t' :: e') → 2 ≤ e'.length → FeedOk cells (k + 4 * (deep + 1)) t' → DtC (c + 1) (n + 2) (2 * b + 250) (frz r) → ∃ tr t', FeedOk cells (k + 4 * (deep + 1)) t' ∧ DtC (c + 1) (n + 2) (2 * b + 250) (frz tr) ∧ runM 7 3 [0] (evSs V c__law_bent) [t, .leaf d, .leaf (.int di)] = some (tr, [some t', none, none]) := by
    intro r t' e' h1 h2 h3 h4
    refine ⟨r, t', h3, h4, run_lent3 ?_ h2⟩
    rw [bn_eq, step (c := bn_r0) rfl g0]
    exact h1
  by_cases htup : ∃ ds, d = .tuple ds
  · obtain ⟨ds, rfl⟩ := htup
    have hsh : SeqAt.shaped (.tuple ds) = true := Fine.shaped (Dt.big ((hp.plain (by omega)).mono (by omega) (by omega)))
    have q1 := ne_tup_nil hsh
    have ti : isiB .tuple (.tuple ds) = true := rfl
    by_cases hA : ds ≠ [] ∧ 0 < deep ∧ 1 < w
    · obtain ⟨hne, hdp, hw⟩ := hA
      obtain ⟨n', rfl, hit⟩ := lvc_tup hp.lv
      have hbk : PyData.bulkAll ds ≤ b := by have := hp.blk; rwa [bulk_tup] at this
      have hl := Nat.le_trans (bulkAll_len ds) hbk
      have hlen : 0 < ds.length := List.length_pos_iff.mpr hne
      have hne' : ds.isEmpty = false := by simpa using hne
      rw [hne'] at q1
      obtain ⟨r, t3, a3, b3, f3, k3⟩ := sd cells (k + 1) t1 ds.length (by omega) f1 (by omega) (by omega)
      obtain ⟨j, rfl⟩ := Int.eq_ofNat_of_zero_le a3
      have hj : j < ds.length := by omega
      obtain ⟨x, hx, _, ixx⟩ := ix_mem (ds := ds) (r := (j : Int)) (by omega) (by omega)
      have ej : ds[j]? = some x := by
        have N1 : ixN ds.length (j : Int) = some j := by simp [ixN, hj]
        have := ixx
        simpa [ixD, L2.atI, N1] using this
      have hat := bulkAll_at ej
      have hbx := bulkAll_mem hx
      obtain ⟨dq, hdq⟩ : ∃ dq, deep = dq + 1 := ⟨deep - 1, by omega⟩
      have hdq2 : di - 1 = (dq : Int) := by omega
      obtain ⟨tr, t4, f4, p4, k4⟩ := ih cells (k + 2) t3 n' x.bulk c dq x (by omega) (by omega) (by omega) hc1 hc2 (by omega) f3 ⟨hit x hx, Nat.le_refl _⟩
      have c1 := cut_take ds j (by omega)
      have c3 := cut_dropS ds j
      have lt1 : (ds.take j).length ≤ ds.length := by rw [List.length_take]; omega
      have lt3 : (ds.drop (j + 1)).length ≤ ds.length := by rw [List.length_drop]; omega
      have A1 := tup_add (a := ds.take j) (b := [frz tr]) (by simp; omega)
      have A2 := tup_add (a := ds.take j ++ [frz tr]) (b := ds.drop (j + 1)) (by simp; omega)
      have hfm := frz_mkTup [tr]
      simp only [List.map_cons, List.map_nil] at hfm
      have hdi0 : 0 < di := by omega
      rw [← hdq2] at k4
      have hp4b := p4.blk
      have up : ∀ x ∈ ds, LvC (c + 1) (n' + 2) x := fun x hx => (hit x hx).up (by omega) (by omega)
      refine fin (.leaf (.tuple (ds.take j ++ [frz tr] ++ ds.drop (j + 1)))) t4 [some (.leaf (.tuple ds)), some (.leaf (.int di)), some (.leaf (.int w)), some (.leaf (.int j)), none, none] ?_ (by simp) (f4.mono (by omega)) ?_
      · refine stop (c := bn_r1) rfl ?_
        have m1 : ∀ x ∈ ds.take j, x ∈ ds := fun x hx => List.mem_of_mem_take hx
        generalize ds.take j ++ [frz tr] ++ ds.drop (j + 1) = X2 at *
        generalize ds.take j ++ [frz tr] = X1 at *
        generalize ds.take j = tk at *
        generalize ds.drop (j + 1) = dj at *
        generalize hln : (ds.length : Int) = len at *
        have mk0 : mkTup [] = .leaf (.tuple []) := rfl
        generalize hji : (j : Int) = ji at *
        simp [bn_s1, evSs, evS, evC, evCs, evO, Bop.d, Bif.d, Cop.d, ti, q1, hdi0, hw, hd', hs', lens, maskN, hln, k3, c1, c3, ixx, k4, hfm, A1, A2, mk0]
      · rw [frz_leaf]
        refine cat_dt (n := n' + 2) (fun y hy => ?_) (by simp only [bulkAll_append, PyData.bulkAll]; omega)
        rcases List.mem_append.mp hy with hy | hy
        · rcases List.mem_append.mp hy with hy | hy
          · exact up y (List.mem_of_mem_take hy)
          · simp only [List.mem_cons, List.not_mem_nil, or_false] at hy
            subst hy
            exact p4.lv
        · exact up y (List.mem_of_mem_drop hy)
    · have g1 : evS V bn_s1 [some t1, some (.leaf (.tuple ds)), some (.leaf (.int di)), some (.leaf (.int w)), none, none, none] = .ok .nx [some t1, some (.leaf (.tuple ds)), some (.leaf (.int di)), some (.leaf (.int w)), none, none, none] := by
        by_cases h1 : ds = []
        · subst h1
          simp only [List.isEmpty_nil] at q1
          simp [bn_s1, evSs, evS, evC, evCs, Cop.d, ti, mkTup, q1]
        · have hne' : ds.isEmpty = false := by simpa using h1
          rw [hne'] at q1
          have mk0 : mkTup [] = .leaf (.tuple []) := rfl
          by_cases h2 : 0 < di
          · have h3 : ¬ 1 < w := fun z => hA ⟨h1, by omega, z⟩
            simp [bn_s1, evSs, evS, evC, evCs, Cop.d, ti, mk0, q1, h2, h3]
          · simp [bn_s1, evSs, evS, evC, evCs, Cop.d, ti, mk0, q1, h2]
      obtain ⟨r, t2, x4, x5, x6, f2, p2, q2⟩ := bent_tup hd' sd cells (k := k + 1) (by omega) f1 hb hc1 hp (some (.leaf (.int di))) (some (.leaf (.int w)))
      refine fin (.leaf r) t2 [some (.leaf (.tuple ds)), some (.leaf (.int di)), some (.leaf (.int w)), x4, x5, x6] ?_ (by simp) (f2.mono (by omega)) (by rw [frz_leaf]; exact p2)
      rw [step (c := bn_r1) rfl g1]
      exact stop (c := bn_r2) rfl q2
  · have ti : isiB .tuple d = false := isi_not fun ds e => htup ⟨ds, e⟩
    have g1 : evS V bn_s1 [some t1, some (.leaf d), some (.leaf (.int di)), some (.leaf (.int w)), none, none, none] = .ok .nx [some t1, some (.leaf d), some (.leaf (.int di)), some (.leaf (.int w)), none, none, none] := by
      simp [bn_s1, evSs, evS, evC, evCs, ti]
    have g2 : evS V bn_s2 [some t1, some (.leaf d), some (.leaf (.int di)), some (.leaf (.int w)), none, none, none] = .ok .nx [some t1, some (.leaf d), some (.leaf (.int di)), some (.leaf (.int w)), none, none, none] := by
      simp [bn_s2, evSs, evS, evC, evCs, ti]
    by_cases hstr : ∃ z, d = .str z
    · obtain ⟨z, rfl⟩ := hstr
      obtain ⟨r, t2, f2, p2, q2⟩ := bent_str hd' sd cells (k := k + 1) (by omega) f1 hb hc1 hp (some (.leaf (.int di))) (some (.leaf (.int w)))
      refine fin (.leaf r) t2 [some (.leaf (.str z)), some (.leaf (.int di)), some (.leaf (.int w)), none, none, none] ?_ (by simp) (f2.mono (by omega)) (by rw [frz_leaf]; exact p2)
      rw [step (c := bn_r1) rfl g1, step (c := bn_r2) rfl g2]
      exact stop (c := bn_r3) rfl q2
    · have si : isiB .str d = false := by
        cases d with
        | str z => exact absurd ⟨z, rfl⟩ hstr
        | _ => rfl
      have g3 : evS V bn_s3 [some t1, some (.leaf d), some (.leaf (.int di)), some (.leaf (.int w)), none, none, none] = .ok .nx [some t1, some (.leaf d), some (.leaf (.int di)), some (.leaf (.int w)), none, none, none] := by
        simp [bn_s3, evSs, evS, evC, evCs, si]
      by_cases hint : ∃ i, d = .int i
      · obtain ⟨i, rfl⟩ := hint
        have i1 : isiB .int (.int i) = true := rfl
        have i2 : isiB .bool (.int i) = false := rfl
        have g4 : evS V bn_s4 [some t1, some (.leaf (.int i)), some (.leaf (.int di)), some (.leaf (.int w)), none, none, none] = .ok .nx [some t1, some (.leaf (.int i)), some (.leaf (.int di)), some (.leaf (.int w)), none, none, none] := by
          simp [bn_s4, evSs, evS, evC, evCs, i1, i2]
        obtain ⟨r, t2, f2, p2, q2⟩ := bent_int hd' sd cells (k := k + 1) (by omega) f1 hc1 hc2 hp (some (.leaf (.int di))) (some (.leaf (.int w)))
        refine fin (.leaf r) t2 [some (.leaf (.int i)), some (.leaf (.int di)), some (.leaf (.int w)), none, none, none] ?_ (by simp) (f2.mono (by omega)) (by rw [frz_leaf]; exact p2)
        rw [step (c := bn_r1) rfl g1, step (c := bn_r2) rfl g2, step (c := bn_r3) rfl g3, step (c := bn_r4) rfl g4]
        exact stop (c := bn_r5) rfl q2
      · have hi : isiB .int d = false ∨ isiB .bool d = true := by
          cases d with
          | int i => exact absurd ⟨i, rfl⟩ hint
          | bool b => exact .inr rfl
          | _ => exact .inl rfl
        obtain ⟨r, t2, f2, p2, q2⟩ := bent_odd (n := n) (b := b) hd' sd cells (k := k + 1) (by omega) f1 hc1 hi (some (.leaf (.int di))) (some (.leaf (.int w)))
        refine fin (.leaf r) t2 [some (.leaf d), some (.leaf (.int di)), some (.leaf (.int w)), none, none, none] ?_ (by simp) (f2.mono (by omega)) (by rw [frz_leaf]; exact p2)
        rw [step (c := bn_r1) rfl g1, step (c := bn_r2) rfl g2, step (c := bn_r3) rfl g3]
        exact stop (c := bn_r4) rfl q2
theorem bent_all {W : Wd} {Fd : FSem} (hd : W.fn "_law_draw" = some ⟨2, [0], Fd⟩) (sd : SpDraw Fd) : ∀ m, SpBent m (fBent W m)
  | 0 => fun _ _ _ _ _ _ _ _ h => absurd h (by omega)
  | m + 1 => bent_step hd sd m (bent_all hd sd m)
end Fc

namespace IL
open PySem PySem.Spec PyProof.Rows L2
/-- a loop that is left where a step fails -/
def runB {α : Type} (step : α → D → Option α) : α → List D → Bool
  | _, [] => true
  | a, d :: r => match step a d with
    | some a' => runB step a' r
    | none => false
theorem gFor_run {α : Type} {bd : D → M Unit} {b : M Fl} (step : α → D → Option α) (Inv : Nat → α → En → Prop) (r : T) : ∀ (ds : List D) (k : Nat) (a : α) (e : En), Inv k a e →
    (∀ i a d e, i < k + ds.length → d ∈ ds → Inv i a e → ∃ e', (∀ a', step a d = some a' → (bnd (bd d) fun _ => b) e = .ok .nx e' ∧ Inv (i + 1) a' e') ∧ (step a d = none → (bnd (bd d) fun _ => b) e = .ok (.rt r) e')) →
    ∃ e', gFor bd b ds e = .ok (if runB step a ds = true then .nx else .rt r) e'
  | [], k, a, e, h, _ => ⟨e, rfl⟩
  | d :: ds, k, a, e, h, st => by
    obtain ⟨e1, h1, h2⟩ := st k a d e (by simp) List.mem_cons_self h
    cases hp : step a d with
    | none =>
      have h3 := h2 hp
      refine ⟨e1, ?_⟩
      have e9 : runB step a (d :: ds) = false := by simp only [runB, hp]
      rw [e9]
      unfold gFor
      unfold bnd at h3 ⊢
      split at h3
      · rename_i x e3 q
        have q2 : b e3 = .ok (.rt r) e1 := h3
        simp only [q2]
        rfl
      · cases h3
      · cases h3
    | some a' =>
      obtain ⟨h3, i3⟩ := h1 a' hp
      obtain ⟨e2, k1⟩ := gFor_run step Inv r ds (k + 1) a' e1 i3 fun i a d e hi hd hI => st i a d e (by simp; omega) (List.mem_cons_of_mem _ hd) hI
      have e9 : runB step a (d :: ds) = runB step a' ds := by simp only [runB, hp]
      refine ⟨e2, ?_⟩
      rw [e9, ← k1]
      conv => lhs; unfold gFor
      unfold bnd at h3 ⊢
      split at h3
      · rename_i x e3 q
        have q2 : b e3 = .ok .nx e1 := h3
        simp only [q2]
      · cases h3
      · cases h3
end IL
namespace Fc
open PySem PySem.Spec PyProof.Rows L2 IL
def nmS : D → Str
  | .tuple (.str x :: _) => x
  | _ => ""
def prS : D → Str
  | .tuple (_ :: .str y :: _) => y
  | _ => ""
def stepN (ks : List Str) (d : D) : Option (List Str) := if nmS d ∈ ks ∨ prS d ∉ ks then none else some (ks ++ [nmS d])
def treeB : D → Bool
  | .tuple ds => ds.all nodeB && runB stepN [("" : Str)] ds
  | _ => false
theorem node_shape {d : D} (h : nodeB d = true) : ∃ x y r, d = .tuple (.str x :: .str y :: r) ∧ r.length = 6 := by
  unfold nodeB at h
  split at h
  · rename_i a b c d e f g i
    simp only [Bool.and_eq_true] at h
    have h1 := h.1.1.1.1.1.1
    have h2 := h.1.1.1.1.1.2
    cases a with
    | str x =>
      cases b with
      | str y => exact ⟨x, y, _, rfl, rfl⟩
      | _ => cases h2
    | _ => cases h1
  · cases h
def kvN (ks : List Str) : List (Key × T) := ks.map fun k => (.inr k, .leaf (.bool true))
theorem val_kv (x : Str) : ∀ ks : List Str, (valT (kvN ks) (.inr x)).isSome = decide (x ∈ ks)
  | [] => rfl
  | k :: ks => by
    have ih := val_kv x ks
    by_cases h : k = x
    · subst h
      simp [kvN, valT]
    · have e : valT (kvN (k :: ks)) (.inr x) = valT (kvN ks) (.inr x) := by
        simp [kvN, valT, List.find?_cons, h]
      rw [e, ih]
      have h' : ¬ x = k := fun z => h z.symm
      simp [h']
theorem has_kv (x : Str) (ks : List Str) : hasT (.dct (kvN ks)) (.str x) = some (decide (x ∈ ks)) := by
  show some _ = _
  rw [val_kv]
theorem put_kv {x : Str} {ks : List Str} (h : x ∉ ks) : putT (kvN ks) (.inr x) (.leaf (.bool true)) = kvN (ks ++ [x]) := by
  have e : ((kvN ks).any fun kv => decide (kv.1 = .inr x)) = false := by
    rw [List.any_eq_false]
    intro q hq z
    have z := of_decide_eq_true z
    unfold kvN at hq
    obtain ⟨k, hk, rfl⟩ := List.mem_map.mp hq
    cases z
    exact h hk
  unfold putT
  rw [e]
  simp [kvN]
theorem it_turn {W : Wd} {x y : Str} {r : List D} {ks : List Str} (hr : r.length = 6) (hk : ks.length < most) (x0 x2 x3 x4 x5 : Option T) :
    ∃ e', (∀ a', stepN ks (.tuple (.str x :: .str y :: r)) = some a' → (bnd (evTg W (.tps (.cons (.nm 2) (.cons (.nm 3) (.star 4)))) (.tuple (.str x :: .str y :: r))) fun _ => evSs W it_b2_r0) [x0, some (.dct (kvN ks)), x2, x3, x4, x5] = .ok .nx e' ∧ e' = [x0, some (.dct (kvN a')), some (.leaf (.str x)), some (.leaf (.str y)), some (.leaf (.list r)), x5]) ∧ (stepN ks (.tuple (.str x :: .str y :: r)) = none → (bnd (evTg W (.tps (.cons (.nm 2) (.cons (.nm 3) (.star 4)))) (.tuple (.str x :: .str y :: r))) fun _ => evSs W it_b2_r0) [x0, some (.dct (kvN ks)), x2, x3, x4, x5] = .ok (.rt (.leaf (.bool false))) e') := by
  have u : ∀ g : List D → M Unit, unS 2 g (.tuple (.str x :: .str y :: r)) = g [.str x, .str y, .list r] := fun g => by
    show (if 2 ≤ (PyData.str x :: PyData.str y :: r).length ∧ (PyData.str x :: PyData.str y :: r).length ≤ most then g ((PyData.str x :: PyData.str y :: r).take 2 ++ [.list ((PyData.str x :: PyData.str y :: r).drop 2)]) else bad) = _
    rw [if_pos ⟨by simp, by simp [hr, most]⟩]
    rfl
  have h1 := has_kv x ks
  have h2 := has_kv y ks
  have l : (kvN ks).length < most := by simpa [kvN] using hk
  have es : stepN ks (.tuple (.str x :: .str y :: r)) = if x ∈ ks ∨ y ∉ ks then none else some (ks ++ [x]) := rfl
  rw [es]
  by_cases hx : x ∈ ks
  · refine ⟨[x0, some (.dct (kvN ks)), some (.leaf (.str x)), some (.leaf (.str y)), some (.leaf (.list r)), x5], fun a' h => by simp [hx] at h, fun _ => ?_⟩
    rw [decide_eq_true hx] at h1
    generalize kvN ks = kv at *
    simp [it_b2_r0, it_b2_s0, evSs, evS, evC, evCs, evTg, evTgs, tgN, u, gDin, peek, h1]
  · rw [decide_eq_false hx] at h1
    by_cases hy : y ∈ ks
    · refine ⟨[x0, some (.dct (kvN (ks ++ [x]))), some (.leaf (.str x)), some (.leaf (.str y)), some (.leaf (.list r)), x5], fun a' h => ?_, fun h => by simp [hx, hy] at h⟩
      rw [decide_eq_true hy] at h2
      simp [hx, hy] at h
      subst h
      have p := put_kv hx
      refine ⟨?_, rfl⟩
      generalize kvN (ks ++ [x]) = kv' at *
      generalize kvN ks = kv at *
      simp [it_b2_r0, it_b2_s0, it_b2_r1, it_b2_s1, it_b2_r2, evSs, evS, evC, evCs, evTg, evTgs, tgN, u, gDin, gDput, dputT, keyO, peek, held, h1, h2, l, p]
    · refine ⟨[x0, some (.dct (kvN ks)), some (.leaf (.str x)), some (.leaf (.str y)), some (.leaf (.list r)), x5], fun a' h => by simp [hx, hy] at h, fun _ => ?_⟩
      rw [decide_eq_false hy] at h2
      generalize kvN ks = kv at *
      simp [it_b2_r0, it_b2_s0, evSs, evS, evC, evCs, evTg, evTgs, tgN, u, gDin, peek, h1, h2]
theorem run_is_tree {W : Wd} {F : FSem} (hn : W.fn "is_node" = some ⟨1, [], F⟩) (sn : SpB nodeB F) : SpB treeB (runM n_is_tree.length 1 [] (evSs W c_is_tree)) := by
  intro d hd
  refine run_pure ?_
  rw [it_eq]
  cases d with
  | tuple ds =>
    have hl := pd_len hd
    have hc : ∀ y, evC W (.comp [5] (.nm 5) (.seq (.var 0)) .no (.call "is_node" (.val (.var 5) .nil))) [some (.leaf (.tuple ds)), none, none, none, none, y] = .ok (.lst ((ds.map fun d => PyData.bool (nodeB d)).map .leaf)) [some (.leaf (.tuple ds)), none, none, none, none, none] := by
      intro y
      obtain ⟨e', h1, y', rfl⟩ := comp_ok (W := W) (vs := [5]) (tg := .nm 5) (it := .seq (.var 0)) (t := .no) (el := (.call "is_node" (.val (.var 5) .nil))) (e := [some (.leaf (.tuple ds)), none, none, none, none, y]) (ds := ds) (fun _ => true) (fun d => .bool (nodeB d)) (fun e => ∃ y, e = [some (.leaf (.tuple ds)), none, none, none, none, y]) (e0 := [some (.leaf (.tuple ds)), none, none, none, none, y]) (by simp [evI, evC]) ⟨y, rfl⟩ (Nat.le_trans hl (by decide)) (by
        rintro d e hx ⟨y, rfl⟩
        refine ⟨[some (.leaf (.tuple ds)), none, none, none, none, some (.leaf d)], by simp [evTg, wipeE], _, by simp [evCond]; rfl, fun _ => ⟨[some (.leaf (.tuple ds)), none, none, none, none, some (.leaf d)], ?_, ⟨_, rfl⟩⟩, fun h => by cases h⟩
        have k2 := sn d (hd.item hx)
        simp [evC, evCs, hn, lens, k2])
      rw [h1]
      simp [wipeE]
    have ha := all_bools nodeB ds
    have hz : frz (.lst ((ds.map fun d => PyData.bool (nodeB d)).map .leaf)) = .list (ds.map fun d => PyData.bool (nodeB d)) := frz_lvs _
    have et : treeB (.tuple ds) = (ds.all nodeB && runB stepN [("" : Str)] ds) := rfl
    have g0 : evS W it_s0 [some (.leaf (.tuple ds)), none, none, none, none, none] = .ok (if ds.all nodeB = true then .nx else .rt (.leaf (.bool false))) [some (.leaf (.tuple ds)), none, none, none, none, none] := by
      unfold it_s0
      generalize IL.C.comp [5] (.nm 5) (.seq (.var 0)) .no (.call "is_node" (.val (.var 5) .nil)) = cc at *
      generalize T.lst ((ds.map fun d => PyData.bool (nodeB d)).map .leaf) = tt at *
      generalize (ds.map fun d => PyData.bool (nodeB d)) = bl at *
      generalize ds.all nodeB = B at *
      have ti : isiB .tuple (.tuple ds) = true := rfl
      cases B <;> simp [evSs, evS, evC, evCs, Cop.d, Bif.d, ti, hc, hz, ha]
    rw [et]
    show tell (evSs W it_r0) [some (.leaf (.tuple ds)), none, none, none, none, none] = _
    cases hB : ds.all nodeB with
    | false =>
      rw [hB] at g0
      unfold tell
      rw [show evSs W it_r0 [some (.leaf (.tuple ds)), none, none, none, none, none] = .ok (.rt (.leaf (.bool false))) [some (.leaf (.tuple ds)), none, none, none, none, none] from stop (c := it_r0) rfl g0]
      rfl
    | true =>
      rw [hB] at g0
      have g1 : evS W it_s1 [some (.leaf (.tuple ds)), none, none, none, none, none] = .ok .nx [some (.leaf (.tuple ds)), some (.dct (kvN [("" : Str)])), none, none, none, none] := by
        simp [it_s1, evS, evC, gDlit, kvN]
      obtain ⟨e', k⟩ := gFor_run (bd := evTg W (.tps (.cons (.nm 2) (.cons (.nm 3) (.star 4))))) (b := evSs W it_b2_r0) stepN (fun i ks e => ks.length = i + 1 ∧ ∃ x2 x3 x4, e = [some (.leaf (.tuple ds)), some (.dct (kvN ks)), x2, x3, x4, none]) (.leaf (.bool false)) ds 0 [("" : Str)] [some (.leaf (.tuple ds)), some (.dct (kvN [("" : Str)])), none, none, none, none] ⟨rfl, none, none, none, rfl⟩ (by
        rintro i ks d e hi hx ⟨hk, x2, x3, x4, rfl⟩
        obtain ⟨x, y, r, rfl, hr⟩ := node_shape (List.all_eq_true.mp hB d hx)
        obtain ⟨e1, h1, h2⟩ := it_turn (W := W) (x := x) (y := y) hr (ks := ks) (by have : (16002 : Nat) < most := by decide
                                                                                    omega) (some (.leaf (.tuple ds))) x2 x3 x4 none
        refine ⟨e1, fun a' ha' => ?_, h2⟩
        obtain ⟨h3, h4⟩ := h1 a' ha'
        refine ⟨h3, ?_, _, _, _, h4⟩
        have es : stepN ks (.tuple (.str x :: .str y :: r)) = if x ∈ ks ∨ y ∉ ks then none else some (ks ++ [x]) := rfl
        rw [es] at ha'
        split at ha'
        · cases ha'
        · cases ha'; simp [hk])
      have hi : evI W it_i2 [some (.leaf (.tuple ds)), some (.dct (kvN [("" : Str)])), none, none, none, none] = .ok ds [some (.leaf (.tuple ds)), some (.dct (kvN [("" : Str)])), none, none, none, none] := by
        simp [it_i2, evI, evC]
      have g2 : evS W it_s2 [some (.leaf (.tuple ds)), some (.dct (kvN [("" : Str)])), none, none, none, none] = .ok (if runB stepN [("" : Str)] ds = true then .nx else .rt (.leaf (.bool false))) e' := by
        simp only [it_s2_eq, evS]
        rw [ap_bnd, hi]
        exact k
      unfold tell
      rw [step (c := it_r0) rfl g0, step (c := it_r1) rfl g1]
      cases hR : runB stepN [("" : Str)] ds with
      | false =>
        rw [hR] at g2
        rw [show evSs W it_r2 [some (.leaf (.tuple ds)), some (.dct (kvN [("" : Str)])), none, none, none, none] = .ok (.rt (.leaf (.bool false))) e' from stop (c := it_r2) rfl g2]
        rfl
      | true =>
        rw [hR] at g2
        rw [step (c := it_r2) rfl g2]
        simp [it_r3, it_s3, it_r4, evSs, evS, evC]
  | _ => simp [tell, it_r0, it_s0, evSs, evS, evC, evCs, Cop.d, n_is_tree, isiB, treeB]
end Fc

namespace Fc
open PySem PySem.Spec PyProof.Rows L2 IL
theorem lv_str {n : Nat} {s : Str} (h : Lv n (.str s)) : leafOk (.str s) = true := by
  cases n with
  | zero => exact h
  | succ n =>
    rcases h with h | ⟨_, h | h, _⟩
    · exact h
    · cases h
    · cases h
theorem eqv_str (a b : Str) : PyData.eqv (.str a) (.str b) = decide (a = b) := by
  simp only [PyData.eqv]
  rw [Bool.eq_iff_iff]
  simp
theorem in_strs {x : Str} {ks : List Str} (hx : leafOk (.str x) = true) (hk : ∀ k ∈ ks, leafOk (.str k) = true) : inB (.str x) (.list (ks.map .str)) = some (decide (x ∈ ks)) := by
  have f := fine_all (n := 0) (ds := ks.map .str) fun d hd => by
    obtain ⟨k, hk', rfl⟩ := List.mem_map.mp hd
    exact fine_leaf (hk k hk')
  have fx := fine_all (n := 0) (ds := [.str x]) fun d hd => by
    simp only [List.mem_cons, List.not_mem_nil, or_false] at hd
    subst hd
    exact fine_leaf hx
  have h1 : SeqAt.shaped (.list (ks.map .str)) = true := by
    have e := f.2.2.2
    have e2 := f.1
    generalize ks.map PyData.str = L at *
    simp [SeqAt.shaped, PyData.canLay0, PyData.depth, e2]
    omega
  have h2 : SeqAt.shaped (.str x) = true := by
    have e := fx.1
    simp only [PyData.canLayAll0, Bool.and_true] at e
    simp [SeqAt.shaped, e, PyData.depth]
  have h3 : ((ks.map PyData.str).any fun z => PyData.eqv z (.str x)) = decide (x ∈ ks) := by
    rw [Bool.eq_iff_iff]
    simp [eqv_str]
  show (if (SeqAt.shaped (.str x) && SeqAt.shaped (.list (ks.map .str))) = true then some ((ks.map PyData.str).any fun z => PyData.eqv z (.str x)) else none) = _
  rw [h1, h2, h3]
  rfl
def strTs (ks : List Str) : T := .lst ((ks.map PyData.str).map .leaf)
theorem lit_turn {W : Wd} {x y : Str} {r : List D} {ks : List Str} (hx : leafOk (.str x) = true) (hy : leafOk (.str y) = true) (hks : ∀ k ∈ ks, leafOk (.str k) = true) (hk : ks.length < most) (x0 x2 : Option T) :
    ∃ e', (∀ a', stepN ks (.tuple (.str x :: .str y :: r)) = some a' → (bnd (evTg W (.nm 2) (.tuple (.str x :: .str y :: r))) fun _ => evSs W lit_b2_r0) [x0, some (strTs ks), x2] = .ok .nx e' ∧ e' = [x0, some (strTs a'), some (.leaf (.tuple (.str x :: .str y :: r)))]) ∧ (stepN ks (.tuple (.str x :: .str y :: r)) = none → (bnd (evTg W (.nm 2) (.tuple (.str x :: .str y :: r))) fun _ => evSs W lit_b2_r0) [x0, some (strTs ks), x2] = .ok (.rt (.leaf (.bool false))) e') := by
  have es : stepN ks (.tuple (.str x :: .str y :: r)) = if x ∈ ks ∨ y ∉ ks then none else some (ks ++ [x]) := rfl
  rw [es]
  have h1 : inD (.str x) (.list (ks.map .str)) = some (.leaf (.bool (decide (x ∈ ks)))) := by unfold inD; rw [in_strs hx hks]; rfl
  have h2 : ninD (.str y) (.list (ks.map .str)) = some (.leaf (.bool (!decide (y ∈ ks)))) := by unfold ninD; rw [in_strs hy hks]; rfl
  have i0 : ixD (.tuple (.str x :: .str y :: r)) (.int 0) = some (.str x) := ix_tup0 _ _
  have i1 : ixD (.tuple (.str x :: .str y :: r)) (.int 1) = some (.str y) := by
    have N1 : ixN (r.length + 1 + 1) 1 = some 1 := by simp [ixN]; omega
    simp [ixD, L2.atI, N1]
  have hz : frz (strTs ks) = .list (ks.map .str) := frz_lvs _
  by_cases hxk : x ∈ ks
  · refine ⟨[x0, some (strTs ks), some (.leaf (.tuple (.str x :: .str y :: r)))], fun a' h => by simp [hxk] at h, fun _ => ?_⟩
    rw [decide_eq_true hxk] at h1
    generalize strTs ks = kv at *
    generalize PyData.tuple (.str x :: .str y :: r) = tt at *
    simp [lit_b2_r0, lit_b2_s0, evSs, evS, evC, evCs, evTg, Cop.d, gCinv, peek, hz, onlyB, h1, i0]
  · rw [decide_eq_false hxk] at h1
    by_cases hyk : y ∈ ks
    · refine ⟨[x0, some (strTs (ks ++ [x])), some (.leaf (.tuple (.str x :: .str y :: r)))], fun a' h => ?_, fun h => by simp [hxk, hyk] at h⟩
      rw [decide_eq_true hyk] at h2
      simp [hxk, hyk] at h
      subst h
      refine ⟨?_, rfl⟩
      have e9 : strTs (ks ++ [x]) = .lst ((ks.map PyData.str).map .leaf ++ [.leaf (.str x)]) := by simp [strTs]
      rw [e9]
      have e8 : strTs ks = .lst ((ks.map PyData.str).map .leaf) := rfl
      rw [e8] at hz ⊢
      have hl : ((ks.map PyData.str).map T.leaf).length < most := by simpa using hk
      generalize (ks.map PyData.str).map T.leaf = A at *
      generalize PyData.tuple (.str x :: .str y :: r) = tt at *
      simp [-frz_lst, lit_b2_r0, lit_b2_s0, lit_b2_r1, lit_b2_s1, lit_b2_r2, evSs, evS, evC, evCs, evTg, Cop.d, gCinv, peek, hz, onlyB, h1, h2, i0, i1, hl]
    · refine ⟨[x0, some (strTs ks), some (.leaf (.tuple (.str x :: .str y :: r)))], fun a' h => by simp [hxk, hyk] at h, fun _ => ?_⟩
      rw [decide_eq_false hyk] at h2
      generalize strTs ks = kv at *
      generalize PyData.tuple (.str x :: .str y :: r) = tt at *
      simp [lit_b2_r0, lit_b2_s0, evSs, evS, evC, evCs, evTg, Cop.d, gCinv, peek, hz, onlyB, h1, h2, i0, i1]
theorem leaf_names {ds : List D} (hd : Pd (.tuple ds)) {x y : Str} {r : List D} (hx : PyData.tuple (.str x :: .str y :: r) ∈ ds) : leafOk (.str x) = true ∧ leafOk (.str y) = true := by
  have h := hd.item hx
  exact ⟨lv_str (h.item (x := .str x) (by simp)).lv, lv_str (h.item (x := .str y) (by simp)).lv⟩
theorem run_law_is_tree {W : Wd} {F : FSem} (hn : W.fn "_law_is_node" = some ⟨1, [], F⟩) (sn : SpB nodeB F) : SpB treeB (runM n__law_is_tree.length 1 [] (evSs W c__law_is_tree)) := by
  intro d hd
  refine run_pure ?_
  rw [lit_eq]
  cases d with
  | tuple ds =>
    have hl := pd_len hd
    have hc : ∀ y, evC W (.comp [2] (.nm 2) (.seq (.var 0)) (.so (.not (.call "_law_is_node" (.val (.var 2) .nil)))) (.var 2)) [some (.leaf (.tuple ds)), none, y] = .ok (.lst ((ds.filter fun d => !nodeB d).map .leaf)) [some (.leaf (.tuple ds)), none, none] := by
      intro y
      obtain ⟨e', h1, y', rfl⟩ := comp_ok (W := W) (vs := [2]) (tg := .nm 2) (it := .seq (.var 0)) (t := .so (.not (.call "_law_is_node" (.val (.var 2) .nil)))) (el := .var 2) (e := [some (.leaf (.tuple ds)), none, y]) (ds := ds) (fun d => !nodeB d) id (fun e => ∃ y, e = [some (.leaf (.tuple ds)), none, y]) (e0 := [some (.leaf (.tuple ds)), none, y]) (by simp [evI, evC]) ⟨y, rfl⟩ (Nat.le_trans hl (by decide)) (by
        rintro d e hx ⟨y, rfl⟩
        have k2 := sn d (hd.item hx)
        refine ⟨[some (.leaf (.tuple ds)), none, some (.leaf d)], by simp [evTg, wipeE], [some (.leaf (.tuple ds)), none, some (.leaf d)], ?_, fun _ => ⟨[some (.leaf (.tuple ds)), none, some (.leaf d)], by simp [evC], ⟨_, rfl⟩⟩, fun _ => ⟨_, rfl⟩⟩
        simp [evCond, evC, evCs, hn, lens, k2])
      rw [h1]
      simp [wipeE]
    have hsh : SeqAt.shaped (.list (ds.filter fun d => !nodeB d)) = true := Fine.shaped (Dt.big (dt_filter hd _))
    have q3 := ne_lst hsh
    have q4 : (ds.filter fun d => !nodeB d).isEmpty = ds.all nodeB := by
      rw [Bool.eq_iff_iff]
      simp
    rw [q4] at q3
    have hz : frz (.lst ((ds.filter fun d => !nodeB d).map .leaf)) = .list (ds.filter fun d => !nodeB d) := frz_lvs _
    have et : treeB (.tuple ds) = (ds.all nodeB && runB stepN [("" : Str)] ds) := rfl
    have g0 : evS W lit_s0 [some (.leaf (.tuple ds)), none, none] = .ok (if ds.all nodeB = true then .nx else .rt (.leaf (.bool false))) [some (.leaf (.tuple ds)), none, none] := by
      unfold lit_s0
      clear hsh q4
      generalize IL.C.comp [2] (.nm 2) (.seq (.var 0)) (.so (.not (.call "_law_is_node" (.val (.var 2) .nil)))) (.var 2) = cc at *
      generalize T.lst ((ds.filter fun d => !nodeB d).map .leaf) = tt at *
      generalize (ds.filter fun d => !nodeB d) = bl at *
      generalize ds.all nodeB = B at *
      have ti : isiB .tuple (.tuple ds) = true := rfl
      cases B <;> simp [evSs, evS, evC, evCs, Cop.d, Bif.d, ti, hc, hz, q3]
    rw [et]
    show tell (evSs W lit_r0) [some (.leaf (.tuple ds)), none, none] = _
    cases hB : ds.all nodeB with
    | false =>
      rw [hB] at g0
      unfold tell
      rw [show evSs W lit_r0 [some (.leaf (.tuple ds)), none, none] = .ok (.rt (.leaf (.bool false))) [some (.leaf (.tuple ds)), none, none] from stop (c := lit_r0) rfl g0]
      rfl
    | true =>
      rw [hB] at g0
      have g1 : evS W lit_s1 [some (.leaf (.tuple ds)), none, none] = .ok .nx [some (.leaf (.tuple ds)), some (strTs [("" : Str)]), none] := by
        simp [lit_s1, evS, evC, evCs, strTs]
      obtain ⟨e', k⟩ := gFor_run (bd := evTg W (.nm 2)) (b := evSs W lit_b2_r0) stepN (fun i ks e => (ks.length = i + 1 ∧ ∀ k ∈ ks, leafOk (.str k) = true) ∧ ∃ x2, e = [some (.leaf (.tuple ds)), some (strTs ks), x2]) (.leaf (.bool false)) ds 0 [("" : Str)] [some (.leaf (.tuple ds)), some (strTs [("" : Str)]), none] ⟨⟨rfl, fun k hk => by
          simp only [List.mem_cons, List.not_mem_nil, or_false] at hk
          subst hk
          decide +kernel⟩, none, rfl⟩ (by
        rintro i ks d e hi hx ⟨⟨hk, hks⟩, x2, rfl⟩
        obtain ⟨x, y, r, rfl, hr⟩ := node_shape (List.all_eq_true.mp hB d hx)
        obtain ⟨lx, ly⟩ := leaf_names hd hx
        have hlt : ks.length < most := Nat.lt_of_le_of_lt (show ks.length ≤ 16001 by omega) (by decide)
        obtain ⟨e1, h1, h2⟩ := lit_turn (W := W) (x := x) (y := y) (r := r) lx ly (ks := ks) hks hlt (some (.leaf (.tuple ds))) x2
        refine ⟨e1, fun a' ha' => ?_, h2⟩
        obtain ⟨h3, h4⟩ := h1 a' ha'
        refine ⟨h3, ?_, _, h4⟩
        have es : stepN ks (.tuple (.str x :: .str y :: r)) = if x ∈ ks ∨ y ∉ ks then none else some (ks ++ [x]) := rfl
        rw [es] at ha'
        split at ha'
        · cases ha'
        · cases ha'
          refine ⟨by simp [hk], fun k hk' => ?_⟩
          rcases List.mem_append.mp hk' with z | z
          · exact hks k z
          · simp only [List.mem_cons, List.not_mem_nil, or_false] at z
            subst z
            exact lx)
      have hi : evI W lit_i2 [some (.leaf (.tuple ds)), some (strTs [("" : Str)]), none] = .ok ds [some (.leaf (.tuple ds)), some (strTs [("" : Str)]), none] := by
        simp [lit_i2, evI, evC]
      have g2 : evS W lit_s2 [some (.leaf (.tuple ds)), some (strTs [("" : Str)]), none] = .ok (if runB stepN [("" : Str)] ds = true then .nx else .rt (.leaf (.bool false))) e' := by
        simp only [lit_s2_eq, evS]
        rw [ap_bnd, hi]
        exact k
      unfold tell
      rw [step (c := lit_r0) rfl g0, step (c := lit_r1) rfl g1]
      cases hR : runB stepN [("" : Str)] ds with
      | false =>
        rw [hR] at g2
        rw [show evSs W lit_r2 [some (.leaf (.tuple ds)), some (strTs [("" : Str)]), none] = .ok (.rt (.leaf (.bool false))) e' from stop (c := lit_r2) rfl g2]
        rfl
      | true =>
        rw [hR] at g2
        rw [step (c := lit_r2) rfl g2]
        simp [lit_r3, lit_s3, lit_r4, evSs, evS, evC]
  | _ => simp [tell, lit_r0, lit_s0, evSs, evS, evC, evCs, Cop.d, n__law_is_tree, isiB, treeB]
end Fc

namespace Fc
open PySem PySem.Spec PyProof.Rows L2 IL
theorem mk2 (a b : D) : mkTup [.leaf a, .leaf b] = .leaf (.tuple [a, b]) := rfl
def posB : D → Bool
  | .int i => decide (0 < i)
  | _ => false
def covB : D → Bool
  | .tuple [_, .tuple [.int c, .int d]] => decide (c = 1 ∧ d = 1)
  | _ => false
def sceneB : D → Bool
  | .tuple [a, b, c, t] => (posB a && posB b) && (pxB c && (covB c && treeB t))
  | _ => false
def SpCov (F : FSem) : Prop := ∀ a b c d : Int, F [.leaf (.tuple [fr a b, fr c d])] = some (.leaf (.bool (decide (c = 1 ∧ d = 1))), [none])
theorem run_is_covered {W : Wd} (wg : W.glb "WHOLE" = some (fr 1 1)) : SpCov (runM n_is_covered.length 1 [] (evSs W c_is_covered)) := by
  intro a b c d
  refine run_pure ?_
  have i1 : ixD (.tuple [fr a b, fr c d]) (.int 1) = some (fr c d) := rfl
  have q := eq_fr c d 1 1
  generalize fr c d = Y at *
  generalize fr 1 1 = O at *
  simp [tell, c_is_covered, evSs, evS, evC, evCs, Cop.d, n_is_covered, gGlb, wg, i1, q]
theorem px_shape {d : D} (h : pxB d = true) : ∃ a b c e : Int, d = .tuple [fr a b, fr c e] := by
  unfold pxB at h
  split at h
  · exact ⟨_, _, _, _, rfl⟩
  · cases h
theorem tup4 {d : D} (h : tupB 4 d = true) : ∃ a b c t, d = .tuple [a, b, c, t] := by
  cases d with
  | tuple ds =>
    simp only [tupB, decide_eq_true_eq] at h
    match ds, h with
    | [a, b, c, d], _ => exact ⟨a, b, c, d, rfl⟩
  | _ => cases h
theorem sceneB_not {d : D} (h : tupB 4 d = false) : sceneB d = false := by
  unfold sceneB
  split
  · simp [tupB] at h
  · rfl
theorem cut2 (a b c t : D) : cutD [a, b, c, t] none (some 2) = [a, b] := cut_take [a, b, c, t] 2 (by simp)
theorem pos_num (d : D) : posB d = (numB d && (match d with | .int i => decide (0 < i) | _ => false)) := by
  cases d <;> rfl
theorem run_is_scene {W : Wd} {F1 F2 F3 F4 F5 : FSem} (h1 : W.fn "is_tuple_of" = some ⟨2, [], F1⟩) (s1 : SpTup F1) (h2 : W.fn "is_number" = some ⟨1, [], F2⟩) (s2 : SpNum F2) (h3 : W.fn "is_pixel" = some ⟨1, [], F3⟩) (s3 : SpB pxB F3) (h4 : W.fn "is_covered" = some ⟨1, [], F4⟩) (s4 : SpCov F4) (h5 : W.fn "is_tree" = some ⟨1, [], F5⟩) (s5 : SpB treeB F5) : SpB sceneB (runM n_is_scene.length 1 [] (evSs W c_is_scene)) := by
  intro d hd
  refine run_pure ?_
  rw [isc_eq]
  have k1 : F1 [.leaf d, .leaf (.int 4)] = some (.leaf (.bool (tupB 4 d)), [none, none]) := s1 d 4
  show tell (evSs W isc_r0) [some (.leaf d), none] = _
  cases hn : tupB 4 d with
  | false =>
    rw [hn] at k1
    rw [sceneB_not hn]
    simp [tell, isc_r0, isc_s0, evSs, evS, evC, evCs, h1, lens, k1]
  | true =>
    rw [hn] at k1
    obtain ⟨a, b, c, t, rfl⟩ := tup4 hn
    have es : sceneB (.tuple [a, b, c, t]) = ((posB a && posB b) && (pxB c && (covB c && treeB t))) := rfl
    rw [es]
    have m3 := s3 c (hd.item (by simp))
    have m5 := s5 t (hd.item (by simp))
    have c2 := cut2 a b c t
    have i2 : ixD (.tuple [a, b, c, t]) (.int 2) = some c := rfl
    have i3 : ixD (.tuple [a, b, c, t]) (.int 3) = some t := rfl
    have m4 : pxB c = true → F4 [.leaf c] = some (.leaf (.bool (covB c)), [none]) := fun h => by
      obtain ⟨p, q, r, u, rfl⟩ := px_shape h
      exact s4 p q r u
    obtain ⟨TT, hTT⟩ : ∃ TT, TT = PyData.tuple [a, b, c, t] := ⟨_, rfl⟩
    have sl2 : slD TT none (some 2) = some (.leaf (.tuple [a, b])) := by rw [hTT]; show some (T.leaf (.tuple (cutD [a, b, c, t] none (some 2)))) = _; rw [c2]
    rw [← hTT] at k1 i2 i3 ⊢
    have hc : ∀ y, evC W (.comp [1] (.nm 1) (.seq (.sl (.var 0) .no (.so (.int 2)))) .no (.and (.call "is_number" (.val (.var 1) .nil)) (.cmp .gt (.var 1) (.int 0)))) [some (.leaf TT), y] = .ok (.lst (([a, b].map fun d => PyData.bool (posB d)).map .leaf)) [some (.leaf TT), none] := by
      intro y
      obtain ⟨e', h1', y', rfl⟩ := comp_ok (W := W) (vs := [1]) (tg := .nm 1) (it := .seq (.sl (.var 0) .no (.so (.int 2)))) (t := .no) (el := .and (.call "is_number" (.val (.var 1) .nil)) (.cmp .gt (.var 1) (.int 0))) (e := [some (.leaf TT), y]) (ds := [a, b]) (fun _ => true) (fun d => .bool (posB d)) (fun e => ∃ y, e = [some (.leaf TT), y]) (e0 := [some (.leaf TT), y]) (by simp [evI, evC, evO, sl2]) ⟨y, rfl⟩ (by simp [most]) (by
        rintro d e hx ⟨y, rfl⟩
        refine ⟨[some (.leaf TT), some (.leaf d)], by simp [evTg, wipeE], _, by simp [evCond]; rfl, fun _ => ⟨[some (.leaf TT), some (.leaf d)], ?_, ⟨_, rfl⟩⟩, fun h => by cases h⟩
        have k2 := s2 d
        cases d with
        | int i =>
          have e1 : numB (.int i) = true := rfl
          have e2 : posB (.int i) = decide (0 < i) := rfl
          rw [e1] at k2
          rw [e2]
          simp [evC, evCs, Cop.d, h2, lens, k2]
        | _ =>
          have k3 := k2
          simp only [numB] at k3
          simp [evC, evCs, h2, lens, k3, posB])
      rw [h1']
      simp [wipeE]
    have ha := all_bools posB [a, b]
    have hz : frz (.lst (([a, b].map fun d => PyData.bool (posB d)).map .leaf)) = .list ([a, b].map fun d => PyData.bool (posB d)) := frz_lvs _
    have hall : [a, b].all posB = (posB a && posB b) := by simp
    rw [hall] at ha
    have g0 : evS W isc_s0 [some (.leaf TT), none] = .ok (if (posB a && posB b) = true then .nx else .rt (.leaf (.bool false))) [some (.leaf TT), none] := by
      unfold isc_s0
      generalize IL.C.comp [1] (.nm 1) (.seq (.sl (.var 0) .no (.so (.int 2)))) .no (.and (.call "is_number" (.val (.var 1) .nil)) (.cmp .gt (.var 1) (.int 0))) = cc at *
      generalize T.lst (([a, b].map fun d => PyData.bool (posB d)).map .leaf) = tt at *
      generalize ([a, b].map fun d => PyData.bool (posB d)) = bl at *
      generalize (posB a && posB b) = B at *
      cases B <;> simp [evSs, evS, evC, evCs, Cop.d, Bif.d, h1, lens, k1, hc, hz, ha]
    clear hTT
    generalize (posB a && posB b) = B at *
    cases B with
    | false =>
      unfold tell
      rw [show evSs W isc_r0 [some (.leaf TT), none] = .ok (.rt (.leaf (.bool false))) [some (.leaf TT), none] from stop (c := isc_r0) rfl g0]
      rfl
    | true =>
      unfold tell
      rw [step (c := isc_r0) rfl g0]
      cases hp : pxB c with
      | false =>
        rw [hp] at m3
        simp [isc_r1, isc_s1, isc_r2, evSs, evS, evC, evCs, h3, lens, i2, m3]
      | true =>
        rw [hp] at m3
        have m4 := m4 hp
        generalize covB c = B2 at *
        cases B2 <;> simp [isc_r1, isc_s1, isc_r2, evSs, evS, evC, evCs, h3, h4, h5, lens, i2, i3, m3, m4, m5]
theorem run_law_is_scene {W : Wd} {F2 F3 F5 : FSem} (h2 : W.fn "_law_is_number" = some ⟨1, [], F2⟩) (s2 : SpNum F2) (h3 : W.fn "_law_is_pixel" = some ⟨1, [], F3⟩) (s3 : SpB pxB F3) (h5 : W.fn "_law_is_tree" = some ⟨1, [], F5⟩) (s5 : SpB treeB F5) : SpB sceneB (runM n__law_is_scene.length 1 [] (evSs W c__law_is_scene)) := by
  intro d hd
  refine run_pure ?_
  rw [lis_eq]
  show tell (evSs W lis_r0) [some (.leaf d), none] = _
  cases hn : tupB 4 d with
  | false =>
    rw [sceneB_not hn]
    cases d with
    | tuple ds =>
      have hl : ¬ ds.length = 4 := by simpa [tupB] using hn
      have hl' : ¬ (ds.length : Int) = 4 := by omega
      simp [tell, lis_r0, lis_s0, evSs, evS, evC, evCs, Cop.d, Bif.d, isiB, hl']
    | _ => simp [tell, lis_r0, lis_s0, evSs, evS, evC, evCs, Cop.d, isiB]
  | true =>
    obtain ⟨a, b, c, t, rfl⟩ := tup4 hn
    have es : sceneB (.tuple [a, b, c, t]) = ((posB a && posB b) && (pxB c && (covB c && treeB t))) := rfl
    rw [es]
    have m3 := s3 c (hd.item (by simp))
    have m5 := s5 t (hd.item (by simp))
    have c2 := cut2 a b c t
    have i2 : ixD (.tuple [a, b, c, t]) (.int 2) = some c := rfl
    have i3 : ixD (.tuple [a, b, c, t]) (.int 3) = some t := rfl
    have m4 : pxB c = true → ∃ Y, ixD c (.int 1) = some Y ∧ eqD Y (.tuple [.int 1, .int 1]) = some (.leaf (.bool (covB c))) := fun h => by
      obtain ⟨p, q, r, u, rfl⟩ := px_shape h
      exact ⟨fr r u, rfl, eq_fr r u 1 1⟩
    have ln : lenD [.tuple [a, b, c, t]] = some (.leaf (.int 4)) := rfl
    have ti : isiB .tuple (.tuple [a, b, c, t]) = true := rfl
    have hsub : Dt 40 16000 (.tuple [a, b]) := by
      obtain ⟨n', e, q1, q2⟩ := hd.tup
      refine (dt_tup (n := n') (b := 16000) (fun x hx => q1 x (by simp only [List.mem_cons, List.not_mem_nil, or_false] at hx ⊢; rcases hx with rfl | rfl <;> simp)) ?_).mono (by omega) (Nat.le_refl _)
      simp only [PyData.bulkAll] at q2 ⊢
      omega
    obtain ⟨TT, hTT⟩ : ∃ TT, TT = PyData.tuple [a, b, c, t] := ⟨_, rfl⟩
    have sl2 : slD TT none (some 2) = some (.leaf (.tuple [a, b])) := by rw [hTT]; show some (T.leaf (.tuple (cutD [a, b, c, t] none (some 2)))) = _; rw [c2]
    rw [← hTT] at i2 i3 ln ti ⊢
    have hc : ∀ y, evC W (.comp [1] (.nm 1) (.seq (.sl (.var 0) .no (.so (.int 2)))) (.so (.or (.not (.call "_law_is_number" (.val (.var 1) .nil))) (.cmp .lt (.var 1) (.int 1)))) (.var 1)) [some (.leaf TT), y] = .ok (.lst (([a, b].filter fun d => !posB d).map .leaf)) [some (.leaf TT), none] := by
      intro y
      obtain ⟨e', h1', y', rfl⟩ := comp_ok (W := W) (vs := [1]) (tg := .nm 1) (it := .seq (.sl (.var 0) .no (.so (.int 2)))) (t := .so (.or (.not (.call "_law_is_number" (.val (.var 1) .nil))) (.cmp .lt (.var 1) (.int 1)))) (el := .var 1) (e := [some (.leaf TT), y]) (ds := [a, b]) (fun d => !posB d) id (fun e => ∃ y, e = [some (.leaf TT), y]) (e0 := [some (.leaf TT), y]) (by simp [evI, evC, evO, sl2]) ⟨y, rfl⟩ (by simp [most]) (by
        rintro d e hx ⟨y, rfl⟩
        refine ⟨[some (.leaf TT), some (.leaf d)], by simp [evTg, wipeE], [some (.leaf TT), some (.leaf d)], ?_, fun _ => ⟨[some (.leaf TT), some (.leaf d)], by simp [evC], ⟨_, rfl⟩⟩, fun _ => ⟨_, rfl⟩⟩
        have k2 := s2 d
        cases d with
        | int i =>
          have e1 : numB (.int i) = true := rfl
          have e2 : posB (.int i) = decide (0 < i) := rfl
          rw [e1] at k2
          rw [e2]
          have e3 : decide (i < 1) = !decide (0 < i) := by
            rw [Bool.eq_iff_iff]
            simp
            omega
          simp [evCond, evC, evCs, Cop.d, h2, lens, k2]
          omega
        | _ =>
          have k3 := k2
          simp only [numB] at k3
          simp [evCond, evC, evCs, h2, lens, k3, posB])
      rw [h1']
      simp [wipeE]
    have q3 := ne_lst (Fine.shaped (Dt.big (dt_filter hsub fun d => !posB d)))
    have q4 : ([a, b].filter fun d => !posB d).isEmpty = (posB a && posB b) := by
      rw [Bool.eq_iff_iff]
      simp
    rw [q4] at q3
    have hz : frz (.lst (([a, b].filter fun d => !posB d).map .leaf)) = .list ([a, b].filter fun d => !posB d) := frz_lvs _
    have g0 : evS W lis_s0 [some (.leaf TT), none] = .ok .nx [some (.leaf TT), none] := by
      simp [lis_s0, evSs, evS, evC, evCs, Cop.d, Bif.d, ti, ln]
    have g1 : evS W lis_s1 [some (.leaf TT), none] = .ok (if (posB a && posB b) = true then .nx else .rt (.leaf (.bool false))) [some (.leaf TT), none] := by
      unfold lis_s1
      clear q4
      generalize IL.C.comp [1] (.nm 1) (.seq (.sl (.var 0) .no (.so (.int 2)))) (.so (.or (.not (.call "_law_is_number" (.val (.var 1) .nil))) (.cmp .lt (.var 1) (.int 1)))) (.var 1) = cc at *
      generalize T.lst (([a, b].filter fun d => !posB d).map .leaf) = tt at *
      generalize ([a, b].filter fun d => !posB d) = bl at *
      generalize (posB a && posB b) = B at *
      cases B <;> simp [evSs, evS, evC, evCs, Cop.d, Bif.d, hc, hz, q3]
    clear hTT q3 q4
    generalize (posB a && posB b) = B at *
    unfold tell
    rw [step (c := lis_r0) rfl g0]
    cases B with
    | false =>
      rw [show evSs W lis_r1 [some (.leaf TT), none] = .ok (.rt (.leaf (.bool false))) [some (.leaf TT), none] from stop (c := lis_r1) rfl g1]
      rfl
    | true =>
      rw [step (c := lis_r1) rfl g1]
      cases hp : pxB c with
      | false =>
        rw [hp] at m3
        simp [lis_r2, lis_s2, lis_r3, evSs, evS, evC, evCs, h3, lens, i2, m3]
      | true =>
        rw [hp] at m3
        obtain ⟨Y, y1, y2⟩ := m4 hp
        generalize covB c = B2 at *
        cases B2 <;> simp [lis_r2, lis_s2, lis_r3, evSs, evS, evC, evCs, Cop.d, mk2, h3, h5, lens, i2, i3, m3, y1, y2, m5]
end Fc

namespace Fc
open PySem PySem.Spec PyProof.Rows L2 IL
structure NodeOk (x : D) : Prop where
  it : ∃ nm nds, x = .tuple (nm :: nds) ∧ nds.length = 7 ∧ (∀ y ∈ nm :: nds, LvC 100 5 y) ∧ PyData.bulkAll (nm :: nds) ≤ 300 ∧ strOkD nm
theorem er_map (ps : List D) : ∀ j : Nat, (ps.map T.leaf).eraseIdx j = (ps.eraseIdx j).map T.leaf := by
  induction ps with
  | nil => intro j; rfl
  | cons p ps ih =>
    intro j
    cases j with
    | zero => rfl
    | succ j => simp [ih]
theorem er_mem {ps : List D} {x : D} : ∀ {j : Nat}, x ∈ ps.eraseIdx j → x ∈ ps := fun h => List.mem_of_mem_eraseIdx h
theorem ls_b0 {W : Wd} {Fd : FSem} (hd : W.fn "_law_draw" = some ⟨2, [0], Fd⟩) (sd : SpDraw Fd) (cells : List Int) {k : Nat} {t : T} (hk : k + 300 < 2 ^ 26) (ht : FeedOk cells k t) {ts : List D} (hts : ∀ x ∈ ts, NodeOk x) {ki : Int} (hki : ki = ts.length) (h6 : ts.length ≤ 6) (x1 x2 x3 x6 x7 : Option T) :
    ∃ pr t', strOkD pr ∧ FeedOk cells (k + 2) t' ∧ evS W ls_b2_s0 [some t, x1, x2, x3, some (.lst (ts.map .leaf)), some (.leaf (.int ki)), x6, x7] = .ok .nx [some t', x1, x2, x3, some (.lst (ts.map .leaf)), some (.leaf (.int ki)), some (.leaf pr), x7] := by
  have e0 : strOkD (.str "") := ⟨by decide +kernel, by decide +kernel⟩
  by_cases h0 : 0 < ki
  · obtain ⟨r, t1, a1, b1, f1, k1⟩ := sd cells k t 2 (by omega) ht (by decide) (by decide)
    by_cases hr : r = 0
    · subst hr
      obtain ⟨r2, t2, a2, b2, f2, k2⟩ := sd cells (k + 1) t1 ki (by omega) f1 h0 (by omega)
      obtain ⟨j, rfl⟩ := Int.eq_ofNat_of_zero_le a2
      have hj : j < ts.length := by omega
      have N : ixN (ts.map T.leaf).length (j : Int) = some j := by simp [ixN, hj]
      obtain ⟨nm, nds, e, l, q1, q2, q3⟩ := (hts ts[j] (List.getElem_mem hj)).it
      have at' : tIx (.lst (ts.map .leaf)) (.int (j : Int)) = some (.tuple (nm :: nds)) := by
        have g : (ts.map T.leaf)[j]? = some (.leaf (.tuple (nm :: nds))) := by simp [hj, e]
        simp only [tIx, L2.atI, N, Option.bind_some, g]
      have i0 : ixD (.tuple (nm :: nds)) (.int 0) = some nm := ix_tup0 _ _
      refine ⟨nm, t2, q3, f2.mono (by omega), ?_⟩
      generalize T.lst (ts.map .leaf) = A at *
      generalize (j : Int) = ji at *
      generalize PyData.tuple (nm :: nds) = TT at *
      simp [ls_b2_s0, evS, evC, evCs, Cop.d, h0, hd, lens, maskN, k1, k2, at', i0]
    · refine ⟨.str "", t1, e0, f1.mono (by omega), ?_⟩
      generalize T.lst (ts.map .leaf) = A at *
      simp [ls_b2_s0, evS, evC, evCs, Cop.d, h0, hd, lens, maskN, k1, hr]
  · refine ⟨.str "", t, e0, ht.mono (by omega), ?_⟩
    generalize T.lst (ts.map .leaf) = A at *
    simp [ls_b2_s0, evS, evC, evCs, Cop.d, h0]
theorem ls_b1 {W : Wd} {Fd Fn : FSem} (hd : W.fn "_law_draw" = some ⟨2, [0], Fd⟩) (sd : SpDraw Fd) (hn : W.fn "_law_node" = some ⟨4, [0], Fn⟩) (sn : SpNode Fn) (cells : List Int) {k : Nat} {t : T} (hk : k + 500 < 2 ^ 26) (ht : FeedOk cells k t) {ps ts : List D} (hps : ∀ x ∈ ps, strOkD x) (hp0 : 0 < ps.length) (hp6 : ps.length ≤ 6) (h6 : ts.length ≤ 6) (hts : ∀ x ∈ ts, NodeOk x) {pr : D} (hpr : strOkD pr) {w3 : Int} (hw : w3 = ((3 : Nat) : Int)) (x1 x5 x7 : Option T) :
    ∃ (ps' ts' : List D) (t' : T), ps'.length + 1 = ps.length ∧ (∀ x ∈ ps', strOkD x) ∧ ts'.length = ts.length + 1 ∧ (∀ x ∈ ts', NodeOk x) ∧ FeedOk cells (k + 160) t' ∧ evS W ls_b2_s1 [some t, x1, some (.leaf (.int w3)), some (.lst (ps.map .leaf)), some (.lst (ts.map .leaf)), x5, some (.leaf pr), x7] = .ok .nx [some t', x1, some (.leaf (.int w3)), some (.lst (ps'.map .leaf)), some (.lst (ts'.map .leaf)), x5, some (.leaf pr), x7] := by
  obtain ⟨li, hli⟩ : ∃ li : Int, li = ps.length := ⟨_, rfl⟩
  obtain ⟨r, t1, a1, b1, f1, k1⟩ := sd cells k t li (by omega) ht (by omega) (by omega)
  obtain ⟨j, hj'⟩ := Int.eq_ofNat_of_zero_le a1
  have hj : j < ps.length := by omega
  obtain ⟨nds, t2, l2, hh, it2, b2, f2, k2⟩ := sn cells (k + 1) t1 ps[j] pr 3 (by omega) f1 (hps _ (List.getElem_mem hj)) hpr (by decide) (by decide)
  rw [← hw] at k2
  have len1 : onlyI (lenD [frz (.lst (ps.map .leaf))]) = some (.leaf (.int li)) := by
    rw [show frz (.lst (ps.map .leaf)) = .list ps from frz_lvs _, hli]
    rfl
  have hm : (ps.map T.leaf).length ≤ most := by simp only [List.length_map]; exact Nat.le_trans hp6 (by decide)
  have N : ixN (ps.map T.leaf).length r = some j := by rw [hj']; simp [ixN, hj]
  have G : (ps.map T.leaf)[j]? = some (.leaf ps[j]) := by simp [hj]
  have E := er_map ps j
  have hl : (ts.map T.leaf).length < most := by simp only [List.length_map]; exact Nat.lt_of_le_of_lt h6 (by decide)
  obtain ⟨nm, r7, rfl⟩ : ∃ nm r7, nds = nm :: r7 := by
    cases nds with
    | nil => simp at l2
    | cons a b => exact ⟨a, b, rfl⟩
  have hnm : nm = ps[j] := by simpa using hh
  refine ⟨ps.eraseIdx j, ts ++ [.tuple (nm :: r7)], t2, by rw [List.length_eraseIdx]; simp [hj]; omega, fun x hx => hps x (er_mem hx), by simp, fun x hx => ?_, f2.mono (by omega), ?_⟩
  · rcases List.mem_append.mp hx with hx | hx
    · exact hts x hx
    · simp only [List.mem_cons, List.not_mem_nil, or_false] at hx
      subst hx
      exact ⟨nm, r7, rfl, by simpa using l2, it2, b2, hnm ▸ hps _ (List.getElem_mem hj)⟩
  · have e9 : T.lst ((ts ++ [PyData.tuple (nm :: r7)]).map .leaf) = .lst (ts.map .leaf ++ [.leaf (.tuple (nm :: r7))]) := by simp
    rw [e9, ← E]
    clear E e9 hnm hh
    generalize ps[j] = p at *
    generalize PyData.tuple (nm :: r7) = TT at *
    generalize ps.map T.leaf = P at *
    generalize ts.map T.leaf = A at *
    simp [-frz_lst, ls_b2_s1, evS, evC, evCs, hd, hn, lens, maskN, consL, held, gVlen, gPop, popT, peek, len1, k1, hm, N, G, k2, hl]
end Fc

namespace Fc
open PySem PySem.Spec PyProof.Rows L2 IL
def SpScene (F : FSem) : Prop := ∀ (cells : List Int) (k : Nat) (t : T), k + 5000 < 2 ^ 26 → FeedOk cells k t → ∃ (a b : Int) (back : D) (ts : List D) (t' : T), lim 100 a ∧ lim 100 b ∧ DtC 100 2 6 back ∧ ts.length ≤ 6 ∧ (∀ x ∈ ts, NodeOk x) ∧ FeedOk cells (k + 1200) t' ∧ F [t, .leaf (.int 6), .leaf (.int 3)] = some (.leaf (.tuple [.int a, .int b, back, .tuple ts]), [some t', none, none])
def pool0 : List D := [.str "a", .str "aa", .str "b", .str "cy", .str "root", .str "zzzzzzzz"]
theorem run_lscene {W : Wd} {Fd Fr Fn : FSem} (hd : W.fn "_law_draw" = some ⟨2, [0], Fd⟩) (sd : SpDraw Fd) (hr : W.fn "_law_frac" = some ⟨2, [], Fr⟩) (sr : SpFr Fr) (hn : W.fn "_law_node" = some ⟨4, [0], Fn⟩) (sn : SpNode Fn) : SpScene (runM n__law_scene.length 3 [0] (evSs W c__law_scene)) := by
  intro cells k t hk ht
  obtain ⟨n, t1, an, bn, f1, k1⟩ := sd cells k t 7 (by omega) ht (by decide) (by decide)
  obtain ⟨N, hN⟩ := Int.eq_ofNat_of_zero_le an
  have hN6 : N ≤ 6 := by omega
  have hp0 : ∀ x ∈ pool0, strOkD x := fun x hx => by
    simp only [pool0, List.mem_cons, List.not_mem_nil, or_false] at hx
    rcases hx with rfl | rfl | rfl | rfl | rfl | rfl <;> exact ⟨by decide +kernel, by decide +kernel⟩
  have g0 : evS W ls_s0 [some t, some (.leaf (.int 6)), some (.leaf (.int 3)), none, none, none, none, none] = .ok .nx [some t, some (.leaf (.int 6)), some (.leaf (.int 3)), some (.lst (pool0.map .leaf)), none, none, none, none] := by
    simp [ls_s0, evS, evC, evCs, pool0]
  have g1 : evS W ls_s1 [some t, some (.leaf (.int 6)), some (.leaf (.int 3)), some (.lst (pool0.map .leaf)), none, none, none, none] = .ok .nx [some t, some (.leaf (.int 6)), some (.leaf (.int 3)), some (.lst (pool0.map .leaf)), some (.lst (([] : List D).map .leaf)), none, none, none] := by
    generalize T.lst (pool0.map .leaf) = A
    simp [ls_s1, evS, evC, evCs]
  let Inv : Nat → En → Prop := fun i e => ∃ (t' : T) (ps ts : List D) (y5 y6 : Option T), FeedOk cells (k + 1 + 162 * i) t' ∧ ps.length + i = 6 ∧ (∀ x ∈ ps, strOkD x) ∧ ts.length = i ∧ (∀ x ∈ ts, NodeOk x) ∧ e = [some t', some (.leaf (.int 6)), some (.leaf (.int 3)), some (.lst (ps.map .leaf)), some (.lst (ts.map .leaf)), y5, y6, none]
  obtain ⟨e', q1, t', ps, ts, y5, y6, f', lp, pp, lt, tp, rfl⟩ := gFor_inv (bd := evTg W (.nm 5)) (b := evSs W ls_b2_r0) Inv (rangeL 0 N) 0 [some t1, some (.leaf (.int 6)), some (.leaf (.int 3)), some (.lst (pool0.map .leaf)), some (.lst (([] : List D).map .leaf)), none, none, none] ⟨t1, pool0, [], none, none, f1.mono (by omega), rfl, hp0, rfl, (fun _ h => nomatch h), rfl⟩ (by
    rintro i d e hi ⟨t3, ps, ts, y5, y6, f3, lp, pp, lt, tp, rfl⟩
    obtain ⟨hil, rfl⟩ := rg_at hi
    clear hi
    obtain ⟨z, hz⟩ : ∃ z : Int, z = 0 + (i : Int) := ⟨_, rfl⟩
    rw [← hz]
    obtain ⟨w3, hw⟩ : ∃ w3 : Int, w3 = ((3 : Nat) : Int) := ⟨_, rfl⟩
    obtain ⟨pr, t4, hpr, f4, q4⟩ := ls_b0 (W := W) hd sd cells (k := k + 1 + 162 * (0 + i)) (by omega) f3 tp (ki := z) (by omega) (by omega) (some (.leaf (.int 6))) (some (.leaf (.int 3))) (some (.lst (ps.map .leaf))) y6 none
    obtain ⟨ps2, ts2, t5, lp2, pp2, lt2, tp2, f5, q5⟩ := ls_b1 (W := W) hd sd hn sn cells (k := k + 1 + 162 * (0 + i) + 2) (by omega) f4 pp (by omega) (by omega) (by omega) tp hpr hw (some (.leaf (.int 6))) (some (.leaf (.int z))) none
    have hw' : w3 = 3 := hw
    rw [hw'] at q5
    refine ⟨[some t5, some (.leaf (.int 6)), some (.leaf (.int 3)), some (.lst (ps2.map .leaf)), some (.lst (ts2.map .leaf)), some (.leaf (.int z)), some (.leaf pr), none], ?_, t5, ps2, ts2, some (.leaf (.int z)), some (.leaf pr), by rw [show k + 1 + 162 * (0 + i + 1) = k + 1 + 162 * (0 + i) + 2 + 160 by omega]; exact f5, by omega, pp2, by omega, tp2, rfl⟩
    have run : evSs W ls_b2_r0 [some t3, some (.leaf (.int 6)), some (.leaf (.int 3)), some (.lst (ps.map .leaf)), some (.lst (ts.map .leaf)), some (.leaf (.int z)), y6, none] = .ok .nx [some t5, some (.leaf (.int 6)), some (.leaf (.int 3)), some (.lst (ps2.map .leaf)), some (.lst (ts2.map .leaf)), some (.leaf (.int z)), some (.leaf pr), none] := by
      rw [step (c := ls_b2_r0) rfl q4, step (c := ls_b2_r1) rfl q5]
      rfl
    rw [← run]
    generalize T.lst (ps.map .leaf) = A
    generalize T.lst (ts.map .leaf) = B
    simp [evTg])
  have lr : (rangeL 0 N).length = N := by simp [rangeL]
  rw [lr, Nat.zero_add] at f' lt
  have hrg := rng_c hN (by omega)
  have hi : evI W ls_i2 [some t, some (.leaf (.int 6)), some (.leaf (.int 3)), some (.lst (pool0.map .leaf)), some (.lst (([] : List D).map .leaf)), none, none, none] = .ok (rangeL 0 N) [some t1, some (.leaf (.int 6)), some (.leaf (.int 3)), some (.lst (pool0.map .leaf)), some (.lst (([] : List D).map .leaf)), none, none, none] := by
    generalize T.lst (pool0.map .leaf) = A
    generalize T.lst (([] : List D).map .leaf) = B
    simp [ls_i2, evI, gRng, evC, evCs, Bop.d, hd, lens, maskN, k1, hrg]
  have g2 : evS W ls_s2 [some t, some (.leaf (.int 6)), some (.leaf (.int 3)), some (.lst (pool0.map .leaf)), some (.lst (([] : List D).map .leaf)), none, none, none] = .ok .nx [some t', some (.leaf (.int 6)), some (.leaf (.int 3)), some (.lst (ps.map .leaf)), some (.lst (ts.map .leaf)), y5, y6, none] := by
    simp only [ls_s2_eq, evS]
    rw [ap_bnd, hi]
    exact q1
  obtain ⟨v, t6, a6, b6, f6, k6⟩ := sd cells (k + 1 + 162 * N) t' 17 (by omega) f' (by decide) (by decide)
  have lv := lim_small a6 (by omega)
  have kf := sr v 16 (by decide) (lim_mono lv (by decide)) (by decide)
  have dop := dt_fq (limQ_divInt (by decide) lv (show lim 100 16 by decide))
  simp only [lf2, nn] at kf
  generalize fq (Rat.divInt v 16) = OP at *
  obtain ⟨w, t7, a7, b7, f7, k7⟩ := sd cells (k + 1 + 162 * N + 1) t6 8 (by omega) f6 (by decide) (by decide)
  obtain ⟨h, t8, a8, b8, f8, k8⟩ := sd cells (k + 1 + 162 * N + 1 + 1) t7 6 (by omega) f7 (by decide) (by decide)
  have mk4 : ∀ a b c d : D, mkTup [.leaf a, .leaf b, .leaf c, .leaf d] = .leaf (.tuple [a, b, c, d]) := fun _ _ _ _ => rfl
  have hz : frz (.lst (ts.map .leaf)) = .list ts := frz_lvs _
  have t1' : tupleD [.list ts] = some (.leaf (.tuple ts)) := rfl
  refine ⟨1 + w, 1 + h, .tuple [OP, .tuple [.int 1, .int 1]], ts, t8, lim_small (by omega) (by omega), lim_small (by omega) (by omega), ⟨lv_seq fun x hx => ?_, ?_⟩, by omega, tp, f8.mono (by omega), run_lent3g (e' := [some (.leaf (.int 6)), some (.leaf (.int 3)), some (.lst (ps.map .leaf)), some (.leaf (.list ts)), y5, y6, some (.leaf (.tuple [OP, .tuple [.int 1, .int 1]]))]) ?_ (by simp)⟩
  · simp only [List.mem_cons, List.not_mem_nil, or_false] at hx
    rcases hx with rfl | rfl
    · exact dop.lv
    · exact lv_seq fun y hy => by
        simp only [List.mem_cons, List.not_mem_nil, or_false] at hy
        rcases hy with rfl | rfl <;> exact lv_i (by decide)
  · have := dop.blk
    simp only [PyData.bulk, PyData.bulkAll]
    omega
  · show evSs W c__law_scene [some t, some (.leaf (.int 6)), some (.leaf (.int 3)), none, none, none, none, none] = _
    have g3 : evS W ls_s3 [some t', some (.leaf (.int 6)), some (.leaf (.int 3)), some (.lst (ps.map .leaf)), some (.lst (ts.map .leaf)), y5, y6, none] = .ok .nx [some t6, some (.leaf (.int 6)), some (.leaf (.int 3)), some (.lst (ps.map .leaf)), some (.lst (ts.map .leaf)), y5, y6, some (.leaf (.tuple [OP, .tuple [.int 1, .int 1]]))] := by
      generalize T.lst (ps.map .leaf) = A
      generalize T.lst (ts.map .leaf) = B
      simp [ls_s3, evS, evC, evCs, hd, hr, lens, maskN, k6, kf, mk2]
    rw [ls_eq, step (c := ls_r0) rfl g0, step (c := ls_r1) rfl g1, step (c := ls_r2) rfl g2, step (c := ls_r3) rfl g3]
    generalize T.lst (ps.map .leaf) = A
    generalize T.lst (ts.map .leaf) = B at *
    simp [ls_r4, ls_s4, ls_r5, evSs, evS, evC, evCs, Bop.d, Bif.d, hd, lens, maskN, k7, k8, hz, t1', mk4]
end Fc

namespace Fc
open PySem PySem.Spec PyProof.Rows L2 IL
def LT : D := .str "abcdefghij"
def nameK (k : Int) : Option (D × D × D × D × D) := match fdvD (.int k) (.int 10), modD (.int k) (.int 10) with
  | some (.leaf q), some (.leaf r) => (match ixD LT q, ixD LT r with
    | some a, some b => (match addD a b with
      | some (.leaf d) => some (q, r, a, b, d)
      | _ => none)
    | _, _ => none)
  | _, _ => none
def nameKB (k : Int) : Bool := match nameK k with
  | some (_, _, _, _, d) => leafC 100 d && decide (d.bulk ≤ 2)
  | none => false
theorem nameK_all : (List.range 100).all (fun k => nameKB (k : Nat)) = true := by decide +kernel
theorem nameK_eq {k : Int} {q r a b d : D} (h : nameK k = some (q, r, a, b, d)) : fdvD (.int k) (.int 10) = some (.leaf q) ∧ modD (.int k) (.int 10) = some (.leaf r) ∧ ixD LT q = some a ∧ ixD LT r = some b ∧ addD a b = some (.leaf d) := by
  unfold nameK at h
  split at h
  · split at h
    · split at h
      · cases h
        exact ⟨by assumption, by assumption, by assumption, by assumption, by assumption⟩
      · cases h
    · cases h
  · cases h
theorem name_at {k : Nat} (hk : k < 100) : ∃ q r a b d, nameK (k : Int) = some (q, r, a, b, d) ∧ leafC 100 d = true ∧ d.bulk ≤ 2 := by
  have h := List.all_eq_true.mp nameK_all k (by simpa using hk)
  unfold nameKB at h
  split at h
  · rename_i q r a b d e
    rw [Bool.and_eq_true, decide_eq_true_eq] at h
    exact ⟨q, r, a, b, d, e, h.1, h.2⟩
  · cases h
def LongOk (x : D) : Prop := ∃ nm r, x = .tuple (nm :: r) ∧ LvC 100 2 x ∧ x.bulk ≤ 16 ∧ leafC 100 nm = true ∧ nm.bulk ≤ 2
def SpLong (F : FSem) : Prop := ∀ (cells : List Int) (k : Nat) (t : T), k + 5000 < 2 ^ 26 → FeedOk cells k t → ∃ (ts : List D) (t' : T), ts.length = 100 ∧ (∀ x ∈ ts, LongOk x) ∧ FeedOk cells (k + 100) t' ∧ F [t] = some (.leaf (.tuple ts), [some t'])
theorem lg_turn {W : Wd} {Fd : FSem} (hd : W.fn "_law_draw" = some ⟨2, [0], Fd⟩) (sd : SpDraw Fd) (cells : List Int) {k : Nat} {t : T} (hk : k + 300 < 2 ^ 26) (ht : FeedOk cells k t) {ts : List D} (hts : ∀ x ∈ ts, LongOk x) {i : Nat} (hi : i < 100) (hl : ts.length = i) {ki : Int} (hki : ki = i) (y4 : Option T) :
    ∃ (ts' : List D) (t' : T) (z4 : Option T), ts'.length = i + 1 ∧ (∀ x ∈ ts', LongOk x) ∧ FeedOk cells (k + 1) t' ∧ evSs W lg_b2_r0 [some t, some (.leaf LT), some (.lst (ts.map .leaf)), some (.leaf (.int ki)), y4] = .ok .nx [some t', some (.leaf LT), some (.lst (ts'.map .leaf)), some (.leaf (.int ki)), z4] := by
  obtain ⟨pr, t1, hp1, hp2, f1, g0⟩ : ∃ pr t1, leafC 100 pr = true ∧ pr.bulk ≤ 2 ∧ FeedOk cells (k + 1) t1 ∧ evS W lg_b2_s0 [some t, some (.leaf LT), some (.lst (ts.map .leaf)), some (.leaf (.int ki)), y4] = .ok .nx [some t1, some (.leaf LT), some (.lst (ts.map .leaf)), some (.leaf (.int ki)), some (.leaf pr)] := by
    have e1 : leafC 100 (.str "") = true := by decide +kernel
    have e2 : (PyData.str "").bulk ≤ 2 := by decide +kernel
    by_cases h0 : 0 < ki
    · obtain ⟨r, t1, a1, b1, f1, k1⟩ := sd cells k t 3 (by omega) ht (by decide) (by decide)
      by_cases hr : 0 < r
      · have hne : 0 < ts.length := by omega
        obtain ⟨nm, r7, e, q1, q2, q3, q4⟩ := hts ts[ts.length - 1] (List.getElem_mem (by omega))
        have N : ixN (ts.map T.leaf).length (-1) = some (ts.length - 1) := by
          simp only [List.length_map, ixN]
          rw [if_neg (by omega), if_pos (by omega)]
          congr 1
          omega
        have at' : tIx (.lst (ts.map .leaf)) (.int (-1)) = some (.tuple (nm :: r7)) := by
          have g : (ts.map T.leaf)[ts.length - 1]? = some (.leaf (.tuple (nm :: r7))) := by
            rw [List.getElem?_map, List.getElem?_eq_getElem (by omega), e]
            rfl
          simp only [tIx, L2.atI, N, Option.bind_some, g]
        have i0 : ixD (.tuple (nm :: r7)) (.int 0) = some nm := ix_tup0 _ _
        refine ⟨nm, t1, q3, q4, f1, ?_⟩
        generalize T.lst (ts.map .leaf) = A at *
        generalize PyData.tuple (nm :: r7) = TT at *
        generalize LT = L at *
        simp [lg_b2_s0, evS, evC, evCs, Cop.d, gNeg, h0, hd, lens, maskN, k1, hr, at', i0]
      · refine ⟨.str "", t1, e1, e2, f1, ?_⟩
        generalize T.lst (ts.map .leaf) = A at *
        generalize LT = L at *
        simp [lg_b2_s0, evS, evC, evCs, Cop.d, h0, hd, lens, maskN, k1, hr]
    · refine ⟨.str "", t, e1, e2, ht.mono (by omega), ?_⟩
      generalize T.lst (ts.map .leaf) = A at *
      generalize LT = L at *
      simp [lg_b2_s0, evS, evC, evCs, Cop.d, h0]
  obtain ⟨q, r, a, b, d, en, ld, bd⟩ := name_at hi
  rw [← hki] at en
  obtain ⟨n1, n2, n3, n4, n5⟩ := nameK_eq en
  have mk8 : ∀ a b c d e f g h : D, mkTup [.leaf a, .leaf b, .leaf c, .leaf d, .leaf e, .leaf f, .leaf g, .leaf h] = .leaf (.tuple [a, b, c, d, e, f, g, h]) := fun _ _ _ _ _ _ _ _ => rfl
  have lk : lim 100 ki := lim_small (by omega) (by omega)
  refine ⟨ts ++ [.tuple [d, pr, .int 0, .int ki, .none, .tuple [.int 1, .int 1], .bool false, .none]], t1, some (.leaf pr), by simp [hl], fun x hx => ?_, f1, ?_⟩
  · rcases List.mem_append.mp hx with hx | hx
    · exact hts x hx
    · simp only [List.mem_cons, List.not_mem_nil, or_false] at hx
      subst hx
      refine ⟨d, _, rfl, lv_seq fun y hy => ?_, ?_, ld, bd⟩
      · simp only [List.mem_cons, List.not_mem_nil, or_false] at hy
        rcases hy with rfl | rfl | rfl | rfl | rfl | rfl | rfl | rfl
        · exact .leaf ld
        · exact .leaf hp1
        · exact lv_i (by decide)
        · exact lv_i lk
        · exact .leaf rfl
        · exact lv_seq fun y hy => by
            simp only [List.mem_cons, List.not_mem_nil, or_false] at hy
            rcases hy with rfl | rfl <;> exact lv_i (by decide)
        · exact .leaf rfl
        · exact .leaf rfl
      · simp only [PyData.bulk, PyData.bulkAll]
        omega
  · have hm : (ts.map T.leaf).length < most := by simp only [List.length_map, hl]; exact Nat.lt_trans hi (by decide)
    have e9 : T.lst ((ts ++ [PyData.tuple [d, pr, .int 0, .int ki, .none, .tuple [.int 1, .int 1], .bool false, .none]]).map .leaf) = .lst (ts.map .leaf ++ [.leaf (.tuple [d, pr, .int 0, .int ki, .none, .tuple [.int 1, .int 1], .bool false, .none])]) := by simp
    rw [e9, step (c := lg_b2_r0) rfl g0]
    clear e9 g0 en
    generalize ts.map T.leaf = A at *
    generalize LT = L at *
    have tx : ∀ y, tIx (.leaf L) y = ixD L y := fun _ => rfl
    simp [-IL.fdv_int, -IL.mod_int, lg_b2_r1, lg_b2_s1, lg_b2_r2, evSs, evS, evC, evCs, Bop.d, n1, n2, n3, n4, n5, tx, mk8, mk2, hm]
theorem run_llong {W : Wd} {Fd : FSem} (hd : W.fn "_law_draw" = some ⟨2, [0], Fd⟩) (sd : SpDraw Fd) : SpLong (runM n__law_long.length 1 [0] (evSs W c__law_long)) := by
  intro cells k t hk ht
  have g0 : evS W lg_s0 [some t, none, none, none, none] = .ok .nx [some t, some (.leaf LT), none, none, none] := by
    simp [lg_s0, evS, evC, LT]
  have g1 : evS W lg_s1 [some t, some (.leaf LT), none, none, none] = .ok .nx [some t, some (.leaf LT), some (.lst (([] : List D).map .leaf)), none, none] := by
    simp [lg_s1, evS, evC, evCs]
  let Inv : Nat → En → Prop := fun i e => ∃ (t' : T) (ts : List D) (y3 y4 : Option T), FeedOk cells (k + i) t' ∧ ts.length = i ∧ (∀ x ∈ ts, LongOk x) ∧ e = [some t', some (.leaf LT), some (.lst (ts.map .leaf)), y3, y4]
  obtain ⟨e', q1, t', ts, y3, y4, f', lt, tp, rfl⟩ := gFor_inv (bd := evTg W (.nm 3)) (b := evSs W lg_b2_r0) Inv (rangeL 0 100) 0 [some t, some (.leaf LT), some (.lst (([] : List D).map .leaf)), none, none] ⟨t, [], none, none, ht, rfl, (fun _ h => nomatch h), rfl⟩ (by
    rintro i d e hi ⟨t3, ts, y3, y4, f3, lt, tp, rfl⟩
    obtain ⟨hil, rfl⟩ := rg_at (C := 100) hi
    clear hi
    obtain ⟨z, hz⟩ : ∃ z : Int, z = 0 + (i : Int) := ⟨_, rfl⟩
    rw [← hz]
    obtain ⟨ts2, t5, z4, lt2, tp2, f5, q5⟩ := lg_turn (W := W) hd sd cells (k := k + (0 + i)) (by omega) f3 tp (i := 0 + i) (by omega) lt (ki := z) (by omega) y4
    refine ⟨[some t5, some (.leaf LT), some (.lst (ts2.map .leaf)), some (.leaf (.int z)), z4], ?_, t5, ts2, some (.leaf (.int z)), z4, f5, lt2, tp2, rfl⟩
    rw [← q5]
    generalize T.lst (ts.map .leaf) = A
    simp [evTg])
  have lr : (rangeL 0 100).length = 100 := by simp [rangeL]
  rw [lr, Nat.zero_add] at f' lt
  have hi : evI W lg_i2 [some t, some (.leaf LT), some (.lst (([] : List D).map .leaf)), none, none] = .ok (rangeL 0 100) [some t, some (.leaf LT), some (.lst (([] : List D).map .leaf)), none, none] := by
    generalize T.lst (([] : List D).map .leaf) = B
    simp [lg_i2, evI, gRng, evC, evCs, rng1, show far 100 = true from by decide]
  have g2 : evS W lg_s2 [some t, some (.leaf LT), some (.lst (([] : List D).map .leaf)), none, none] = .ok .nx [some t', some (.leaf LT), some (.lst (ts.map .leaf)), y3, y4] := by
    simp only [lg_s2_eq, evS]
    rw [ap_bnd, hi]
    exact q1
  have hz : frz (.lst (ts.map .leaf)) = .list ts := frz_lvs _
  have t1' : tupleD [.list ts] = some (.leaf (.tuple ts)) := rfl
  refine ⟨ts, t', lt, tp, f', run_lent1 (e' := [some (.leaf LT), some (.leaf (.list ts)), y3, y4]) ?_⟩
  show evSs W c__law_long [some t, none, none, none, none] = _
  rw [lg_eq, step (c := lg_r0) rfl g0, step (c := lg_r1) rfl g1, step (c := lg_r2) rfl g2]
  generalize T.lst (ts.map .leaf) = B at *
  simp [lg_r3, lg_s3, lg_r4, evSs, evS, evC, evCs, Bif.d, hz, t1']
end Fc

namespace Fc
open PySem PySem.Spec PyProof.Rows L2 IL
def lvB : Nat → D → Bool
  | 0, d => leafOk d
  | n + 1, d => leafOk d || (match d with
    | .tuple ds => ds.all (lvB n)
    | .list ds => ds.all (lvB n)
    | _ => false)
theorem lvB_ok : ∀ {n : Nat} {d : D}, lvB n d = true → Lv n d
  | 0, _, h => h
  | n + 1, d, h => by
    unfold lvB at h
    rw [Bool.or_eq_true] at h
    rcases h with h | h
    · exact .inl h
    · split at h
      · exact .inr ⟨_, .inl rfl, fun x hx => lvB_ok (List.all_eq_true.mp h x hx)⟩
      · exact .inr ⟨_, .inr rfl, fun x hx => lvB_ok (List.all_eq_true.mp h x hx)⟩
      · cases h
theorem pd_of {d : D} (h : lvB 12 d = true) (hb : decide (d.bulk ≤ 8000) = true) : Pd d := ⟨(lvB_ok h).mono (by omega), Nat.le_trans (of_decide_eq_true hb) (by decide)⟩
structure Ok (b : Nat) (xs : List D) : Prop where
  lv : ∀ x ∈ xs, Lv 20 x
  blk : PyData.bulkAll xs ≤ b
theorem Ok.app {b b' : Nat} {xs ys : List D} (h : Ok b xs) (h' : Ok b' ys) : Ok (b + b') (xs ++ ys) := ⟨fun x hx => by
  rcases List.mem_append.mp hx with hx | hx
  · exact h.lv x hx
  · exact h'.lv x hx, by rw [bulkAll_append]; exact Nat.add_le_add h.blk h'.blk⟩
theorem Ok.sub {b : Nat} {xs ys : List D} (h : Ok b ys) (s : xs.Sublist ys) : Ok b xs := ⟨fun x hx => h.lv x (s.subset hx), Nat.le_trans (bulkAll_sub s) h.blk⟩
theorem Ok.rev {b : Nat} {xs : List D} (h : Ok b xs) : Ok b xs.reverse := ⟨fun x hx => h.lv x (List.mem_reverse.mp hx), by rw [bulkAll_rev]; exact h.blk⟩
theorem Ok.pdT {b : Nat} {xs : List D} (h : Ok b xs) (hb : b ≤ 8000) : Pd (.tuple xs) := (dt_tup (b := b) h.lv h.blk).mono (by omega) (by omega)
theorem Ok.pdL {b : Nat} {xs : List D} (h : Ok b xs) (hb : b ≤ 8000) : Pd (.list xs) := (dt_lst (b := b) h.lv h.blk).mono (by omega) (by omega)
theorem Ok.len {b : Nat} {xs : List D} (h : Ok b xs) : xs.length ≤ b := Nat.le_trans (bulkAll_len xs) h.blk
theorem Ok.nil : Ok 0 [] := ⟨(fun _ h => nomatch h), by simp [PyData.bulkAll]⟩
theorem Ok.cons {b b' : Nat} {x : D} {xs : List D} (h : Lv 20 x) (hb : x.bulk + 1 ≤ b) (h' : Ok b' xs) : Ok (b + b') (x :: xs) := ⟨fun y hy => by
  rcases List.mem_cons.mp hy with rfl | hy
  · exact h
  · exact h'.lv y hy, by simp only [PyData.bulkAll]; have := h'.blk; omega⟩
theorem Ok.add {b b' : Nat} {xs ys : List D} (h : Ok b xs) (h' : Ok b' ys) (hb : b + b' ≤ 8000) : addD (.tuple xs) (.tuple ys) = some (.leaf (.tuple (xs ++ ys))) := tup_add (by have := h.len; have := h'.len; omega)
theorem cut_sub (xs : List D) (lo hi : Option Int) : (cutD xs lo hi).Sublist xs := (List.take_sublist _ _).trans (List.drop_sublist _ _)
theorem Ok.cut {b : Nat} {xs : List D} (h : Ok b xs) (lo hi : Option Int) : Ok b (cutD xs lo hi) := h.sub (cut_sub xs lo hi)
theorem sl_tup (xs : List D) (lo hi : Option Int) : slD (.tuple xs) lo hi = some (.leaf (.tuple (cutD xs lo hi))) := rfl
theorem rv_tup (xs : List D) : revD (.tuple xs) = some (.leaf (.tuple xs.reverse)) := rfl
theorem tx_leaf (x y : D) : tIx (.leaf x) y = ixD x y := rfl
def lvl : List D := [.str "q", .str "", .int 0, .int 0, .none, .tuple [.int 1, .int 1], .bool false, .none]
theorem lvl_ok : Ok 20 lvl := ⟨fun x hx => by
  simp only [lvl, List.mem_cons, List.not_mem_nil, or_false] at hx
  rcases hx with rfl | rfl | rfl | rfl | rfl | rfl | rfl | rfl <;> exact (lvB_ok (n := 4) (by decide +kernel)).mono (by decide), by decide +kernel⟩
theorem mk8 (a b c d e f g h : D) : mkTup [.leaf a, .leaf b, .leaf c, .leaf d, .leaf e, .leaf f, .leaf g, .leaf h] = .leaf (.tuple [a, b, c, d, e, f, g, h]) := rfl
theorem mk1 (d : D) : mkTup [.leaf d] = .leaf (.tuple [d]) := rfl
theorem mk0 : mkTup [] = .leaf (.tuple []) := rfl
theorem th2 {W : Wd} (x0 x1 x2 x3 x4 x5 x6 x7 x8 x9 x10 : Option T) : evS W th_s2 [x0, x1, x2, x3, x4, x5, x6, x7, x8, x9, x10] = .ok .nx [x0, x1, x2, x3, some (.leaf (.tuple lvl)), x5, x6, x7, x8, x9, x10] := by
  simp [th_s2, evS, evC, evCs, mk8, mk2, lvl]
def n3 (SC : D) (ts ls : List D) : List D := [SC, .tuple ts, .tuple ls, .tuple (ls ++ cutD ls (some 50) (some 51)), .tuple (cutD ls (some 1) none ++ cutD ls none (some 1)), .tuple ls.reverse, .tuple (ts ++ [.tuple lvl, .tuple lvl]), .tuple [.tuple lvl]]
theorem lv_lvl : Lv 20 (.tuple lvl) := .inr ⟨_, .inl rfl, fun x hx => by
  simp only [lvl, List.mem_cons, List.not_mem_nil, or_false] at hx
  rcases hx with rfl | rfl | rfl | rfl | rfl | rfl | rfl | rfl <;> exact (lvB_ok (n := 4) (by decide +kernel)).mono (by decide)⟩
theorem blk_lvl : (PyData.tuple lvl).bulk + 1 ≤ 21 := by decide +kernel
theorem th3 {W : Wd} {SC : D} {ts ls : List D} (ht : Ok 1810 ts) (hl : Ok 1710 ls) (hs : Pd SC) (x0 x5 x6 x7 x8 x9 x10 : Option T) :
    (∀ x ∈ n3 SC ts ls, Pd x) ∧ evS W th_s3 [x0, some (.leaf SC), some (.leaf (.tuple ts)), some (.leaf (.tuple ls)), some (.leaf (.tuple lvl)), x5, x6, x7, x8, x9, x10] = .ok .nx [x0, some (.leaf SC), some (.leaf (.tuple ts)), some (.leaf (.tuple ls)), some (.leaf (.tuple lvl)), some (.lst ((n3 SC ts ls).map .leaf)), x6, x7, x8, x9, x10] := by
  have o2 := Ok.cons lv_lvl blk_lvl (Ok.cons lv_lvl blk_lvl Ok.nil)
  have o1 := Ok.cons lv_lvl blk_lvl Ok.nil
  have A1 := hl.add (hl.cut (some 50) (some 51)) (by omega)
  have A2 := (hl.cut (some 1) none).add (hl.cut none (some 1)) (by omega)
  have A3 := ht.add o2 (by omega)
  refine ⟨fun x hx => ?_, ?_⟩
  · simp only [n3, List.mem_cons, List.not_mem_nil, or_false] at hx
    rcases hx with rfl | rfl | rfl | rfl | rfl | rfl | rfl | rfl
    · exact hs
    · exact ht.pdT (by omega)
    · exact hl.pdT (by omega)
    · exact (hl.app (hl.cut _ _)).pdT (by omega)
    · exact ((hl.cut _ _).app (hl.cut _ _)).pdT (by omega)
    · exact hl.rev.pdT (by omega)
    · exact (ht.app o2).pdT (by omega)
    · exact o1.pdT (by omega)
  · have s1 := sl_tup ls (some 50) (some 51)
    have s2 := sl_tup ls (some 1) none
    have s3 := sl_tup ls none (some 1)
    have r1 := rv_tup ls
    unfold n3
    generalize ls ++ IL.cutD ls (some 50) (some 51) = X1 at *
    generalize IL.cutD ls (some 1) none ++ IL.cutD ls none (some 1) = X2 at *
    generalize IL.cutD ls (some 50) (some 51) = X3 at *
    generalize IL.cutD ls (some 1) none = X4 at *
    generalize IL.cutD ls none (some 1) = X5 at *
    generalize ls.reverse = X6 at *
    generalize ts ++ [PyData.tuple lvl, PyData.tuple lvl] = X7 at *
    generalize PyData.tuple lvl = LV at *
    generalize PyData.tuple ls = LG at *
    generalize hTR : PyData.tuple ts = TR at *
    simp [th_s3, evS, evC, evCs, evO, Bop.d, mk2, mk1, s1, s2, s3, r1, A1, A2, A3]
def xq (d : D) : D := .tuple ([.str "q", d] ++ cutD lvl (some 2) none)
theorem strs4 {d : D} (h : d ∈ [PyData.str "q", .str "x", .str "", .str "Q"]) : leafOk d = true ∧ d.bulk ≤ 1 := by
  simp only [List.mem_cons, List.not_mem_nil, or_false] at h
  rcases h with rfl | rfl | rfl | rfl <;> exact ⟨by decide +kernel, by decide +kernel⟩
theorem xq_ok {d : D} (h : leafOk d = true) (hb : d.bulk ≤ 1) : Lv 20 (xq d) ∧ (xq d).bulk + 1 ≤ 31 := by
  have o := (Ok.cons (b := 2) (.leaf (n := 20) (d := .str "q") (by decide +kernel)) (by decide +kernel) (Ok.cons (b := 2) (.leaf (n := 20) h) (by omega) Ok.nil)).app (lvl_ok.cut (some 2) none)
  refine ⟨.inr ⟨_, .inl rfl, fun x hx => ?_⟩, by unfold xq; rw [bulk_tup]; have := o.blk; omega⟩
  rcases List.mem_append.mp hx with hx | hx
  · simp only [List.mem_cons, List.not_mem_nil, or_false] at hx
    rcases hx with rfl | rfl
    · exact .leaf (by decide +kernel)
    · exact .leaf h
  · have hx := (cut_sub _ _ _).subset hx
    simp only [lvl, List.mem_cons, List.not_mem_nil, or_false] at hx
    rcases hx with rfl | rfl | rfl | rfl | rfl | rfl | rfl | rfl <;> exact (lvB_ok (n := 4) (by decide +kernel)).mono (by decide)
end Fc

namespace Fc
open PySem PySem.Spec PyProof.Rows L2 IL
theorem app_pd {a b : List D} (h1 : ∀ x ∈ a, Pd x) (h2 : ∀ x ∈ b, Pd x) : ∀ x ∈ a ++ b, Pd x := fun x hx => by
  rcases List.mem_append.mp hx with hx | hx
  · exact h1 x hx
  · exact h2 x hx
theorem b4_turn {W : Wd} {ts fs : List D} (ht : Ok 1810 ts) (hf : fs.length ≤ 90) (hp : ∀ x ∈ fs, Pd x) {d : D} (hd : leafOk d = true) (hb : d.bulk ≤ 1) (x0 x1 x3 x7 x8 x9 x10 : Option T) :
    ∃ fs' : List D, fs'.length = fs.length + 2 ∧ (∀ x ∈ fs', Pd x) ∧ evSs W th_b4_r0 [x0, x1, some (.leaf (.tuple ts)), x3, some (.leaf (.tuple lvl)), some (.lst (fs.map .leaf)), some (.leaf d), x7, x8, x9, x10] = .ok .nx [x0, x1, some (.leaf (.tuple ts)), x3, some (.leaf (.tuple lvl)), some (.lst (fs'.map .leaf)), some (.leaf d), x7, x8, x9, x10] := by
  obtain ⟨q1, q2⟩ := xq_ok hd hb
  have ox : Ok 31 [xq d] := Ok.cons (b := 31) q1 q2 Ok.nil
  have A1 : addD (.tuple [.str "q", d]) (.tuple (cutD lvl (some 2) none)) = some (.leaf (xq d)) := tup_add (by have := (lvl_ok.cut (some 2) none).len; simp; omega)
  have A2 := ht.add ox (by omega)
  have A3 := ox.add ht (by omega)
  have s1 := sl_tup lvl (some 2) none
  have A := lst_add (a := fs) (b := [.tuple (ts ++ [xq d]), .tuple ([xq d] ++ ts)]) (by simp; omega)
  have Z : frz (.lst (fs.map .leaf)) = .list fs := frz_lvs _
  refine ⟨fs ++ [.tuple (ts ++ [xq d]), .tuple ([xq d] ++ ts)], by simp, app_pd hp fun x hx => ?_, ?_⟩
  · simp only [List.mem_cons, List.not_mem_nil, or_false] at hx
    rcases hx with rfl | rfl
    · exact (ht.app ox).pdT (by omega)
    · exact (ox.app ht).pdT (by omega)
  · generalize T.lst ((fs ++ _).map .leaf) = R at *
    generalize T.lst (fs.map .leaf) = Q at *
    generalize ts ++ [xq d] = X1 at *
    generalize [xq d] ++ ts = X2 at *
    generalize xq d = XX at *
    generalize IL.cutD lvl (some 2) none = C at *
    generalize PyData.tuple lvl = LV at *
    generalize PyData.tuple ts = TR at *
    simp [th_b4_r0, th_b4_s0, th_b4_r1, evSs, evS, evC, evCs, evO, Bop.d, mk2, mk1, s1, A1, A2, A3, Z, A]
theorem th4 {W : Wd} {ts fs : List D} (ht : Ok 1810 ts) (hf : fs.length ≤ 40) (hp : ∀ x ∈ fs, Pd x) (x0 x1 x3 x6 x7 x8 x9 x10 : Option T) :
    ∃ (fs' : List D) (y6 : Option T), fs'.length = fs.length + 8 ∧ (∀ x ∈ fs', Pd x) ∧ evS W th_s4 [x0, x1, some (.leaf (.tuple ts)), x3, some (.leaf (.tuple lvl)), some (.lst (fs.map .leaf)), x6, x7, x8, x9, x10] = .ok .nx [x0, x1, some (.leaf (.tuple ts)), x3, some (.leaf (.tuple lvl)), some (.lst (fs'.map .leaf)), y6, x7, x8, x9, x10] := by
  let Inv : Nat → En → Prop := fun i e => ∃ (fs' : List D) (y6 : Option T), fs'.length = fs.length + 2 * i ∧ (∀ x ∈ fs', Pd x) ∧ e = [x0, x1, some (.leaf (.tuple ts)), x3, some (.leaf (.tuple lvl)), some (.lst (fs'.map .leaf)), y6, x7, x8, x9, x10]
  obtain ⟨e', q1, fs', y6, l', p', rfl⟩ := gFor_inv (bd := evTg W (.nm 6)) (b := evSs W th_b4_r0) Inv [PyData.str "q", .str "x", .str "", .str "Q"] 0 [x0, x1, some (.leaf (.tuple ts)), x3, some (.leaf (.tuple lvl)), some (.lst (fs.map .leaf)), x6, x7, x8, x9, x10] ⟨fs, x6, rfl, hp, rfl⟩ (by
    rintro i d e hi ⟨fs1, y6, l1, p1, rfl⟩
    have hil : i < 4 := (List.getElem?_eq_some_iff.mp hi).1
    obtain ⟨h1, h2⟩ := strs4 (List.mem_of_getElem? hi)
    obtain ⟨fs2, l2, p2, q2⟩ := b4_turn (W := W) ht (fs := fs1) (by omega) p1 h1 h2 x0 x1 x3 x7 x8 x9 x10
    refine ⟨[x0, x1, some (.leaf (.tuple ts)), x3, some (.leaf (.tuple lvl)), some (.lst (fs2.map .leaf)), some (.leaf d), x7, x8, x9, x10], ?_, fs2, some (.leaf d), by omega, p2, rfl⟩
    rw [← q2]
    generalize T.lst (fs1.map .leaf) = A
    simp [evTg])
  refine ⟨fs', y6, by simpa using l', p', ?_⟩
  have hi : evI W th_i4 [x0, x1, some (.leaf (.tuple ts)), x3, some (.leaf (.tuple lvl)), some (.lst (fs.map .leaf)), x6, x7, x8, x9, x10] = .ok [PyData.str "q", .str "x", .str "", .str "Q"] [x0, x1, some (.leaf (.tuple ts)), x3, some (.leaf (.tuple lvl)), some (.lst (fs.map .leaf)), x6, x7, x8, x9, x10] := by
    generalize T.lst (fs.map .leaf) = A
    have mk4 : ∀ a b c d : D, mkTup [.leaf a, .leaf b, .leaf c, .leaf d] = .leaf (.tuple [a, b, c, d]) := fun _ _ _ _ => rfl
    simp [th_i4, evI, evC, evCs, mk4]
  simp only [th_s4_eq, evS]
  rw [ap_bnd, hi]
  exact q1
/-- the scene's four -/
abbrev scn (a b : Int) (back : D) (ts : List D) : List D := [.int a, .int b, back, .tuple ts]
theorem th5 {W : Wd} {a b : Int} {back : D} {ts ls fs : List D} (ht : Ok 1810 ts) (hs : Ok 1830 (scn a b back ts)) (hbk : Lv 20 back ∧ back.bulk ≤ 6) (hl : Lv 20 (.tuple ls) ∧ (PyData.tuple ls).bulk ≤ 1710) (hf : fs.length ≤ 50) (hp : ∀ x ∈ fs, Pd x) (x0 x4 x6 x7 x8 x9 x10 : Option T) :
    ∃ fs' : List D, fs'.length = fs.length + 6 ∧ (∀ x ∈ fs', Pd x) ∧ evS W th_s5 [x0, some (.leaf (.tuple (scn a b back ts))), some (.leaf (.tuple ts)), some (.leaf (.tuple ls)), x4, some (.lst (fs.map .leaf)), x6, x7, x8, x9, x10] = .ok .nx [x0, some (.leaf (.tuple (scn a b back ts))), some (.leaf (.tuple ts)), some (.leaf (.tuple ls)), x4, some (.lst (fs'.map .leaf)), x6, x7, x8, x9, x10] := by
  have ob : Ok (7 + (1711 + 0)) [back, .tuple ls] := Ok.cons hbk.1 (by have := hbk.2; omega) (Ok.cons hl.1 (by have := hl.2; omega) Ok.nil)
  have A1 := ht.add (ht.cut none (some 1)) (by omega)
  have A2 := (hs.cut none (some 2)).add ob (by omega)
  have s1 := sl_tup ts none (some 1)
  have s2 := sl_tup ts (some 1) none
  have s3 := sl_tup (scn a b back ts) none (some 2)
  have r1 := rv_tup ts
  have i2 : ixD (.tuple (scn a b back ts)) (.int 2) = some back := rfl
  have L1 : listD [.tuple ts] = some (.lst (ts.map .leaf)) := rfl
  have Z1 : frz (.lst (ts.map .leaf)) = .list ts := frz_lvs _
  obtain ⟨nw, hnw⟩ : ∃ nw, nw = [PyData.tuple (ts ++ cutD ts none (some 1)), .tuple ts.reverse, .tuple (cutD ts (some 1) none), .list ts, .tuple [], .tuple (cutD (scn a b back ts) none (some 2) ++ [back, .tuple ls])] := ⟨_, rfl⟩
  have A := lst_add (a := fs) (b := nw) (by rw [hnw]; simp; omega)
  have Z : frz (.lst (fs.map .leaf)) = .list fs := frz_lvs _
  refine ⟨fs ++ nw, by rw [hnw]; simp, app_pd hp fun x hx => ?_, ?_⟩
  · rw [hnw] at hx
    simp only [List.mem_cons, List.not_mem_nil, or_false] at hx
    rcases hx with rfl | rfl | rfl | rfl | rfl | rfl
    · exact (ht.app (ht.cut _ _)).pdT (by omega)
    · exact ht.rev.pdT (by omega)
    · exact (ht.cut _ _).pdT (by omega)
    · exact ht.pdL (by omega)
    · exact Ok.nil.pdT (by omega)
    · exact ((hs.cut _ _).app ob).pdT (by omega)
  · have LL : frz (.lst [.leaf (.tuple (ts ++ cutD ts none (some 1))), .leaf (.tuple ts.reverse), .leaf (.tuple (cutD ts (some 1) none)), .lst (ts.map .leaf), .leaf (.tuple []), .leaf (.tuple (cutD (scn a b back ts) none (some 2) ++ [back, .tuple ls]))]) = .list nw := by
      rw [hnw]; show PyData.list [_, _, _, frz (.lst (ts.map .leaf)), _, _] = _; rw [Z1]; rfl
    clear hnw
    generalize T.lst ((fs ++ nw).map .leaf) = R at *
    generalize T.lst (fs.map .leaf) = Q at *
    generalize T.lst (ts.map .leaf) = Q2 at *
    generalize ts ++ IL.cutD ts none (some 1) = X1 at *
    generalize IL.cutD (scn a b back ts) none (some 2) ++ [back, PyData.tuple ls] = X2 at *
    generalize IL.cutD ts none (some 1) = X3 at *
    generalize IL.cutD ts (some 1) none = X4 at *
    generalize IL.cutD (scn a b back ts) none (some 2) = X5 at *
    generalize ts.reverse = X6 at *
    generalize hSC : PyData.tuple (scn a b back ts) = SC at *
    generalize PyData.tuple ts = TR at *
    generalize PyData.tuple ls = LG at *
    simp [th_s5, evS, evC, evCs, evO, Bop.d, Bif.d, mk2, mk1, mk0, tx_leaf, i2, s1, s2, s3, r1, A1, A2, L1, LL, Z, A]
end Fc

namespace Fc
open PySem PySem.Spec PyProof.Rows L2 IL
theorem oi {i : Int} (h : lim 300 i) : Lv 20 (.int i) ∧ (PyData.int i).bulk + 1 ≤ 1 := ⟨.leaf (decide_eq_true (lim_mono h (by decide))), by simp [PyData.bulk]⟩
theorem th6 {W : Wd} {a b : Int} {back : D} {ts fs : List D} (la : lim 100 a) (hs : Ok 1830 (scn a b back ts)) (hf : fs.length ≤ 50) (hp : ∀ x ∈ fs, Pd x) (x0 x2 x3 x4 x6 x7 x8 x9 x10 : Option T) :
    ∃ fs' : List D, fs'.length = fs.length + 4 ∧ (∀ x ∈ fs', Pd x) ∧ evS W th_s6 [x0, some (.leaf (.tuple (scn a b back ts))), x2, x3, x4, some (.lst (fs.map .leaf)), x6, x7, x8, x9, x10] = .ok .nx [x0, some (.leaf (.tuple (scn a b back ts))), x2, x3, x4, some (.lst (fs'.map .leaf)), x6, x7, x8, x9, x10] := by
  obtain ⟨P, hP, lP⟩ : ∃ P : Int, Bop.d .pow (.int 10) (.int 40) = some (.leaf (.int P)) ∧ lim 300 P := ⟨_, rfl, by decide⟩
  have o1 : Ok 1 [PyData.int P] := Ok.cons (b := 1) (oi lP).1 (oi lP).2 Ok.nil
  have o2 : Ok 1 [PyData.int 0] := Ok.cons (b := 1) (oi (by decide)).1 (oi (by decide)).2 Ok.nil
  have o3 : Ok (1 + (1 + 0)) [PyData.int a, .int (-1)] := Ok.cons (oi (lim_mono la (by decide))).1 (oi (lim_mono la (by decide))).2 (Ok.cons (oi (by decide)).1 (oi (by decide)).2 Ok.nil)
  have o4 : Ok 1 [PyData.bool true] := Ok.cons (b := 1) (.leaf rfl) (by simp [PyData.bulk]) Ok.nil
  have c1 := hs.cut (some 1) none
  have c2 := hs.cut (some 2) none
  have A1 := o1.add c1 (by omega)
  have A2 := o2.add c1 (by omega)
  have A3 := o3.add c2 (by omega)
  have A4 := o4.add c1 (by omega)
  have s1 := sl_tup (scn a b back ts) (some 1) none
  have s2 := sl_tup (scn a b back ts) (some 2) none
  have i0 : ixD (.tuple (scn a b back ts)) (.int 0) = some (.int a) := rfl
  obtain ⟨nw, hnw⟩ : ∃ nw, nw = [PyData.tuple ([.int P] ++ cutD (scn a b back ts) (some 1) none), .tuple ([.int 0] ++ cutD (scn a b back ts) (some 1) none), .tuple ([.int a, .int (-1)] ++ cutD (scn a b back ts) (some 2) none), .tuple ([.bool true] ++ cutD (scn a b back ts) (some 1) none)] := ⟨_, rfl⟩
  have A := lst_add (a := fs) (b := nw) (by rw [hnw]; simp; omega)
  have Z : frz (.lst (fs.map .leaf)) = .list fs := frz_lvs _
  refine ⟨fs ++ nw, by rw [hnw]; simp, app_pd hp fun x hx => ?_, ?_⟩
  · rw [hnw] at hx
    simp only [List.mem_cons, List.not_mem_nil, or_false] at hx
    rcases hx with rfl | rfl | rfl | rfl
    · exact (o1.app c1).pdT (by omega)
    · exact (o2.app c1).pdT (by omega)
    · exact (o3.app c2).pdT (by omega)
    · exact (o4.app c1).pdT (by omega)
  · subst hnw
    clear o1 o2 o3 o4 c1 c2
    generalize T.lst ((fs ++ _).map .leaf) = R at *
    generalize T.lst (fs.map .leaf) = Q at *
    generalize [PyData.int P] ++ IL.cutD (scn a b back ts) (some 1) none = X1 at *
    generalize [PyData.int 0] ++ IL.cutD (scn a b back ts) (some 1) none = X2 at *
    generalize [PyData.int a, .int (-1)] ++ IL.cutD (scn a b back ts) (some 2) none = X3 at *
    generalize [PyData.bool true] ++ IL.cutD (scn a b back ts) (some 1) none = X4 at *
    generalize IL.cutD (scn a b back ts) (some 1) none = X5 at *
    generalize IL.cutD (scn a b back ts) (some 2) none = X6 at *
    generalize hSC : PyData.tuple (scn a b back ts) = SC at *
    have B : ∀ x y, Bop.d .add x y = addD x y := fun _ _ => rfl
    simp [th_s6, evS, evC, evCs, evO, gNeg, B, hP, mk2, mk1, tx_leaf, i0, s1, s2, A1, A2, A3, A4, Z, A]
def backs : List D := [.tuple [fr 1 2, fr 1 2], .tuple [fr 0 1, fr 1 1], .tuple [fr 1 1, fr 1 1], .tuple [fr 1 1, fr 2 1], .none]
theorem back_ok {d : D} (h : d ∈ backs) : Lv 20 d ∧ d.bulk + 1 ≤ 10 := by
  simp only [backs, List.mem_cons, List.not_mem_nil, or_false] at h
  rcases h with rfl | rfl | rfl | rfl | rfl <;> exact ⟨(lvB_ok (n := 4) (by decide +kernel)).mono (by decide), by decide +kernel⟩
theorem b7_turn {W : Wd} {sc fs : List D} (hs : Ok 1830 sc) (hf : fs.length ≤ 90) (hp : ∀ x ∈ fs, Pd x) {d : D} (hd : d ∈ backs) (x0 x2 x3 x4 x6 x8 x9 x10 : Option T) :
    ∃ fs' : List D, fs'.length = fs.length + 1 ∧ (∀ x ∈ fs', Pd x) ∧ evSs W th_b7_r0 [x0, some (.leaf (.tuple sc)), x2, x3, x4, some (.lst (fs.map .leaf)), x6, some (.leaf d), x8, x9, x10] = .ok .nx [x0, some (.leaf (.tuple sc)), x2, x3, x4, some (.lst (fs'.map .leaf)), x6, some (.leaf d), x8, x9, x10] := by
  have o1 : Ok 10 [d] := Ok.cons (b := 10) (back_ok hd).1 (back_ok hd).2 Ok.nil
  have c1 := hs.cut none (some 2)
  have c2 := hs.cut (some 3) none
  have A1 := c1.add o1 (by omega)
  have A2 := (c1.app o1).add c2 (by omega)
  have s1 := sl_tup sc none (some 2)
  have s2 := sl_tup sc (some 3) none
  have hl : (fs.map T.leaf).length < most := by simp only [List.length_map]; exact Nat.lt_of_le_of_lt hf (by decide)
  have e9 : T.lst ((fs ++ [PyData.tuple (cutD sc none (some 2) ++ [d] ++ cutD sc (some 3) none)]).map .leaf) = .lst (fs.map .leaf ++ [.leaf (.tuple (cutD sc none (some 2) ++ [d] ++ cutD sc (some 3) none))]) := by simp
  refine ⟨fs ++ [.tuple (cutD sc none (some 2) ++ [d] ++ cutD sc (some 3) none)], by simp, app_pd hp fun x hx => ?_, ?_⟩
  · simp only [List.mem_cons, List.not_mem_nil, or_false] at hx
    subst hx
    exact ((c1.app o1).app c2).pdT (by omega)
  · rw [e9]
    clear e9 o1 c1 c2
    generalize fs.map T.leaf = A at *
    generalize IL.cutD sc none (some 2) ++ [d] ++ IL.cutD sc (some 3) none = X1 at *
    generalize IL.cutD sc none (some 2) ++ [d] = X2 at *
    generalize IL.cutD sc none (some 2) = X3 at *
    generalize IL.cutD sc (some 3) none = X4 at *
    generalize PyData.tuple sc = SC at *
    simp [th_b7_r0, th_b7_s0, th_b7_r1, evSs, evS, evC, evCs, evO, Bop.d, mk1, s1, s2, A1, A2, hl]
theorem th7 {W : Wd} {sc fs : List D} (hs : Ok 1830 sc) (hf : fs.length ≤ 60) (hp : ∀ x ∈ fs, Pd x) (x0 x2 x3 x4 x6 x7 x8 x9 x10 : Option T) :
    ∃ (fs' : List D) (y7 : Option T), fs'.length = fs.length + 5 ∧ (∀ x ∈ fs', Pd x) ∧ evS W th_s7 [x0, some (.leaf (.tuple sc)), x2, x3, x4, some (.lst (fs.map .leaf)), x6, x7, x8, x9, x10] = .ok .nx [x0, some (.leaf (.tuple sc)), x2, x3, x4, some (.lst (fs'.map .leaf)), x6, y7, x8, x9, x10] := by
  let Inv : Nat → En → Prop := fun i e => ∃ (fs' : List D) (y7 : Option T), fs'.length = fs.length + i ∧ (∀ x ∈ fs', Pd x) ∧ e = [x0, some (.leaf (.tuple sc)), x2, x3, x4, some (.lst (fs'.map .leaf)), x6, y7, x8, x9, x10]
  obtain ⟨e', q1, fs', y7, l', p', rfl⟩ := gFor_inv (bd := evTg W (.nm 7)) (b := evSs W th_b7_r0) Inv backs 0 [x0, some (.leaf (.tuple sc)), x2, x3, x4, some (.lst (fs.map .leaf)), x6, x7, x8, x9, x10] ⟨fs, x7, rfl, hp, rfl⟩ (by
    rintro i d e hi ⟨fs1, y7, l1, p1, rfl⟩
    have hil : i < 5 := (List.getElem?_eq_some_iff.mp hi).1
    obtain ⟨fs2, l2, p2, q2⟩ := b7_turn (W := W) hs (fs := fs1) (by omega) p1 (List.mem_of_getElem? hi) x0 x2 x3 x4 x6 x8 x9 x10
    refine ⟨[x0, some (.leaf (.tuple sc)), x2, x3, x4, some (.lst (fs2.map .leaf)), x6, some (.leaf d), x8, x9, x10], ?_, fs2, some (.leaf d), by omega, p2, rfl⟩
    rw [← q2]
    generalize T.lst (fs1.map .leaf) = A
    simp [evTg])
  refine ⟨fs', y7, by simpa [backs] using l', p', ?_⟩
  have hi : evI W th_i7 [x0, some (.leaf (.tuple sc)), x2, x3, x4, some (.lst (fs.map .leaf)), x6, x7, x8, x9, x10] = .ok backs [x0, some (.leaf (.tuple sc)), x2, x3, x4, some (.lst (fs.map .leaf)), x6, x7, x8, x9, x10] := by
    generalize T.lst (fs.map .leaf) = A
    have mk5 : ∀ a b c d e : D, mkTup [.leaf a, .leaf b, .leaf c, .leaf d, .leaf e] = .leaf (.tuple [a, b, c, d, e]) := fun _ _ _ _ _ => rfl
    simp [th_i7, evI, evC, evCs, mk5, mk2, backs, fr]
  simp only [th_s7_eq, evS]
  rw [ap_bnd, hi]
  exact q1
theorem pair_ok {W : Wd} {Fb : FSem} (hb : W.fn "_law_bent" = some ⟨3, [0], Fb⟩) (sb : SpBent 10 Fb) (cells : List Int) {k n b : Nat} (hk : k + 400 < 2 ^ 26) (hn : n ≤ 8) (hbb : b ≤ 1870) {t : T} (ht : FeedOk cells k t) {d : D} (hd : DtC 100 n b d) {fs : List D} (hfl : fs.length + 2 ≤ 100) (hf : ∀ x ∈ fs, Pd x) (x1 x2 x3 x4 x6 x7 x8 x10 : Option T) :
    ∃ (fs' : List D) (t' : T) (y10 : Option T), fs'.length = fs.length + 2 ∧ (∀ x ∈ fs', Pd x) ∧ FeedOk cells (k + 80) t' ∧ evSs W th_b8_b0_r0 [some t, x1, x2, x3, x4, some (.lst (fs.map .leaf)), x6, x7, x8, some (.leaf d), x10] = .ok .nx [some t', x1, x2, x3, x4, some (.lst (fs'.map .leaf)), x6, x7, x8, some (.leaf d), y10] := by
  obtain ⟨s1, t1, f1, d1, k1⟩ := sb cells k t n b 100 8 d (by omega) (by omega) (by omega) (by omega) (by omega) (by omega) ht hd
  obtain ⟨s2, t2, f2, d2, k2⟩ := sb cells (k + 4 * (8 + 1)) t1 (n + 2) (2 * b + 250) 101 8 (frz s1) (by omega) (by omega) (by omega) (by omega) (by omega) (by omega) f1 d1
  obtain ⟨i6, h6⟩ : ∃ i6 : Int, i6 = ((8 : Nat) : Int) := ⟨_, rfl⟩
  rw [← h6] at k1 k2
  have h6' : i6 = 8 := h6
  subst h6'
  have A := lst_add (a := fs) (b := [frz s1, frz s2]) (by simp; omega)
  have Z : frz (.lst (fs.map .leaf)) = .list fs := frz_lvs _
  refine ⟨fs ++ [frz s1, frz s2], t2, some (.leaf (frz s1)), by simp, fun x hx => ?_, f2.mono (by omega), ?_⟩
  · rcases List.mem_append.mp hx with hx | hx
    · exact hf x hx
    · have p1 := (d1.plain (by decide)).mono (n' := 40) (b' := 16000) (by omega) (by omega)
      have p2 := (d2.plain (by decide)).mono (n' := 40) (b' := 16000) (by omega) (by omega)
      simp only [List.mem_cons, List.not_mem_nil, or_false] at hx
      rcases hx with rfl | rfl
      · exact p1
      · exact p2
  · have L : frz (.lst [.leaf (frz s1), s2]) = .list [frz s1, frz s2] := rfl
    generalize T.lst ((fs ++ [frz s1, frz s2]).map .leaf) = R at *
    generalize T.lst (fs.map .leaf) = Q at *
    simp [th_b8_b0_r0, th_b8_b0_s0, th_b8_b0_r1, th_b8_b0_s1, th_b8_b0_r2, evSs, evS, evC, evCs, Bop.d, hb, lens, maskN, k1, k2, Z, L, A]
theorem rounds_ok {W : Wd} {Fb : FSem} (hb : W.fn "_law_bent" = some ⟨3, [0], Fb⟩) (sb : SpBent 10 Fb) (cells : List Int) {k : Nat} (hk : k + 2000 < 2 ^ 26) {t : T} (ht : FeedOk cells k t) {C N : D} (hC : DtC 100 8 1870 C) (hN : DtC 100 7 1870 N) {fs : List D} (hfl : fs.length ≤ 60) (hf : ∀ x ∈ fs, Pd x) (x3 x4 x6 x7 x8 x9 x10 : Option T) :
    ∃ (fs' : List D) (t' : T) (y8 y9 y10 : Option T), fs'.length = fs.length + 24 ∧ (∀ x ∈ fs', Pd x) ∧ FeedOk cells (k + 960) t' ∧ evS W th_s8 [some t, some (.leaf C), some (.leaf N), x3, x4, some (.lst (fs.map .leaf)), x6, x7, x8, x9, x10] = .ok .nx [some t', some (.leaf C), some (.leaf N), x3, x4, some (.lst (fs'.map .leaf)), x6, x7, y8, y9, y10] := by
  let Inv : Nat → En → Prop := fun i e => ∃ (fs' : List D) (t' : T) (y8 y9 y10 : Option T), fs'.length = fs.length + 4 * i ∧ (∀ x ∈ fs', Pd x) ∧ FeedOk cells (k + 160 * i) t' ∧ e = [some t', some (.leaf C), some (.leaf N), x3, x4, some (.lst (fs'.map .leaf)), x6, x7, y8, y9, y10]
  obtain ⟨e', q1, fs', t', y8, y9, y10, l', p', f', rfl⟩ := gFor_inv (bd := evTg W (.nm 8)) (b := evSs W th_b8_r0) Inv (rangeL 0 6) 0 [some t, some (.leaf C), some (.leaf N), x3, x4, some (.lst (fs.map .leaf)), x6, x7, x8, x9, x10] ⟨fs, t, x8, x9, x10, rfl, hf, ht, rfl⟩ (by
    rintro i d e hi ⟨fs1, t1, y8, y9, y10, l1, p1, f1, rfl⟩
    obtain ⟨hil, rfl⟩ := rg_at (C := 6) hi
    clear hi
    obtain ⟨z, hz⟩ : ∃ z : Int, z = 0 + (i : Int) := ⟨_, rfl⟩
    rw [← hz]
    obtain ⟨fs2, t2, z11, l2, p2, f2, q2⟩ := pair_ok hb sb cells (k := k + 160 * (0 + i)) (by omega) (n := 8) (b := 1870) (by omega) (by omega) f1 hC (fs := fs1) (by omega) p1 (some (.leaf C)) (some (.leaf N)) x3 x4 x6 x7 (some (.leaf (.int z))) y10
    obtain ⟨fs3, t3, w11, l3, p3, f3, q3⟩ := pair_ok hb sb cells (k := k + 160 * (0 + i) + 80) (by omega) (n := 7) (b := 1870) (by omega) (by omega) f2 hN (fs := fs2) (by omega) p2 (some (.leaf C)) (some (.leaf N)) x3 x4 x6 x7 (some (.leaf (.int z))) z11
    refine ⟨[some t3, some (.leaf C), some (.leaf N), x3, x4, some (.lst (fs3.map .leaf)), x6, x7, some (.leaf (.int z)), some (.leaf N), w11], ?_, fs3, t3, some (.leaf (.int z)), some (.leaf N), w11, by omega, p3, by rw [show k + 160 * (0 + i + 1) = k + 160 * (0 + i) + 80 + 80 by omega]; exact f3, rfl⟩
    have ii : evI W th_b8_i0 [some t1, some (.leaf C), some (.leaf N), x3, x4, some (.lst (fs1.map .leaf)), x6, x7, some (.leaf (.int z)), y9, y10] = .ok [C, N] [some t1, some (.leaf C), some (.leaf N), x3, x4, some (.lst (fs1.map .leaf)), x6, x7, some (.leaf (.int z)), y9, y10] := by
      generalize T.lst (fs1.map .leaf) = A
      simp [th_b8_i0, evI, evC, evCs, mk2]
    have run : evS W th_b8_s0 [some t1, some (.leaf C), some (.leaf N), x3, x4, some (.lst (fs1.map .leaf)), x6, x7, some (.leaf (.int z)), y9, y10] = .ok .nx [some t3, some (.leaf C), some (.leaf N), x3, x4, some (.lst (fs3.map .leaf)), x6, x7, some (.leaf (.int z)), some (.leaf N), w11] := by
      simp only [th_b8_s0_eq, evS]
      rw [ap_bnd, ii]
      generalize T.lst (fs1.map .leaf) = A1 at *
      generalize T.lst (fs2.map .leaf) = A2 at *
      generalize T.lst (fs3.map .leaf) = A3 at *
      simp [gFor, evTg, q2, q3]
    generalize T.lst (fs1.map .leaf) = A1 at *
    generalize T.lst (fs3.map .leaf) = A3 at *
    simp [evTg, th_b8_r0, th_b8_r1, evSs, run])
  have lr : (rangeL 0 6).length = 6 := by simp [rangeL]
  rw [lr, Nat.zero_add] at f' l'
  refine ⟨fs', t', y8, y9, y10, by omega, p', f'.mono (by omega), ?_⟩
  have hi : evI W th_i8 [some t, some (.leaf C), some (.leaf N), x3, x4, some (.lst (fs.map .leaf)), x6, x7, x8, x9, x10] = .ok (rangeL 0 6) [some t, some (.leaf C), some (.leaf N), x3, x4, some (.lst (fs.map .leaf)), x6, x7, x8, x9, x10] := by
    generalize T.lst (fs.map .leaf) = A
    simp [th_i8, evI, gRng, evC, evCs, rng1, show far 6 = true from by decide]
  simp only [th_s8_eq, evS]
  rw [ap_bnd, hi]
  exact q1
end Fc

namespace Fc
open PySem PySem.Spec PyProof.Rows L2 IL
theorem run_lent1g {m : M Fl} {nN : Nat} {t t' r : T} {e' : En} (h : m (some t :: List.replicate (nN - 1) none) = .ok (.rt r) (some t' :: e')) : runM nN 1 [0] m [t] = some (r, [some t']) := by
  unfold runM runF
  show (match (match m (some t :: List.replicate (nN - 1) none) with
    | .ok (.rt t) e => some (t, (e ++ List.replicate 1 none).take 1)
    | .ok .nx e => some (.leaf .none, (e ++ List.replicate 1 none).take 1)
    | _ => none) with
    | some (t, o) => some (t, maskN [0] 0 o)
    | none => none) = _
  rw [h]
  simp [maskN]
def SpThings (F : FSem) : Prop := ∀ (cells : List Int) (k : Nat) (t : T), k + 20000 < 2 ^ 26 → FeedOk cells k t → ∃ (ds : List D) (t' : T), ds.length ≤ 100 ∧ (∀ x ∈ ds, Pd x) ∧ FeedOk cells (k + 2400) t' ∧ F [t] = some (.lst (ds.map .leaf), [some t'])
theorem th9 {W : Wd} {sc ts fs : List D} (hs : Ok 1830 sc) (ht : Ok 1810 ts) (hf : fs.length ≤ 80) (hp : ∀ x ∈ fs, Pd x) (x0 x3 x4 x6 x7 x8 x9 x10 : Option T) :
    ∃ (fs' : List D) (y5 : Option T), fs'.length = fs.length + 7 ∧ (∀ x ∈ fs', Pd x) ∧ evS W th_s9 [x0, some (.leaf (.tuple sc)), some (.leaf (.tuple ts)), x3, x4, some (.lst (fs.map .leaf)), x6, x7, x8, x9, x10] = .ok (.rt (.lst (fs'.map .leaf))) [x0, some (.leaf (.tuple sc)), some (.leaf (.tuple ts)), x3, x4, y5, x6, x7, x8, x9, x10] := by
  have o1 : Ok 1 [PyData.none] := Ok.cons (b := 1) (.leaf rfl) (by simp [PyData.bulk]) Ok.nil
  have A1 := hs.add o1 (by omega)
  have s1 := sl_tup sc none (some 3)
  have L1 : listD [.tuple sc] = some (.lst (sc.map .leaf)) := rfl
  have Z1 : frz (.lst (sc.map .leaf)) = .list sc := frz_lvs _
  obtain ⟨nw, hnw⟩ : ∃ nw, nw = [PyData.tuple (cutD sc none (some 3)), .tuple (sc ++ [.none]), .list sc, .none, .bool true, .tuple sc, .tuple ts] := ⟨_, rfl⟩
  have A := lst_add (a := fs) (b := nw) (by rw [hnw]; simp; omega)
  have Z : frz (.lst (fs.map .leaf)) = .list fs := frz_lvs _
  refine ⟨fs ++ nw, some (.leaf (.list fs)), by rw [hnw]; simp, app_pd hp fun x hx => ?_, ?_⟩
  · rw [hnw] at hx
    simp only [List.mem_cons, List.not_mem_nil, or_false] at hx
    rcases hx with rfl | rfl | rfl | rfl | rfl | rfl | rfl
    · exact (hs.cut _ _).pdT (by omega)
    · exact (hs.app o1).pdT (by omega)
    · exact hs.pdL (by omega)
    · exact dt_none
    · exact dt_bool
    · exact hs.pdT (by omega)
    · exact ht.pdT (by omega)
  · have LL : frz (.lst [.leaf (.tuple (cutD sc none (some 3))), .leaf (.tuple (sc ++ [.none])), .lst (sc.map .leaf), .leaf .none, .leaf (.bool true), .leaf (.tuple sc), .leaf (.tuple ts)]) = .list nw := by
      rw [hnw]; show PyData.list [_, _, frz (.lst (sc.map .leaf)), _, _, _, _] = _; rw [Z1]; rfl
    clear hnw
    generalize T.lst ((fs ++ nw).map .leaf) = R at *
    generalize T.lst (fs.map .leaf) = Q at *
    generalize T.lst (sc.map .leaf) = Q2 at *
    generalize sc ++ [PyData.none] = X1 at *
    generalize IL.cutD sc none (some 3) = X3 at *
    generalize hSC : PyData.tuple sc = SC at *
    generalize PyData.tuple ts = TR at *
    simp [th_s9, evS, evC, evCs, evO, Bop.d, Bif.d, mk1, s1, A1, L1, LL, Z, A]
theorem run_lthings {W : Wd} {Fs Fl Fb : FSem} (hs : W.fn "_law_scene" = some ⟨3, [0], Fs⟩) (ss : SpScene Fs) (hl : W.fn "_law_long" = some ⟨1, [0], Fl⟩) (sl : SpLong Fl) (hb : W.fn "_law_bent" = some ⟨3, [0], Fb⟩) (sb : SpBent 10 Fb) : SpThings (runM n__law_things.length 1 [0] (evSs W c__law_things)) := by
  intro cells k t hk ht
  obtain ⟨a, b, back, ts, t1, la, lb, dbk, lts, hts, f1, k1⟩ := ss cells k t (by omega) ht
  obtain ⟨ls, t2, lls, hls, f2, k2⟩ := sl cells (k + 1200) t1 (by omega) f1
  have nlv : ∀ x ∈ ts, LvC 100 6 x ∧ x.bulk ≤ 300 := fun x hx => by
    obtain ⟨nm, nds, rfl, q1, q2, q3, q4⟩ := (hts x hx).it
    exact ⟨lv_seq q2, by rw [bulk_tup]; exact q3⟩
  have bts := bulk_each (b := 300) (ps := ts) fun x hx => (nlv x hx).2
  have bts2 : PyData.bulkAll ts ≤ 1806 := Nat.le_trans bts (by have : ts.length * (300 + 1) ≤ 6 * 301 := Nat.mul_le_mul_right 301 lts; omega)
  have ot : Ok 1810 ts := ⟨fun x hx => ((nlv x hx).1.plain (by decide)).mono (by omega), by omega⟩
  have dT : DtC 100 7 1870 (.tuple ts) := ⟨lv_seq fun x hx => (nlv x hx).1, by rw [bulk_tup]; omega⟩
  have bls := bulk_each (b := 16) (ps := ls) fun x hx => by obtain ⟨nm, r, e, q1, q2, _⟩ := hls x hx; exact q2
  rw [lls] at bls
  have lvl' : ∀ x ∈ ls, LvC 100 2 x := fun x hx => by obtain ⟨nm, r, e, q1, q2, _⟩ := hls x hx; exact q1
  have ol : Ok 1710 ls := ⟨fun x hx => ((lvl' x hx).plain (by decide)).mono (by omega), by omega⟩
  have hL : Lv 20 (.tuple ls) ∧ (PyData.tuple ls).bulk ≤ 1710 := ⟨((lv_seq lvl').plain (by decide)).mono (by omega), by rw [bulk_tup]; omega⟩
  have hbk : Lv 20 back ∧ back.bulk ≤ 6 := ⟨(dbk.lv.plain (by decide)).mono (by omega), dbk.blk⟩
  have dS : DtC 100 8 1870 (.tuple (scn a b back ts)) := ⟨lv_seq fun x hx => by
    simp only [List.mem_cons, List.not_mem_nil, or_false] at hx
    rcases hx with rfl | rfl | rfl | rfl
    · exact lv_i la
    · exact lv_i lb
    · exact dbk.lv.mono (by omega)
    · exact dT.lv, by
    rw [bulk_tup]
    have := dbk.blk
    simp only [PyData.bulkAll, PyData.bulk]
    omega⟩
  have os : Ok 1830 (scn a b back ts) := ⟨fun x hx => by
    simp only [List.mem_cons, List.not_mem_nil, or_false] at hx
    rcases hx with rfl | rfl | rfl | rfl
    · exact ((lv_i (n := 0) la).plain (by decide)).mono (by omega)
    · exact ((lv_i (n := 0) lb).plain (by decide)).mono (by omega)
    · exact hbk.1
    · exact (dT.lv.plain (by decide)).mono (by omega), by
    have := dbk.blk
    simp only [PyData.bulkAll, PyData.bulk]
    omega⟩
  have i3 : ixD (.tuple (scn a b back ts)) (.int 3) = some (.tuple ts) := rfl
  have g0 : evS W th_s0 [some t, none, none, none, none, none, none, none, none, none, none] = .ok .nx [some t1, some (.leaf (.tuple (scn a b back ts))), none, none, none, none, none, none, none, none, none] := by
    generalize PyData.tuple (scn a b back ts) = SC at *
    simp [th_s0, evS, evC, evCs, hs, lens, maskN, k1]
  have g1 : evS W th_s1 [some t1, some (.leaf (.tuple (scn a b back ts))), none, none, none, none, none, none, none, none, none] = .ok .nx [some t2, some (.leaf (.tuple (scn a b back ts))), some (.leaf (.tuple ts)), some (.leaf (.tuple ls)), none, none, none, none, none, none, none] := by
    generalize PyData.tuple (scn a b back ts) = SC at *
    generalize PyData.tuple ts = TR at *
    generalize PyData.tuple ls = LG at *
    simp [th_s1, evS, evC, evCs, gPar, tx_leaf, i3, hl, lens, maskN, k2]
  have g2 := th2 (W := W) (some t2) (some (.leaf (.tuple (scn a b back ts)))) (some (.leaf (.tuple ts))) (some (.leaf (.tuple ls))) none none none none none none none
  obtain ⟨p3, g3⟩ := th3 (W := W) (SC := .tuple (scn a b back ts)) ot ol (os.pdT (by omega)) (some t2) none none none none none none
  have l3 : (n3 (.tuple (scn a b back ts)) ts ls).length = 8 := rfl
  generalize n3 (.tuple (scn a b back ts)) ts ls = fs3 at *
  obtain ⟨fs4, y6, l4, p4, g4⟩ := th4 (W := W) ot (fs := fs3) (by omega) p3 (some t2) (some (.leaf (.tuple (scn a b back ts)))) (some (.leaf (.tuple ls))) none none none none none
  obtain ⟨fs5, l5, p5, g5⟩ := th5 (W := W) ot os hbk hL (fs := fs4) (by omega) p4 (some t2) (some (.leaf (.tuple lvl))) y6 none none none none
  obtain ⟨fs6, l6, p6, g6⟩ := th6 (W := W) la os (fs := fs5) (by omega) p5 (some t2) (some (.leaf (.tuple ts))) (some (.leaf (.tuple ls))) (some (.leaf (.tuple lvl))) y6 none none none none
  obtain ⟨fs7, y7, l7, p7, g7⟩ := th7 (W := W) os (fs := fs6) (by omega) p6 (some t2) (some (.leaf (.tuple ts))) (some (.leaf (.tuple ls))) (some (.leaf (.tuple lvl))) y6 none none none none
  obtain ⟨fs8, t3, y8, y9, y10, l8, p8, f8, g8⟩ := rounds_ok (W := W) hb sb cells (k := k + 1200 + 100) (by omega) f2 dS dT (fs := fs7) (by omega) p7 (some (.leaf (.tuple ls))) (some (.leaf (.tuple lvl))) y6 y7 none none none
  obtain ⟨fs9, y5, l9, p9, g9⟩ := th9 (W := W) os ot (fs := fs8) (by omega) p8 (some t3) (some (.leaf (.tuple ls))) (some (.leaf (.tuple lvl))) y6 y7 y8 y9 y10
  refine ⟨fs9, t3, by omega, p9, f8.mono (by omega), run_lent1g (e' := [some (.leaf (.tuple (scn a b back ts))), some (.leaf (.tuple ts)), some (.leaf (.tuple ls)), some (.leaf (.tuple lvl)), y5, y6, y7, y8, y9, y10]) ?_⟩
  show evSs W c__law_things [some t, none, none, none, none, none, none, none, none, none, none] = _
  rw [th_eq, step (c := th_r0) rfl g0, step (c := th_r1) rfl g1, step (c := th_r2) rfl g2, step (c := th_r3) rfl g3, step (c := th_r4) rfl g4, step (c := th_r5) rfl g5, step (c := th_r6) rfl g6, step (c := th_r7) rfl g7, step (c := th_r8) rfl g8]
  exact stop (c := th_r9) rfl g9
structure Wk (W : Wd) : Prop where
  c : ∃ F, W.fn "is_tree" = some ⟨1, [], F⟩ ∧ SpB treeB F
  n : ∃ F, W.fn "is_scene" = some ⟨1, [], F⟩ ∧ SpB sceneB F
  lc : ∃ F, W.fn "_law_is_tree" = some ⟨1, [], F⟩ ∧ SpB treeB F
  ln : ∃ F, W.fn "_law_is_scene" = some ⟨1, [], F⟩ ∧ SpB sceneB F
  th : ∃ F, W.fn "_law_things" = some ⟨1, [0], F⟩ ∧ SpThings F
theorem look_ok {W : Wd} (K : Wk W) {d : D} (hd : Pd d) (x0 x1 x3 : Option T) :
    evSs W lw_b0_r0 [x0, x1, some (.leaf d), x3] = .ok .nx [x0, x1, some (.leaf d), some (.leaf (.str d.shown))] := by
  obtain ⟨⟨F1, h1, s1⟩, ⟨F2, h2, s2⟩, ⟨F3, h3, s3⟩, ⟨F4, h4, s4⟩, _⟩ := K
  have k1 := s1 d hd
  have k2 := s2 d hd
  have k3 := s3 d hd
  have k4 := s4 d hd
  generalize treeB d = b1 at *
  generalize sceneB d = b2 at *
  have r1 := repr_fine (Dt.big hd)
  have rb : reprD [.list [.bool b1, .bool b2]] = some (.leaf (.str (PyData.list [.bool b1, .bool b2]).shown)) := repr_fine (Dt.big (dt_lst (n := 39) (b := 16000) (fun x hx => by
    simp only [List.mem_cons, List.not_mem_nil, or_false] at hx
    rcases hx with rfl | rfl <;> exact .leaf rfl) (by simp [PyData.bulkAll, PyData.bulk])))
  have L : frz (.lst [.leaf (.bool b1), .leaf (.bool b2)]) = .list [.bool b1, .bool b2] := rfl
  have g0 : evS W lw_b0_s0 [x0, x1, some (.leaf d), x3] = .ok .nx [x0, x1, some (.leaf d), some (.leaf (.str d.shown))] := by
    simp [lw_b0_s0, evS, evC, evCs, Bif.d, r1]
  generalize (PyData.list [.bool b1, .bool b2]).shown = Z at *
  have g1 : evS W lw_b0_s1 [x0, x1, some (.leaf d), some (.leaf (.str d.shown))] = .ok .nx [x0, x1, some (.leaf d), some (.leaf (.str d.shown))] := by
    simp [lw_b0_s1, evSs, evS, evC, evCs, Cop.d, Bif.d, h1, h2, h3, h4, lens, k1, k2, k3, k4, L, rb]
  have g2 : evS W lw_b0_s2 [x0, x1, some (.leaf d), some (.leaf (.str d.shown))] = .ok .nx [x0, x1, some (.leaf d), some (.leaf (.str d.shown))] := by
    simp [lw_b0_s2, evSs, evS, evC, evCs, Cop.d, Bif.d, r1]
  rw [step (c := lw_b0_r0) rfl g0, step (c := lw_b0_r1) rfl g1, step (c := lw_b0_r2) rfl g2]
  rfl
theorem law_run {W : Wd} (K : Wk W) (cells : List Int) (h63 : cells.length ≤ 63) (hb : ∀ n ∈ cells, n.natAbs.log2 ≤ 1048576) : ∃ e', evSs W c_law ((List.replicate n_law.length none).set 1 (some (feedT cells))) = .ok (.rt (.leaf (.bool true))) e' := by
  have hf0 : FeedOk cells 0 (feedT cells) := ⟨0, 0, 0, rfl, by omega, by omega, by omega, by omega, ⟨h63, hb⟩⟩
  obtain ⟨Ft, ht, st⟩ := K.th
  obtain ⟨ds, t1, dl, dp, f1, k1⟩ := st cells 0 (feedT cells) (by omega) hf0
  let Inv : Nat → En → Prop := fun _ e => ∃ x2 x3, e = [none, some t1, x2, x3]
  obtain ⟨e', q1, x2, x3, rfl⟩ := gFor_inv (bd := evTg W (.nm 2)) (b := evSs W lw_b0_r0) Inv ds 0 [none, some t1, none, none] ⟨none, none, rfl⟩ (by
    rintro i d e hi ⟨x2, x3, rfl⟩
    have q := look_ok K (dp d (List.mem_of_getElem? hi)) none (some t1) x3
    refine ⟨_, ?_, some (.leaf d), some (.leaf (.str d.shown)), rfl⟩
    rw [← q]
    simp [evTg])
  refine ⟨[none, some t1, x2, x3], ?_⟩
  have Z : frz (.lst (ds.map .leaf)) = .list ds := frz_lvs _
  have hi : evI W lw_i0 [none, some (feedT cells), none, none] = .ok ds [none, some t1, none, none] := by
    generalize T.lst (ds.map .leaf) = S at *
    simp [lw_i0, evI, evC, evCs, ht, lens, k1, maskN, Z]
  have g0 : evS W lw_s0 [none, some (feedT cells), none, none] = .ok .nx [none, some t1, x2, x3] := by
    simp only [lw_s0_eq, evS]
    rw [ap_bnd, hi]
    exact q1
  rw [lw_eq]
  show evSs W lw_r0 [none, some (feedT cells), none, none] = _
  rw [step (c := lw_r0) rfl g0]
  rfl
end Fc

namespace Fc
open PySem PySem.Spec PyProof.Rows L2 IL
def topS (i : Nat) : Stmt := PySem.Challenge.pw_framecourt_k20_trees_and_scenes_by_kind.main.body.getD i (.Pass ⟨0, 0, 0, 0⟩)
theorem sc_is_number : FnScope n_is_number ["thing"] (defScope (topS 3)) := ⟨rfl, rfl, rfl, by decide +kernel, rfl, by decide +kernel, by decide +kernel⟩
theorem ck_is_number : chkSs n_is_number [] (defScope (topS 3)) c_is_number (defBody (topS 3)) = true := by decide +kernel
theorem sc_are_numbers : FnScope n_are_numbers ["thing", "many"] (defScope (topS 4)) := ⟨rfl, rfl, rfl, by decide +kernel, rfl, by decide +kernel, by decide +kernel⟩
theorem ck_are_numbers : chkSs n_are_numbers [] (defScope (topS 4)) c_are_numbers (defBody (topS 4)) = true := by decide +kernel
theorem sc_is_word : FnScope n_is_word ["thing"] (defScope (topS 5)) := ⟨rfl, rfl, rfl, by decide +kernel, rfl, by decide +kernel, by decide +kernel⟩
theorem ck_is_word : chkSs n_is_word [] (defScope (topS 5)) c_is_word (defBody (topS 5)) = true := by decide +kernel
theorem sc_common_divisor : FnScope n_common_divisor ["one", "other"] (defScope (topS 7)) := ⟨rfl, rfl, rfl, by decide +kernel, rfl, by decide +kernel, by decide +kernel⟩
theorem ck_common_divisor : chkSs n_common_divisor [] (defScope (topS 7)) c_common_divisor (defBody (topS 7)) = true := by decide +kernel
theorem sc_is_fraction : FnScope n_is_fraction ["thing"] (defScope (topS 8)) := ⟨rfl, rfl, rfl, by decide +kernel, rfl, by decide +kernel, by decide +kernel⟩
theorem ck_is_fraction : chkSs n_is_fraction [] (defScope (topS 8)) c_is_fraction (defBody (topS 8)) = true := by decide +kernel
theorem sc_is_below : FnScope n_is_below ["one", "other"] (defScope (topS 9)) := ⟨rfl, rfl, rfl, by decide +kernel, rfl, by decide +kernel, by decide +kernel⟩
theorem ck_is_below : chkSs n_is_below [] (defScope (topS 9)) c_is_below (defBody (topS 9)) = true := by decide +kernel
theorem sc_is_part : FnScope n_is_part ["thing"] (defScope (topS 12)) := ⟨rfl, rfl, rfl, by decide +kernel, rfl, by decide +kernel, by decide +kernel⟩
theorem ck_is_part : chkSs n_is_part [] (defScope (topS 12)) c_is_part (defBody (topS 12)) = true := by decide +kernel
theorem sc_is_pixel : FnScope n_is_pixel ["thing"] (defScope (topS 13)) := ⟨rfl, rfl, rfl, by decide +kernel, rfl, by decide +kernel, by decide +kernel⟩
theorem ck_is_pixel : chkSs n_is_pixel [] (defScope (topS 13)) c_is_pixel (defBody (topS 13)) = true := by decide +kernel
theorem sc_is_covered : FnScope n_is_covered ["pixel"] (defScope (topS 14)) := ⟨rfl, rfl, rfl, by decide +kernel, rfl, by decide +kernel, by decide +kernel⟩
theorem ck_is_covered : chkSs n_is_covered [] (defScope (topS 14)) c_is_covered (defBody (topS 14)) = true := by decide +kernel
theorem sc_is_rectangle : FnScope n_is_rectangle ["thing"] (defScope (topS 16)) := ⟨rfl, rfl, rfl, by decide +kernel, rfl, by decide +kernel, by decide +kernel⟩
theorem ck_is_rectangle : chkSs n_is_rectangle [] (defScope (topS 16)) c_is_rectangle (defBody (topS 16)) = true := by decide +kernel
theorem sc_is_tuple_of : FnScope n_is_tuple_of ["thing", "many"] (defScope (topS 18)) := ⟨rfl, rfl, rfl, by decide +kernel, rfl, by decide +kernel, by decide +kernel⟩
theorem ck_is_tuple_of : chkSs n_is_tuple_of [] (defScope (topS 18)) c_is_tuple_of (defBody (topS 18)) = true := by decide +kernel
theorem sc_is_id : FnScope n_is_id ["thing"] (defScope (topS 19)) := ⟨rfl, rfl, rfl, by decide +kernel, rfl, by decide +kernel, by decide +kernel⟩
theorem ck_is_id : chkSs n_is_id [] (defScope (topS 19)) c_is_id (defBody (topS 19)) = true := by decide +kernel
theorem sc_is_content_row : FnScope n_is_content_row ["thing", "many"] (defScope (topS 20)) := ⟨rfl, rfl, rfl, by decide +kernel, rfl, by decide +kernel, by decide +kernel⟩
theorem ck_is_content_row : chkSs n_is_content_row [] (defScope (topS 20)) c_is_content_row (defBody (topS 20)) = true := by decide +kernel
theorem sc_is_content : FnScope n_is_content ["thing"] (defScope (topS 21)) := ⟨rfl, rfl, rfl, by decide +kernel, rfl, by decide +kernel, by decide +kernel⟩
theorem ck_is_content : chkSs n_is_content [] (defScope (topS 21)) c_is_content (defBody (topS 21)) = true := by decide +kernel
theorem sc_is_opacity : FnScope n_is_opacity ["thing"] (defScope (topS 22)) := ⟨rfl, rfl, rfl, by decide +kernel, rfl, by decide +kernel, by decide +kernel⟩
theorem ck_is_opacity : chkSs n_is_opacity [] (defScope (topS 22)) c_is_opacity (defBody (topS 22)) = true := by decide +kernel
theorem sc_is_parent : FnScope n_is_parent ["thing"] (defScope (topS 23)) := ⟨rfl, rfl, rfl, by decide +kernel, rfl, by decide +kernel, by decide +kernel⟩
theorem ck_is_parent : chkSs n_is_parent [] (defScope (topS 23)) c_is_parent (defBody (topS 23)) = true := by decide +kernel
theorem sc_is_node : FnScope n_is_node ["thing"] (defScope (topS 24)) := ⟨rfl, rfl, rfl, by decide +kernel, rfl, by decide +kernel, by decide +kernel⟩
theorem ck_is_node : chkSs n_is_node [] (defScope (topS 24)) c_is_node (defBody (topS 24)) = true := by decide +kernel
theorem sc_is_tree : FnScope n_is_tree ["thing"] (defScope (topS 25)) := ⟨rfl, rfl, rfl, by decide +kernel, rfl, by decide +kernel, by decide +kernel⟩
theorem ck_is_tree : chkSs n_is_tree [] (defScope (topS 25)) c_is_tree (defBody (topS 25)) = true := by decide +kernel
theorem sc_is_scene : FnScope n_is_scene ["thing"] (defScope (topS 26)) := ⟨rfl, rfl, rfl, by decide +kernel, rfl, by decide +kernel, by decide +kernel⟩
theorem ck_is_scene : chkSs n_is_scene [] (defScope (topS 26)) c_is_scene (defBody (topS 26)) = true := by decide +kernel
theorem sc__law_feed : FnScope ["script"] ["script"] (defScope (topS 28)) := ⟨rfl, rfl, rfl, by decide +kernel, rfl, by decide +kernel, by decide +kernel⟩
theorem sc__law_draw : FnScope n__law_draw ["feed", "many"] (defScope (topS 29)) := ⟨rfl, rfl, rfl, by decide +kernel, rfl, by decide +kernel, by decide +kernel⟩
theorem ck__law_draw : chkSs n__law_draw [0] (defScope (topS 29)) c__law_draw (defBody (topS 29)) = true := by decide +kernel
theorem sc__law_frac : FnScope n__law_frac ["top", "bottom"] (defScope (topS 30)) := ⟨rfl, rfl, rfl, by decide +kernel, rfl, by decide +kernel, by decide +kernel⟩
theorem ck__law_frac : chkSs n__law_frac [] (defScope (topS 30)) c__law_frac (defBody (topS 30)) = true := by decide +kernel
theorem sc__law_point : FnScope n__law_point ["feed"] (defScope (topS 31)) := ⟨rfl, rfl, rfl, by decide +kernel, rfl, by decide +kernel, by decide +kernel⟩
theorem ck__law_point : chkSs n__law_point [0] (defScope (topS 31)) c__law_point (defBody (topS 31)) = true := by decide +kernel
theorem sc__law_content : FnScope n__law_content ["feed", "wide", "tall"] (defScope (topS 32)) := ⟨rfl, rfl, rfl, by decide +kernel, rfl, by decide +kernel, by decide +kernel⟩
theorem ck__law_content : chkSs n__law_content [0] (defScope (topS 32)) c__law_content (defBody (topS 32)) = true := by decide +kernel
theorem sc__law_node : FnScope n__law_node ["feed", "name", "parent", "wide"] (defScope (topS 33)) := ⟨rfl, rfl, rfl, by decide +kernel, rfl, by decide +kernel, by decide +kernel⟩
theorem ck__law_node : chkSs n__law_node [0] (defScope (topS 33)) c__law_node (defBody (topS 33)) = true := by decide +kernel
theorem sc__law_scene : FnScope n__law_scene ["feed", "most", "wide"] (defScope (topS 34)) := ⟨rfl, rfl, rfl, by decide +kernel, rfl, by decide +kernel, by decide +kernel⟩
theorem ck__law_scene : chkSs n__law_scene [0] (defScope (topS 34)) c__law_scene (defBody (topS 34)) = true := by decide +kernel
theorem sc__law_is_number : FnScope n__law_is_number ["thing"] (defScope (topS 35)) := ⟨rfl, rfl, rfl, by decide +kernel, rfl, by decide +kernel, by decide +kernel⟩
theorem ck__law_is_number : chkSs n__law_is_number [] (defScope (topS 35)) c__law_is_number (defBody (topS 35)) = true := by decide +kernel
theorem sc__law_is_word : FnScope n__law_is_word ["thing"] (defScope (topS 36)) := ⟨rfl, rfl, rfl, by decide +kernel, rfl, by decide +kernel, by decide +kernel⟩
theorem ck__law_is_word : chkSs n__law_is_word [] (defScope (topS 36)) c__law_is_word (defBody (topS 36)) = true := by decide +kernel
theorem sc__law_is_part : FnScope n__law_is_part ["thing"] (defScope (topS 37)) := ⟨rfl, rfl, rfl, by decide +kernel, rfl, by decide +kernel, by decide +kernel⟩
theorem ck__law_is_part : chkSs n__law_is_part [] (defScope (topS 37)) c__law_is_part (defBody (topS 37)) = true := by decide +kernel
theorem sc__law_is_pixel : FnScope n__law_is_pixel ["thing"] (defScope (topS 38)) := ⟨rfl, rfl, rfl, by decide +kernel, rfl, by decide +kernel, by decide +kernel⟩
theorem ck__law_is_pixel : chkSs n__law_is_pixel [] (defScope (topS 38)) c__law_is_pixel (defBody (topS 38)) = true := by decide +kernel
theorem sc__law_is_pair : FnScope n__law_is_pair ["thing"] (defScope (topS 39)) := ⟨rfl, rfl, rfl, by decide +kernel, rfl, by decide +kernel, by decide +kernel⟩
theorem ck__law_is_pair : chkSs n__law_is_pair [] (defScope (topS 39)) c__law_is_pair (defBody (topS 39)) = true := by decide +kernel
theorem sc__law_is_content : FnScope n__law_is_content ["thing"] (defScope (topS 40)) := ⟨rfl, rfl, rfl, by decide +kernel, rfl, by decide +kernel, by decide +kernel⟩
theorem ck__law_is_content : chkSs n__law_is_content [] (defScope (topS 40)) c__law_is_content (defBody (topS 40)) = true := by decide +kernel
theorem sc__law_is_clip : FnScope n__law_is_clip ["thing"] (defScope (topS 41)) := ⟨rfl, rfl, rfl, by decide +kernel, rfl, by decide +kernel, by decide +kernel⟩
theorem ck__law_is_clip : chkSs n__law_is_clip [] (defScope (topS 41)) c__law_is_clip (defBody (topS 41)) = true := by decide +kernel
theorem sc__law_is_node : FnScope n__law_is_node ["thing"] (defScope (topS 42)) := ⟨rfl, rfl, rfl, by decide +kernel, rfl, by decide +kernel, by decide +kernel⟩
theorem ck__law_is_node : chkSs n__law_is_node [] (defScope (topS 42)) c__law_is_node (defBody (topS 42)) = true := by decide +kernel
theorem sc__law_is_tree : FnScope n__law_is_tree ["thing"] (defScope (topS 43)) := ⟨rfl, rfl, rfl, by decide +kernel, rfl, by decide +kernel, by decide +kernel⟩
theorem ck__law_is_tree : chkSs n__law_is_tree [] (defScope (topS 43)) c__law_is_tree (defBody (topS 43)) = true := by decide +kernel
theorem sc__law_bent : FnScope n__law_bent ["feed", "thing", "deep"] (defScope (topS 44)) := ⟨rfl, rfl, rfl, by decide +kernel, rfl, by decide +kernel, by decide +kernel⟩
theorem ck__law_bent : chkSs n__law_bent [0] (defScope (topS 44)) c__law_bent (defBody (topS 44)) = true := by decide +kernel
theorem sc__law_is_scene : FnScope n__law_is_scene ["thing"] (defScope (topS 45)) := ⟨rfl, rfl, rfl, by decide +kernel, rfl, by decide +kernel, by decide +kernel⟩
theorem ck__law_is_scene : chkSs n__law_is_scene [] (defScope (topS 45)) c__law_is_scene (defBody (topS 45)) = true := by decide +kernel
theorem sc__law_long : FnScope n__law_long ["feed"] (defScope (topS 46)) := ⟨rfl, rfl, rfl, by decide +kernel, rfl, by decide +kernel, by decide +kernel⟩
theorem ck__law_long : chkSs n__law_long [0] (defScope (topS 46)) c__law_long (defBody (topS 46)) = true := by decide +kernel
theorem sc__law_things : FnScope n__law_things ["feed"] (defScope (topS 47)) := ⟨rfl, rfl, rfl, by decide +kernel, rfl, by decide +kernel, by decide +kernel⟩
theorem ck__law_things : chkSs n__law_things [0] (defScope (topS 47)) c__law_things (defBody (topS 47)) = true := by decide +kernel
theorem sc_law : FnScope n_law ["script"] (defScope (topS 48)) := ⟨rfl, rfl, rfl, by decide +kernel, rfl, by decide +kernel, by decide +kernel⟩
theorem ck_law : chkSs n_law [] (defScope (topS 48)) c_law (defBody (topS 48)).tail = true := by decide +kernel
end Fc

namespace Fc
open PySem PySem.Spec PyProof.Rows L2 IL
def g_LETTERS : D := .str "abcdefghijklmnopqrstuvwxyz"
def g_MOST_LETTERS : D := .int 8
def g_WHOLE : D := .tuple [.int 1, .int 1]
structure Facts (K : PySem.W.Frag) (mg : Str → Option Value) : Prop where
  blt : ∀ x ∈ bltNames, mg x = none
  f_is_number : Df K mg "is_number" (topS 3) n_is_number ["thing"]
  f_are_numbers : Df K mg "are_numbers" (topS 4) n_are_numbers ["thing", "many"]
  f_is_word : Df K mg "is_word" (topS 5) n_is_word ["thing"]
  f_common_divisor : Df K mg "common_divisor" (topS 7) n_common_divisor ["one", "other"]
  f_is_fraction : Df K mg "is_fraction" (topS 8) n_is_fraction ["thing"]
  f_is_below : Df K mg "is_below" (topS 9) n_is_below ["one", "other"]
  f_is_part : Df K mg "is_part" (topS 12) n_is_part ["thing"]
  f_is_pixel : Df K mg "is_pixel" (topS 13) n_is_pixel ["thing"]
  f_is_covered : Df K mg "is_covered" (topS 14) n_is_covered ["pixel"]
  f_is_rectangle : Df K mg "is_rectangle" (topS 16) n_is_rectangle ["thing"]
  f_is_tuple_of : Df K mg "is_tuple_of" (topS 18) n_is_tuple_of ["thing", "many"]
  f_is_id : Df K mg "is_id" (topS 19) n_is_id ["thing"]
  f_is_content_row : Df K mg "is_content_row" (topS 20) n_is_content_row ["thing", "many"]
  f_is_content : Df K mg "is_content" (topS 21) n_is_content ["thing"]
  f_is_opacity : Df K mg "is_opacity" (topS 22) n_is_opacity ["thing"]
  f_is_parent : Df K mg "is_parent" (topS 23) n_is_parent ["thing"]
  f_is_node : Df K mg "is_node" (topS 24) n_is_node ["thing"]
  f_is_tree : Df K mg "is_tree" (topS 25) n_is_tree ["thing"]
  f_is_scene : Df K mg "is_scene" (topS 26) n_is_scene ["thing"]
  f__law_feed : Df K mg "_law_feed" (topS 28) ["script"] ["script"]
  f__law_draw : Df K mg "_law_draw" (topS 29) n__law_draw ["feed", "many"]
  f__law_frac : Df K mg "_law_frac" (topS 30) n__law_frac ["top", "bottom"]
  f__law_point : Df K mg "_law_point" (topS 31) n__law_point ["feed"]
  f__law_content : Df K mg "_law_content" (topS 32) n__law_content ["feed", "wide", "tall"]
  f__law_node : Df K mg "_law_node" (topS 33) n__law_node ["feed", "name", "parent", "wide"]
  f__law_scene : Df K mg "_law_scene" (topS 34) n__law_scene ["feed", "most", "wide"]
  f__law_is_number : Df K mg "_law_is_number" (topS 35) n__law_is_number ["thing"]
  f__law_is_word : Df K mg "_law_is_word" (topS 36) n__law_is_word ["thing"]
  f__law_is_part : Df K mg "_law_is_part" (topS 37) n__law_is_part ["thing"]
  f__law_is_pixel : Df K mg "_law_is_pixel" (topS 38) n__law_is_pixel ["thing"]
  f__law_is_pair : Df K mg "_law_is_pair" (topS 39) n__law_is_pair ["thing"]
  f__law_is_content : Df K mg "_law_is_content" (topS 40) n__law_is_content ["thing"]
  f__law_is_clip : Df K mg "_law_is_clip" (topS 41) n__law_is_clip ["thing"]
  f__law_is_node : Df K mg "_law_is_node" (topS 42) n__law_is_node ["thing"]
  f__law_is_tree : Df K mg "_law_is_tree" (topS 43) n__law_is_tree ["thing"]
  f__law_bent : Df K mg "_law_bent" (topS 44) n__law_bent ["feed", "thing", "deep"]
  f__law_is_scene : Df K mg "_law_is_scene" (topS 45) n__law_is_scene ["thing"]
  f__law_long : Df K mg "_law_long" (topS 46) n__law_long ["feed"]
  f__law_things : Df K mg "_law_things" (topS 47) n__law_things ["feed"]
  f_law : ∃ f fd, Fun K "law" "law" (topS 48) f fd ∧ mg "law" = some (.ref f) ∧ ∀ (s : Shared) (u : Value), BindsTo s fd ⟨[u], []⟩ [("script", u)]
  g_LETTERS : ∃ v u, mg "LETTERS" = some u ∧ RelV v u ∧ ∀ J H, RD K J H v g_LETTERS
  g_MOST_LETTERS : ∃ v u, mg "MOST_LETTERS" = some u ∧ RelV v u ∧ ∀ J H, RD K J H v g_MOST_LETTERS
  g_WHOLE : ∃ v u, mg "WHOLE" = some u ∧ RelV v u ∧ ∀ J H, RD K J H v g_WHOLE
theorem facts_mk {K : PySem.W.Frag} {h : Heap} {mg : Str → Option Value} (X : K.In h) (G : h.Ns mainGlobals mg)
  {p_is_number : Addr} {od_is_number an_is_number : Option Addr} {sl_is_number : Array (Option Value)} {oc_is_number kV_is_number dc_is_number pm_is_number cd_is_number ct_is_number : Value}
  {p_are_numbers : Addr} {od_are_numbers an_are_numbers : Option Addr} {sl_are_numbers : Array (Option Value)} {oc_are_numbers kV_are_numbers dc_are_numbers pm_are_numbers cd_are_numbers ct_are_numbers : Value}
  {p_is_word : Addr} {od_is_word an_is_word : Option Addr} {sl_is_word : Array (Option Value)} {oc_is_word kV_is_word dc_is_word pm_is_word cd_is_word ct_is_word : Value}
  {p_common_divisor : Addr} {od_common_divisor an_common_divisor : Option Addr} {sl_common_divisor : Array (Option Value)} {oc_common_divisor kV_common_divisor dc_common_divisor pm_common_divisor cd_common_divisor ct_common_divisor : Value}
  {p_is_fraction : Addr} {od_is_fraction an_is_fraction : Option Addr} {sl_is_fraction : Array (Option Value)} {oc_is_fraction kV_is_fraction dc_is_fraction pm_is_fraction cd_is_fraction ct_is_fraction : Value}
  {p_is_below : Addr} {od_is_below an_is_below : Option Addr} {sl_is_below : Array (Option Value)} {oc_is_below kV_is_below dc_is_below pm_is_below cd_is_below ct_is_below : Value}
  {p_is_part : Addr} {od_is_part an_is_part : Option Addr} {sl_is_part : Array (Option Value)} {oc_is_part kV_is_part dc_is_part pm_is_part cd_is_part ct_is_part : Value}
  {p_is_pixel : Addr} {od_is_pixel an_is_pixel : Option Addr} {sl_is_pixel : Array (Option Value)} {oc_is_pixel kV_is_pixel dc_is_pixel pm_is_pixel cd_is_pixel ct_is_pixel : Value}
  {p_is_covered : Addr} {od_is_covered an_is_covered : Option Addr} {sl_is_covered : Array (Option Value)} {oc_is_covered kV_is_covered dc_is_covered pm_is_covered cd_is_covered ct_is_covered : Value}
  {p_is_rectangle : Addr} {od_is_rectangle an_is_rectangle : Option Addr} {sl_is_rectangle : Array (Option Value)} {oc_is_rectangle kV_is_rectangle dc_is_rectangle pm_is_rectangle cd_is_rectangle ct_is_rectangle : Value}
  {p_is_tuple_of : Addr} {od_is_tuple_of an_is_tuple_of : Option Addr} {sl_is_tuple_of : Array (Option Value)} {oc_is_tuple_of kV_is_tuple_of dc_is_tuple_of pm_is_tuple_of cd_is_tuple_of ct_is_tuple_of : Value}
  {p_is_id : Addr} {od_is_id an_is_id : Option Addr} {sl_is_id : Array (Option Value)} {oc_is_id kV_is_id dc_is_id pm_is_id cd_is_id ct_is_id : Value}
  {p_is_content_row : Addr} {od_is_content_row an_is_content_row : Option Addr} {sl_is_content_row : Array (Option Value)} {oc_is_content_row kV_is_content_row dc_is_content_row pm_is_content_row cd_is_content_row ct_is_content_row : Value}
  {p_is_content : Addr} {od_is_content an_is_content : Option Addr} {sl_is_content : Array (Option Value)} {oc_is_content kV_is_content dc_is_content pm_is_content cd_is_content ct_is_content : Value}
  {p_is_opacity : Addr} {od_is_opacity an_is_opacity : Option Addr} {sl_is_opacity : Array (Option Value)} {oc_is_opacity kV_is_opacity dc_is_opacity pm_is_opacity cd_is_opacity ct_is_opacity : Value}
  {p_is_parent : Addr} {od_is_parent an_is_parent : Option Addr} {sl_is_parent : Array (Option Value)} {oc_is_parent kV_is_parent dc_is_parent pm_is_parent cd_is_parent ct_is_parent : Value}
  {p_is_node : Addr} {od_is_node an_is_node : Option Addr} {sl_is_node : Array (Option Value)} {oc_is_node kV_is_node dc_is_node pm_is_node cd_is_node ct_is_node : Value}
  {p_is_tree : Addr} {od_is_tree an_is_tree : Option Addr} {sl_is_tree : Array (Option Value)} {oc_is_tree kV_is_tree dc_is_tree pm_is_tree cd_is_tree ct_is_tree : Value}
  {p_is_scene : Addr} {od_is_scene an_is_scene : Option Addr} {sl_is_scene : Array (Option Value)} {oc_is_scene kV_is_scene dc_is_scene pm_is_scene cd_is_scene ct_is_scene : Value}
  {p__law_feed : Addr} {od__law_feed an__law_feed : Option Addr} {sl__law_feed : Array (Option Value)} {oc__law_feed kV__law_feed dc__law_feed pm__law_feed cd__law_feed ct__law_feed : Value}
  {p__law_draw : Addr} {od__law_draw an__law_draw : Option Addr} {sl__law_draw : Array (Option Value)} {oc__law_draw kV__law_draw dc__law_draw pm__law_draw cd__law_draw ct__law_draw : Value}
  {p__law_frac : Addr} {od__law_frac an__law_frac : Option Addr} {sl__law_frac : Array (Option Value)} {oc__law_frac kV__law_frac dc__law_frac pm__law_frac cd__law_frac ct__law_frac : Value}
  {p__law_point : Addr} {od__law_point an__law_point : Option Addr} {sl__law_point : Array (Option Value)} {oc__law_point kV__law_point dc__law_point pm__law_point cd__law_point ct__law_point : Value}
  {p__law_content : Addr} {od__law_content an__law_content : Option Addr} {sl__law_content : Array (Option Value)} {oc__law_content kV__law_content dc__law_content pm__law_content cd__law_content ct__law_content : Value}
  {p__law_node : Addr} {od__law_node an__law_node : Option Addr} {sl__law_node : Array (Option Value)} {oc__law_node kV__law_node dc__law_node pm__law_node cd__law_node ct__law_node : Value}
  {p__law_scene : Addr} {od__law_scene an__law_scene : Option Addr} {sl__law_scene : Array (Option Value)} {oc__law_scene kV__law_scene dc__law_scene pm__law_scene cd__law_scene ct__law_scene : Value}
  {p__law_is_number : Addr} {od__law_is_number an__law_is_number : Option Addr} {sl__law_is_number : Array (Option Value)} {oc__law_is_number kV__law_is_number dc__law_is_number pm__law_is_number cd__law_is_number ct__law_is_number : Value}
  {p__law_is_word : Addr} {od__law_is_word an__law_is_word : Option Addr} {sl__law_is_word : Array (Option Value)} {oc__law_is_word kV__law_is_word dc__law_is_word pm__law_is_word cd__law_is_word ct__law_is_word : Value}
  {p__law_is_part : Addr} {od__law_is_part an__law_is_part : Option Addr} {sl__law_is_part : Array (Option Value)} {oc__law_is_part kV__law_is_part dc__law_is_part pm__law_is_part cd__law_is_part ct__law_is_part : Value}
  {p__law_is_pixel : Addr} {od__law_is_pixel an__law_is_pixel : Option Addr} {sl__law_is_pixel : Array (Option Value)} {oc__law_is_pixel kV__law_is_pixel dc__law_is_pixel pm__law_is_pixel cd__law_is_pixel ct__law_is_pixel : Value}
  {p__law_is_pair : Addr} {od__law_is_pair an__law_is_pair : Option Addr} {sl__law_is_pair : Array (Option Value)} {oc__law_is_pair kV__law_is_pair dc__law_is_pair pm__law_is_pair cd__law_is_pair ct__law_is_pair : Value}
  {p__law_is_content : Addr} {od__law_is_content an__law_is_content : Option Addr} {sl__law_is_content : Array (Option Value)} {oc__law_is_content kV__law_is_content dc__law_is_content pm__law_is_content cd__law_is_content ct__law_is_content : Value}
  {p__law_is_clip : Addr} {od__law_is_clip an__law_is_clip : Option Addr} {sl__law_is_clip : Array (Option Value)} {oc__law_is_clip kV__law_is_clip dc__law_is_clip pm__law_is_clip cd__law_is_clip ct__law_is_clip : Value}
  {p__law_is_node : Addr} {od__law_is_node an__law_is_node : Option Addr} {sl__law_is_node : Array (Option Value)} {oc__law_is_node kV__law_is_node dc__law_is_node pm__law_is_node cd__law_is_node ct__law_is_node : Value}
  {p__law_is_tree : Addr} {od__law_is_tree an__law_is_tree : Option Addr} {sl__law_is_tree : Array (Option Value)} {oc__law_is_tree kV__law_is_tree dc__law_is_tree pm__law_is_tree cd__law_is_tree ct__law_is_tree : Value}
  {p__law_bent : Addr} {od__law_bent an__law_bent : Option Addr} {sl__law_bent : Array (Option Value)} {oc__law_bent kV__law_bent dc__law_bent pm__law_bent cd__law_bent ct__law_bent : Value}
  {p__law_is_scene : Addr} {od__law_is_scene an__law_is_scene : Option Addr} {sl__law_is_scene : Array (Option Value)} {oc__law_is_scene kV__law_is_scene dc__law_is_scene pm__law_is_scene cd__law_is_scene ct__law_is_scene : Value}
  {p__law_long : Addr} {od__law_long an__law_long : Option Addr} {sl__law_long : Array (Option Value)} {oc__law_long kV__law_long dc__law_long pm__law_long cd__law_long ct__law_long : Value}
  {p__law_things : Addr} {od__law_things an__law_things : Option Addr} {sl__law_things : Array (Option Value)} {oc__law_things kV__law_things dc__law_things pm__law_things cd__law_things ct__law_things : Value}
  {p_law : Addr} {od_law an_law : Option Addr} {sl_law : Array (Option Value)} {oc_law kV_law dc_law pm_law cd_law ct_law : Value}
  {t_LETTERS_0 : Tok}
  {t_MOST_LETTERS_0 : Tok}
  {q_WHOLE_0 : Addr}
  {t_WHOLE_1 : Tok}
  {t_WHOLE_2 : Tok}
  {d_q_WHOLE_0 : Option Addr} {n_q_WHOLE_0 : Nat} {s_q_WHOLE_0 : Array (Option Value)}
  (a_is_number : PySem.W.nsIn K mainGlobals "is_number" = some (some (.ref p_is_number)))
  (l_is_number : K.lookup p_is_number = some ⟨oc_is_number, od_is_number, .func (PySem.W.fnOf "is_number" "is_number" (defArgs (topS 3)) (defBody (topS 3)) (defScope (topS 3)) .none kV_is_number dc_is_number pm_is_number an_is_number cd_is_number ct_is_number), sl_is_number⟩)
  (c_is_number : PySem.W.codeIn K cd_is_number "is_number" = true)
  (k_is_number : PySem.W.keepIn K (.ref p_is_number) = true)
  (a_are_numbers : PySem.W.nsIn K mainGlobals "are_numbers" = some (some (.ref p_are_numbers)))
  (l_are_numbers : K.lookup p_are_numbers = some ⟨oc_are_numbers, od_are_numbers, .func (PySem.W.fnOf "are_numbers" "are_numbers" (defArgs (topS 4)) (defBody (topS 4)) (defScope (topS 4)) .none kV_are_numbers dc_are_numbers pm_are_numbers an_are_numbers cd_are_numbers ct_are_numbers), sl_are_numbers⟩)
  (c_are_numbers : PySem.W.codeIn K cd_are_numbers "are_numbers" = true)
  (k_are_numbers : PySem.W.keepIn K (.ref p_are_numbers) = true)
  (a_is_word : PySem.W.nsIn K mainGlobals "is_word" = some (some (.ref p_is_word)))
  (l_is_word : K.lookup p_is_word = some ⟨oc_is_word, od_is_word, .func (PySem.W.fnOf "is_word" "is_word" (defArgs (topS 5)) (defBody (topS 5)) (defScope (topS 5)) .none kV_is_word dc_is_word pm_is_word an_is_word cd_is_word ct_is_word), sl_is_word⟩)
  (c_is_word : PySem.W.codeIn K cd_is_word "is_word" = true)
  (k_is_word : PySem.W.keepIn K (.ref p_is_word) = true)
  (a_common_divisor : PySem.W.nsIn K mainGlobals "common_divisor" = some (some (.ref p_common_divisor)))
  (l_common_divisor : K.lookup p_common_divisor = some ⟨oc_common_divisor, od_common_divisor, .func (PySem.W.fnOf "common_divisor" "common_divisor" (defArgs (topS 7)) (defBody (topS 7)) (defScope (topS 7)) .none kV_common_divisor dc_common_divisor pm_common_divisor an_common_divisor cd_common_divisor ct_common_divisor), sl_common_divisor⟩)
  (c_common_divisor : PySem.W.codeIn K cd_common_divisor "common_divisor" = true)
  (k_common_divisor : PySem.W.keepIn K (.ref p_common_divisor) = true)
  (a_is_fraction : PySem.W.nsIn K mainGlobals "is_fraction" = some (some (.ref p_is_fraction)))
  (l_is_fraction : K.lookup p_is_fraction = some ⟨oc_is_fraction, od_is_fraction, .func (PySem.W.fnOf "is_fraction" "is_fraction" (defArgs (topS 8)) (defBody (topS 8)) (defScope (topS 8)) .none kV_is_fraction dc_is_fraction pm_is_fraction an_is_fraction cd_is_fraction ct_is_fraction), sl_is_fraction⟩)
  (c_is_fraction : PySem.W.codeIn K cd_is_fraction "is_fraction" = true)
  (k_is_fraction : PySem.W.keepIn K (.ref p_is_fraction) = true)
  (a_is_below : PySem.W.nsIn K mainGlobals "is_below" = some (some (.ref p_is_below)))
  (l_is_below : K.lookup p_is_below = some ⟨oc_is_below, od_is_below, .func (PySem.W.fnOf "is_below" "is_below" (defArgs (topS 9)) (defBody (topS 9)) (defScope (topS 9)) .none kV_is_below dc_is_below pm_is_below an_is_below cd_is_below ct_is_below), sl_is_below⟩)
  (c_is_below : PySem.W.codeIn K cd_is_below "is_below" = true)
  (k_is_below : PySem.W.keepIn K (.ref p_is_below) = true)
  (a_is_part : PySem.W.nsIn K mainGlobals "is_part" = some (some (.ref p_is_part)))
  (l_is_part : K.lookup p_is_part = some ⟨oc_is_part, od_is_part, .func (PySem.W.fnOf "is_part" "is_part" (defArgs (topS 12)) (defBody (topS 12)) (defScope (topS 12)) .none kV_is_part dc_is_part pm_is_part an_is_part cd_is_part ct_is_part), sl_is_part⟩)
  (c_is_part : PySem.W.codeIn K cd_is_part "is_part" = true)
  (k_is_part : PySem.W.keepIn K (.ref p_is_part) = true)
  (a_is_pixel : PySem.W.nsIn K mainGlobals "is_pixel" = some (some (.ref p_is_pixel)))
  (l_is_pixel : K.lookup p_is_pixel = some ⟨oc_is_pixel, od_is_pixel, .func (PySem.W.fnOf "is_pixel" "is_pixel" (defArgs (topS 13)) (defBody (topS 13)) (defScope (topS 13)) .none kV_is_pixel dc_is_pixel pm_is_pixel an_is_pixel cd_is_pixel ct_is_pixel), sl_is_pixel⟩)
  (c_is_pixel : PySem.W.codeIn K cd_is_pixel "is_pixel" = true)
  (k_is_pixel : PySem.W.keepIn K (.ref p_is_pixel) = true)
  (a_is_covered : PySem.W.nsIn K mainGlobals "is_covered" = some (some (.ref p_is_covered)))
  (l_is_covered : K.lookup p_is_covered = some ⟨oc_is_covered, od_is_covered, .func (PySem.W.fnOf "is_covered" "is_covered" (defArgs (topS 14)) (defBody (topS 14)) (defScope (topS 14)) .none kV_is_covered dc_is_covered pm_is_covered an_is_covered cd_is_covered ct_is_covered), sl_is_covered⟩)
  (c_is_covered : PySem.W.codeIn K cd_is_covered "is_covered" = true)
  (k_is_covered : PySem.W.keepIn K (.ref p_is_covered) = true)
  (a_is_rectangle : PySem.W.nsIn K mainGlobals "is_rectangle" = some (some (.ref p_is_rectangle)))
  (l_is_rectangle : K.lookup p_is_rectangle = some ⟨oc_is_rectangle, od_is_rectangle, .func (PySem.W.fnOf "is_rectangle" "is_rectangle" (defArgs (topS 16)) (defBody (topS 16)) (defScope (topS 16)) .none kV_is_rectangle dc_is_rectangle pm_is_rectangle an_is_rectangle cd_is_rectangle ct_is_rectangle), sl_is_rectangle⟩)
  (c_is_rectangle : PySem.W.codeIn K cd_is_rectangle "is_rectangle" = true)
  (k_is_rectangle : PySem.W.keepIn K (.ref p_is_rectangle) = true)
  (a_is_tuple_of : PySem.W.nsIn K mainGlobals "is_tuple_of" = some (some (.ref p_is_tuple_of)))
  (l_is_tuple_of : K.lookup p_is_tuple_of = some ⟨oc_is_tuple_of, od_is_tuple_of, .func (PySem.W.fnOf "is_tuple_of" "is_tuple_of" (defArgs (topS 18)) (defBody (topS 18)) (defScope (topS 18)) .none kV_is_tuple_of dc_is_tuple_of pm_is_tuple_of an_is_tuple_of cd_is_tuple_of ct_is_tuple_of), sl_is_tuple_of⟩)
  (c_is_tuple_of : PySem.W.codeIn K cd_is_tuple_of "is_tuple_of" = true)
  (k_is_tuple_of : PySem.W.keepIn K (.ref p_is_tuple_of) = true)
  (a_is_id : PySem.W.nsIn K mainGlobals "is_id" = some (some (.ref p_is_id)))
  (l_is_id : K.lookup p_is_id = some ⟨oc_is_id, od_is_id, .func (PySem.W.fnOf "is_id" "is_id" (defArgs (topS 19)) (defBody (topS 19)) (defScope (topS 19)) .none kV_is_id dc_is_id pm_is_id an_is_id cd_is_id ct_is_id), sl_is_id⟩)
  (c_is_id : PySem.W.codeIn K cd_is_id "is_id" = true)
  (k_is_id : PySem.W.keepIn K (.ref p_is_id) = true)
  (a_is_content_row : PySem.W.nsIn K mainGlobals "is_content_row" = some (some (.ref p_is_content_row)))
  (l_is_content_row : K.lookup p_is_content_row = some ⟨oc_is_content_row, od_is_content_row, .func (PySem.W.fnOf "is_content_row" "is_content_row" (defArgs (topS 20)) (defBody (topS 20)) (defScope (topS 20)) .none kV_is_content_row dc_is_content_row pm_is_content_row an_is_content_row cd_is_content_row ct_is_content_row), sl_is_content_row⟩)
  (c_is_content_row : PySem.W.codeIn K cd_is_content_row "is_content_row" = true)
  (k_is_content_row : PySem.W.keepIn K (.ref p_is_content_row) = true)
  (a_is_content : PySem.W.nsIn K mainGlobals "is_content" = some (some (.ref p_is_content)))
  (l_is_content : K.lookup p_is_content = some ⟨oc_is_content, od_is_content, .func (PySem.W.fnOf "is_content" "is_content" (defArgs (topS 21)) (defBody (topS 21)) (defScope (topS 21)) .none kV_is_content dc_is_content pm_is_content an_is_content cd_is_content ct_is_content), sl_is_content⟩)
  (c_is_content : PySem.W.codeIn K cd_is_content "is_content" = true)
  (k_is_content : PySem.W.keepIn K (.ref p_is_content) = true)
  (a_is_opacity : PySem.W.nsIn K mainGlobals "is_opacity" = some (some (.ref p_is_opacity)))
  (l_is_opacity : K.lookup p_is_opacity = some ⟨oc_is_opacity, od_is_opacity, .func (PySem.W.fnOf "is_opacity" "is_opacity" (defArgs (topS 22)) (defBody (topS 22)) (defScope (topS 22)) .none kV_is_opacity dc_is_opacity pm_is_opacity an_is_opacity cd_is_opacity ct_is_opacity), sl_is_opacity⟩)
  (c_is_opacity : PySem.W.codeIn K cd_is_opacity "is_opacity" = true)
  (k_is_opacity : PySem.W.keepIn K (.ref p_is_opacity) = true)
  (a_is_parent : PySem.W.nsIn K mainGlobals "is_parent" = some (some (.ref p_is_parent)))
  (l_is_parent : K.lookup p_is_parent = some ⟨oc_is_parent, od_is_parent, .func (PySem.W.fnOf "is_parent" "is_parent" (defArgs (topS 23)) (defBody (topS 23)) (defScope (topS 23)) .none kV_is_parent dc_is_parent pm_is_parent an_is_parent cd_is_parent ct_is_parent), sl_is_parent⟩)
  (c_is_parent : PySem.W.codeIn K cd_is_parent "is_parent" = true)
  (k_is_parent : PySem.W.keepIn K (.ref p_is_parent) = true)
  (a_is_node : PySem.W.nsIn K mainGlobals "is_node" = some (some (.ref p_is_node)))
  (l_is_node : K.lookup p_is_node = some ⟨oc_is_node, od_is_node, .func (PySem.W.fnOf "is_node" "is_node" (defArgs (topS 24)) (defBody (topS 24)) (defScope (topS 24)) .none kV_is_node dc_is_node pm_is_node an_is_node cd_is_node ct_is_node), sl_is_node⟩)
  (c_is_node : PySem.W.codeIn K cd_is_node "is_node" = true)
  (k_is_node : PySem.W.keepIn K (.ref p_is_node) = true)
  (a_is_tree : PySem.W.nsIn K mainGlobals "is_tree" = some (some (.ref p_is_tree)))
  (l_is_tree : K.lookup p_is_tree = some ⟨oc_is_tree, od_is_tree, .func (PySem.W.fnOf "is_tree" "is_tree" (defArgs (topS 25)) (defBody (topS 25)) (defScope (topS 25)) .none kV_is_tree dc_is_tree pm_is_tree an_is_tree cd_is_tree ct_is_tree), sl_is_tree⟩)
  (c_is_tree : PySem.W.codeIn K cd_is_tree "is_tree" = true)
  (k_is_tree : PySem.W.keepIn K (.ref p_is_tree) = true)
  (a_is_scene : PySem.W.nsIn K mainGlobals "is_scene" = some (some (.ref p_is_scene)))
  (l_is_scene : K.lookup p_is_scene = some ⟨oc_is_scene, od_is_scene, .func (PySem.W.fnOf "is_scene" "is_scene" (defArgs (topS 26)) (defBody (topS 26)) (defScope (topS 26)) .none kV_is_scene dc_is_scene pm_is_scene an_is_scene cd_is_scene ct_is_scene), sl_is_scene⟩)
  (c_is_scene : PySem.W.codeIn K cd_is_scene "is_scene" = true)
  (k_is_scene : PySem.W.keepIn K (.ref p_is_scene) = true)
  (a__law_feed : PySem.W.nsIn K mainGlobals "_law_feed" = some (some (.ref p__law_feed)))
  (l__law_feed : K.lookup p__law_feed = some ⟨oc__law_feed, od__law_feed, .func (PySem.W.fnOf "_law_feed" "_law_feed" (defArgs (topS 28)) (defBody (topS 28)) (defScope (topS 28)) .none kV__law_feed dc__law_feed pm__law_feed an__law_feed cd__law_feed ct__law_feed), sl__law_feed⟩)
  (c__law_feed : PySem.W.codeIn K cd__law_feed "_law_feed" = true)
  (k__law_feed : PySem.W.keepIn K (.ref p__law_feed) = true)
  (a__law_draw : PySem.W.nsIn K mainGlobals "_law_draw" = some (some (.ref p__law_draw)))
  (l__law_draw : K.lookup p__law_draw = some ⟨oc__law_draw, od__law_draw, .func (PySem.W.fnOf "_law_draw" "_law_draw" (defArgs (topS 29)) (defBody (topS 29)) (defScope (topS 29)) .none kV__law_draw dc__law_draw pm__law_draw an__law_draw cd__law_draw ct__law_draw), sl__law_draw⟩)
  (c__law_draw : PySem.W.codeIn K cd__law_draw "_law_draw" = true)
  (k__law_draw : PySem.W.keepIn K (.ref p__law_draw) = true)
  (a__law_frac : PySem.W.nsIn K mainGlobals "_law_frac" = some (some (.ref p__law_frac)))
  (l__law_frac : K.lookup p__law_frac = some ⟨oc__law_frac, od__law_frac, .func (PySem.W.fnOf "_law_frac" "_law_frac" (defArgs (topS 30)) (defBody (topS 30)) (defScope (topS 30)) .none kV__law_frac dc__law_frac pm__law_frac an__law_frac cd__law_frac ct__law_frac), sl__law_frac⟩)
  (c__law_frac : PySem.W.codeIn K cd__law_frac "_law_frac" = true)
  (k__law_frac : PySem.W.keepIn K (.ref p__law_frac) = true)
  (a__law_point : PySem.W.nsIn K mainGlobals "_law_point" = some (some (.ref p__law_point)))
  (l__law_point : K.lookup p__law_point = some ⟨oc__law_point, od__law_point, .func (PySem.W.fnOf "_law_point" "_law_point" (defArgs (topS 31)) (defBody (topS 31)) (defScope (topS 31)) .none kV__law_point dc__law_point pm__law_point an__law_point cd__law_point ct__law_point), sl__law_point⟩)
  (c__law_point : PySem.W.codeIn K cd__law_point "_law_point" = true)
  (k__law_point : PySem.W.keepIn K (.ref p__law_point) = true)
  (a__law_content : PySem.W.nsIn K mainGlobals "_law_content" = some (some (.ref p__law_content)))
  (l__law_content : K.lookup p__law_content = some ⟨oc__law_content, od__law_content, .func (PySem.W.fnOf "_law_content" "_law_content" (defArgs (topS 32)) (defBody (topS 32)) (defScope (topS 32)) .none kV__law_content dc__law_content pm__law_content an__law_content cd__law_content ct__law_content), sl__law_content⟩)
  (c__law_content : PySem.W.codeIn K cd__law_content "_law_content" = true)
  (k__law_content : PySem.W.keepIn K (.ref p__law_content) = true)
  (a__law_node : PySem.W.nsIn K mainGlobals "_law_node" = some (some (.ref p__law_node)))
  (l__law_node : K.lookup p__law_node = some ⟨oc__law_node, od__law_node, .func (PySem.W.fnOf "_law_node" "_law_node" (defArgs (topS 33)) (defBody (topS 33)) (defScope (topS 33)) .none kV__law_node dc__law_node pm__law_node an__law_node cd__law_node ct__law_node), sl__law_node⟩)
  (c__law_node : PySem.W.codeIn K cd__law_node "_law_node" = true)
  (k__law_node : PySem.W.keepIn K (.ref p__law_node) = true)
  (a__law_scene : PySem.W.nsIn K mainGlobals "_law_scene" = some (some (.ref p__law_scene)))
  (l__law_scene : K.lookup p__law_scene = some ⟨oc__law_scene, od__law_scene, .func (PySem.W.fnOf "_law_scene" "_law_scene" (defArgs (topS 34)) (defBody (topS 34)) (defScope (topS 34)) .none kV__law_scene dc__law_scene pm__law_scene an__law_scene cd__law_scene ct__law_scene), sl__law_scene⟩)
  (c__law_scene : PySem.W.codeIn K cd__law_scene "_law_scene" = true)
  (k__law_scene : PySem.W.keepIn K (.ref p__law_scene) = true)
  (a__law_is_number : PySem.W.nsIn K mainGlobals "_law_is_number" = some (some (.ref p__law_is_number)))
  (l__law_is_number : K.lookup p__law_is_number = some ⟨oc__law_is_number, od__law_is_number, .func (PySem.W.fnOf "_law_is_number" "_law_is_number" (defArgs (topS 35)) (defBody (topS 35)) (defScope (topS 35)) .none kV__law_is_number dc__law_is_number pm__law_is_number an__law_is_number cd__law_is_number ct__law_is_number), sl__law_is_number⟩)
  (c__law_is_number : PySem.W.codeIn K cd__law_is_number "_law_is_number" = true)
  (k__law_is_number : PySem.W.keepIn K (.ref p__law_is_number) = true)
  (a__law_is_word : PySem.W.nsIn K mainGlobals "_law_is_word" = some (some (.ref p__law_is_word)))
  (l__law_is_word : K.lookup p__law_is_word = some ⟨oc__law_is_word, od__law_is_word, .func (PySem.W.fnOf "_law_is_word" "_law_is_word" (defArgs (topS 36)) (defBody (topS 36)) (defScope (topS 36)) .none kV__law_is_word dc__law_is_word pm__law_is_word an__law_is_word cd__law_is_word ct__law_is_word), sl__law_is_word⟩)
  (c__law_is_word : PySem.W.codeIn K cd__law_is_word "_law_is_word" = true)
  (k__law_is_word : PySem.W.keepIn K (.ref p__law_is_word) = true)
  (a__law_is_part : PySem.W.nsIn K mainGlobals "_law_is_part" = some (some (.ref p__law_is_part)))
  (l__law_is_part : K.lookup p__law_is_part = some ⟨oc__law_is_part, od__law_is_part, .func (PySem.W.fnOf "_law_is_part" "_law_is_part" (defArgs (topS 37)) (defBody (topS 37)) (defScope (topS 37)) .none kV__law_is_part dc__law_is_part pm__law_is_part an__law_is_part cd__law_is_part ct__law_is_part), sl__law_is_part⟩)
  (c__law_is_part : PySem.W.codeIn K cd__law_is_part "_law_is_part" = true)
  (k__law_is_part : PySem.W.keepIn K (.ref p__law_is_part) = true)
  (a__law_is_pixel : PySem.W.nsIn K mainGlobals "_law_is_pixel" = some (some (.ref p__law_is_pixel)))
  (l__law_is_pixel : K.lookup p__law_is_pixel = some ⟨oc__law_is_pixel, od__law_is_pixel, .func (PySem.W.fnOf "_law_is_pixel" "_law_is_pixel" (defArgs (topS 38)) (defBody (topS 38)) (defScope (topS 38)) .none kV__law_is_pixel dc__law_is_pixel pm__law_is_pixel an__law_is_pixel cd__law_is_pixel ct__law_is_pixel), sl__law_is_pixel⟩)
  (c__law_is_pixel : PySem.W.codeIn K cd__law_is_pixel "_law_is_pixel" = true)
  (k__law_is_pixel : PySem.W.keepIn K (.ref p__law_is_pixel) = true)
  (a__law_is_pair : PySem.W.nsIn K mainGlobals "_law_is_pair" = some (some (.ref p__law_is_pair)))
  (l__law_is_pair : K.lookup p__law_is_pair = some ⟨oc__law_is_pair, od__law_is_pair, .func (PySem.W.fnOf "_law_is_pair" "_law_is_pair" (defArgs (topS 39)) (defBody (topS 39)) (defScope (topS 39)) .none kV__law_is_pair dc__law_is_pair pm__law_is_pair an__law_is_pair cd__law_is_pair ct__law_is_pair), sl__law_is_pair⟩)
  (c__law_is_pair : PySem.W.codeIn K cd__law_is_pair "_law_is_pair" = true)
  (k__law_is_pair : PySem.W.keepIn K (.ref p__law_is_pair) = true)
  (a__law_is_content : PySem.W.nsIn K mainGlobals "_law_is_content" = some (some (.ref p__law_is_content)))
  (l__law_is_content : K.lookup p__law_is_content = some ⟨oc__law_is_content, od__law_is_content, .func (PySem.W.fnOf "_law_is_content" "_law_is_content" (defArgs (topS 40)) (defBody (topS 40)) (defScope (topS 40)) .none kV__law_is_content dc__law_is_content pm__law_is_content an__law_is_content cd__law_is_content ct__law_is_content), sl__law_is_content⟩)
  (c__law_is_content : PySem.W.codeIn K cd__law_is_content "_law_is_content" = true)
  (k__law_is_content : PySem.W.keepIn K (.ref p__law_is_content) = true)
  (a__law_is_clip : PySem.W.nsIn K mainGlobals "_law_is_clip" = some (some (.ref p__law_is_clip)))
  (l__law_is_clip : K.lookup p__law_is_clip = some ⟨oc__law_is_clip, od__law_is_clip, .func (PySem.W.fnOf "_law_is_clip" "_law_is_clip" (defArgs (topS 41)) (defBody (topS 41)) (defScope (topS 41)) .none kV__law_is_clip dc__law_is_clip pm__law_is_clip an__law_is_clip cd__law_is_clip ct__law_is_clip), sl__law_is_clip⟩)
  (c__law_is_clip : PySem.W.codeIn K cd__law_is_clip "_law_is_clip" = true)
  (k__law_is_clip : PySem.W.keepIn K (.ref p__law_is_clip) = true)
  (a__law_is_node : PySem.W.nsIn K mainGlobals "_law_is_node" = some (some (.ref p__law_is_node)))
  (l__law_is_node : K.lookup p__law_is_node = some ⟨oc__law_is_node, od__law_is_node, .func (PySem.W.fnOf "_law_is_node" "_law_is_node" (defArgs (topS 42)) (defBody (topS 42)) (defScope (topS 42)) .none kV__law_is_node dc__law_is_node pm__law_is_node an__law_is_node cd__law_is_node ct__law_is_node), sl__law_is_node⟩)
  (c__law_is_node : PySem.W.codeIn K cd__law_is_node "_law_is_node" = true)
  (k__law_is_node : PySem.W.keepIn K (.ref p__law_is_node) = true)
  (a__law_is_tree : PySem.W.nsIn K mainGlobals "_law_is_tree" = some (some (.ref p__law_is_tree)))
  (l__law_is_tree : K.lookup p__law_is_tree = some ⟨oc__law_is_tree, od__law_is_tree, .func (PySem.W.fnOf "_law_is_tree" "_law_is_tree" (defArgs (topS 43)) (defBody (topS 43)) (defScope (topS 43)) .none kV__law_is_tree dc__law_is_tree pm__law_is_tree an__law_is_tree cd__law_is_tree ct__law_is_tree), sl__law_is_tree⟩)
  (c__law_is_tree : PySem.W.codeIn K cd__law_is_tree "_law_is_tree" = true)
  (k__law_is_tree : PySem.W.keepIn K (.ref p__law_is_tree) = true)
  (a__law_bent : PySem.W.nsIn K mainGlobals "_law_bent" = some (some (.ref p__law_bent)))
  (l__law_bent : K.lookup p__law_bent = some ⟨oc__law_bent, od__law_bent, .func (PySem.W.fnOf "_law_bent" "_law_bent" (defArgs (topS 44)) (defBody (topS 44)) (defScope (topS 44)) .none kV__law_bent dc__law_bent pm__law_bent an__law_bent cd__law_bent ct__law_bent), sl__law_bent⟩)
  (c__law_bent : PySem.W.codeIn K cd__law_bent "_law_bent" = true)
  (k__law_bent : PySem.W.keepIn K (.ref p__law_bent) = true)
  (a__law_is_scene : PySem.W.nsIn K mainGlobals "_law_is_scene" = some (some (.ref p__law_is_scene)))
  (l__law_is_scene : K.lookup p__law_is_scene = some ⟨oc__law_is_scene, od__law_is_scene, .func (PySem.W.fnOf "_law_is_scene" "_law_is_scene" (defArgs (topS 45)) (defBody (topS 45)) (defScope (topS 45)) .none kV__law_is_scene dc__law_is_scene pm__law_is_scene an__law_is_scene cd__law_is_scene ct__law_is_scene), sl__law_is_scene⟩)
  (c__law_is_scene : PySem.W.codeIn K cd__law_is_scene "_law_is_scene" = true)
  (k__law_is_scene : PySem.W.keepIn K (.ref p__law_is_scene) = true)
  (a__law_long : PySem.W.nsIn K mainGlobals "_law_long" = some (some (.ref p__law_long)))
  (l__law_long : K.lookup p__law_long = some ⟨oc__law_long, od__law_long, .func (PySem.W.fnOf "_law_long" "_law_long" (defArgs (topS 46)) (defBody (topS 46)) (defScope (topS 46)) .none kV__law_long dc__law_long pm__law_long an__law_long cd__law_long ct__law_long), sl__law_long⟩)
  (c__law_long : PySem.W.codeIn K cd__law_long "_law_long" = true)
  (k__law_long : PySem.W.keepIn K (.ref p__law_long) = true)
  (a__law_things : PySem.W.nsIn K mainGlobals "_law_things" = some (some (.ref p__law_things)))
  (l__law_things : K.lookup p__law_things = some ⟨oc__law_things, od__law_things, .func (PySem.W.fnOf "_law_things" "_law_things" (defArgs (topS 47)) (defBody (topS 47)) (defScope (topS 47)) .none kV__law_things dc__law_things pm__law_things an__law_things cd__law_things ct__law_things), sl__law_things⟩)
  (c__law_things : PySem.W.codeIn K cd__law_things "_law_things" = true)
  (k__law_things : PySem.W.keepIn K (.ref p__law_things) = true)
  (a_law : PySem.W.nsIn K mainGlobals "law" = some (some (.ref p_law)))
  (l_law : K.lookup p_law = some ⟨oc_law, od_law, .func (PySem.W.fnOf "law" "law" (defArgs (topS 48)) (defBody (topS 48)) (defScope (topS 48)) .none kV_law dc_law pm_law an_law cd_law ct_law), sl_law⟩)
  (c_law : PySem.W.codeIn K cd_law "law" = true)
  (k_law : PySem.W.keepIn K (.ref p_law) = true)
  (b_LETTERS : PySem.W.nsIn K mainGlobals "LETTERS" = some (some (.str "abcdefghijklmnopqrstuvwxyz" t_LETTERS_0)))
  (b_MOST_LETTERS : PySem.W.nsIn K mainGlobals "MOST_LETTERS" = some (some (.int 8 t_MOST_LETTERS_0)))
  (b_WHOLE : PySem.W.nsIn K mainGlobals "WHOLE" = some (some (.ref q_WHOLE_0)))
  (L_q_WHOLE_0 : K.lookup q_WHOLE_0 = some ⟨.type "tuple", d_q_WHOLE_0, .seq ([(.int 1 t_WHOLE_1), (.int 1 t_WHOLE_2)] : List Value).toArray n_q_WHOLE_0, s_q_WHOLE_0⟩)
  (z_len : PySem.W.nsIn K mainGlobals "len" = some none)
  (z_abs : PySem.W.nsIn K mainGlobals "abs" = some none)
  (z_list : PySem.W.nsIn K mainGlobals "list" = some none)
  (z_tuple : PySem.W.nsIn K mainGlobals "tuple" = some none)
  (z_all : PySem.W.nsIn K mainGlobals "all" = some none)
  (z_any : PySem.W.nsIn K mainGlobals "any" = some none)
  (z_sum : PySem.W.nsIn K mainGlobals "sum" = some none)
  (z_max : PySem.W.nsIn K mainGlobals "max" = some none)
  (z_min : PySem.W.nsIn K mainGlobals "min" = some none)
  (z_repr : PySem.W.nsIn K mainGlobals "repr" = some none)
  (z_isinstance : PySem.W.nsIn K mainGlobals "isinstance" = some none)
  (z_int : PySem.W.nsIn K mainGlobals "int" = some none)
  (z_bool : PySem.W.nsIn K mainGlobals "bool" = some none)
  (z_str : PySem.W.nsIn K mainGlobals "str" = some none)
  (z_dict : PySem.W.nsIn K mainGlobals "dict" = some none)
  (z_range : PySem.W.nsIn K mainGlobals "range" = some none)
  (z_zip : PySem.W.nsIn K mainGlobals "zip" = some none)
  (z_enumerate : PySem.W.nsIn K mainGlobals "enumerate" = some none) : Facts K mg where
  blt := fun x hx => by
    simp only [bltNames, List.mem_cons, List.not_mem_nil, or_false] at hx
    rcases hx with rfl | rfl | rfl | rfl | rfl | rfl | rfl | rfl | rfl | rfl | rfl | rfl | rfl | rfl | rfl | rfl | rfl | rfl
    · exact PySem.W.mg_none_of X G z_len
    · exact PySem.W.mg_none_of X G z_abs
    · exact PySem.W.mg_none_of X G z_list
    · exact PySem.W.mg_none_of X G z_tuple
    · exact PySem.W.mg_none_of X G z_all
    · exact PySem.W.mg_none_of X G z_any
    · exact PySem.W.mg_none_of X G z_sum
    · exact PySem.W.mg_none_of X G z_max
    · exact PySem.W.mg_none_of X G z_min
    · exact PySem.W.mg_none_of X G z_repr
    · exact PySem.W.mg_none_of X G z_isinstance
    · exact PySem.W.mg_none_of X G z_int
    · exact PySem.W.mg_none_of X G z_bool
    · exact PySem.W.mg_none_of X G z_str
    · exact PySem.W.mg_none_of X G z_dict
    · exact PySem.W.mg_none_of X G z_range
    · exact PySem.W.mg_none_of X G z_zip
    · exact PySem.W.mg_none_of X G z_enumerate
  f_is_number := ⟨⟨_, _, fun_mk l_is_number c_is_number k_is_number, PySem.W.mg_of X G a_is_number, (fun_mk l_is_number c_is_number k_is_number).binds fun _ _ _ _ _ _ us hl => match us, hl with | [_], _ => rfl⟩, sc_is_number⟩
  f_are_numbers := ⟨⟨_, _, fun_mk l_are_numbers c_are_numbers k_are_numbers, PySem.W.mg_of X G a_are_numbers, (fun_mk l_are_numbers c_are_numbers k_are_numbers).binds fun _ _ _ _ _ _ us hl => match us, hl with | [_, _], _ => rfl⟩, sc_are_numbers⟩
  f_is_word := ⟨⟨_, _, fun_mk l_is_word c_is_word k_is_word, PySem.W.mg_of X G a_is_word, (fun_mk l_is_word c_is_word k_is_word).binds fun _ _ _ _ _ _ us hl => match us, hl with | [_], _ => rfl⟩, sc_is_word⟩
  f_common_divisor := ⟨⟨_, _, fun_mk l_common_divisor c_common_divisor k_common_divisor, PySem.W.mg_of X G a_common_divisor, (fun_mk l_common_divisor c_common_divisor k_common_divisor).binds fun _ _ _ _ _ _ us hl => match us, hl with | [_, _], _ => rfl⟩, sc_common_divisor⟩
  f_is_fraction := ⟨⟨_, _, fun_mk l_is_fraction c_is_fraction k_is_fraction, PySem.W.mg_of X G a_is_fraction, (fun_mk l_is_fraction c_is_fraction k_is_fraction).binds fun _ _ _ _ _ _ us hl => match us, hl with | [_], _ => rfl⟩, sc_is_fraction⟩
  f_is_below := ⟨⟨_, _, fun_mk l_is_below c_is_below k_is_below, PySem.W.mg_of X G a_is_below, (fun_mk l_is_below c_is_below k_is_below).binds fun _ _ _ _ _ _ us hl => match us, hl with | [_, _], _ => rfl⟩, sc_is_below⟩
  f_is_part := ⟨⟨_, _, fun_mk l_is_part c_is_part k_is_part, PySem.W.mg_of X G a_is_part, (fun_mk l_is_part c_is_part k_is_part).binds fun _ _ _ _ _ _ us hl => match us, hl with | [_], _ => rfl⟩, sc_is_part⟩
  f_is_pixel := ⟨⟨_, _, fun_mk l_is_pixel c_is_pixel k_is_pixel, PySem.W.mg_of X G a_is_pixel, (fun_mk l_is_pixel c_is_pixel k_is_pixel).binds fun _ _ _ _ _ _ us hl => match us, hl with | [_], _ => rfl⟩, sc_is_pixel⟩
  f_is_covered := ⟨⟨_, _, fun_mk l_is_covered c_is_covered k_is_covered, PySem.W.mg_of X G a_is_covered, (fun_mk l_is_covered c_is_covered k_is_covered).binds fun _ _ _ _ _ _ us hl => match us, hl with | [_], _ => rfl⟩, sc_is_covered⟩
  f_is_rectangle := ⟨⟨_, _, fun_mk l_is_rectangle c_is_rectangle k_is_rectangle, PySem.W.mg_of X G a_is_rectangle, (fun_mk l_is_rectangle c_is_rectangle k_is_rectangle).binds fun _ _ _ _ _ _ us hl => match us, hl with | [_], _ => rfl⟩, sc_is_rectangle⟩
  f_is_tuple_of := ⟨⟨_, _, fun_mk l_is_tuple_of c_is_tuple_of k_is_tuple_of, PySem.W.mg_of X G a_is_tuple_of, (fun_mk l_is_tuple_of c_is_tuple_of k_is_tuple_of).binds fun _ _ _ _ _ _ us hl => match us, hl with | [_, _], _ => rfl⟩, sc_is_tuple_of⟩
  f_is_id := ⟨⟨_, _, fun_mk l_is_id c_is_id k_is_id, PySem.W.mg_of X G a_is_id, (fun_mk l_is_id c_is_id k_is_id).binds fun _ _ _ _ _ _ us hl => match us, hl with | [_], _ => rfl⟩, sc_is_id⟩
  f_is_content_row := ⟨⟨_, _, fun_mk l_is_content_row c_is_content_row k_is_content_row, PySem.W.mg_of X G a_is_content_row, (fun_mk l_is_content_row c_is_content_row k_is_content_row).binds fun _ _ _ _ _ _ us hl => match us, hl with | [_, _], _ => rfl⟩, sc_is_content_row⟩
  f_is_content := ⟨⟨_, _, fun_mk l_is_content c_is_content k_is_content, PySem.W.mg_of X G a_is_content, (fun_mk l_is_content c_is_content k_is_content).binds fun _ _ _ _ _ _ us hl => match us, hl with | [_], _ => rfl⟩, sc_is_content⟩
  f_is_opacity := ⟨⟨_, _, fun_mk l_is_opacity c_is_opacity k_is_opacity, PySem.W.mg_of X G a_is_opacity, (fun_mk l_is_opacity c_is_opacity k_is_opacity).binds fun _ _ _ _ _ _ us hl => match us, hl with | [_], _ => rfl⟩, sc_is_opacity⟩
  f_is_parent := ⟨⟨_, _, fun_mk l_is_parent c_is_parent k_is_parent, PySem.W.mg_of X G a_is_parent, (fun_mk l_is_parent c_is_parent k_is_parent).binds fun _ _ _ _ _ _ us hl => match us, hl with | [_], _ => rfl⟩, sc_is_parent⟩
  f_is_node := ⟨⟨_, _, fun_mk l_is_node c_is_node k_is_node, PySem.W.mg_of X G a_is_node, (fun_mk l_is_node c_is_node k_is_node).binds fun _ _ _ _ _ _ us hl => match us, hl with | [_], _ => rfl⟩, sc_is_node⟩
  f_is_tree := ⟨⟨_, _, fun_mk l_is_tree c_is_tree k_is_tree, PySem.W.mg_of X G a_is_tree, (fun_mk l_is_tree c_is_tree k_is_tree).binds fun _ _ _ _ _ _ us hl => match us, hl with | [_], _ => rfl⟩, sc_is_tree⟩
  f_is_scene := ⟨⟨_, _, fun_mk l_is_scene c_is_scene k_is_scene, PySem.W.mg_of X G a_is_scene, (fun_mk l_is_scene c_is_scene k_is_scene).binds fun _ _ _ _ _ _ us hl => match us, hl with | [_], _ => rfl⟩, sc_is_scene⟩
  f__law_feed := ⟨⟨_, _, fun_mk l__law_feed c__law_feed k__law_feed, PySem.W.mg_of X G a__law_feed, (fun_mk l__law_feed c__law_feed k__law_feed).binds fun _ _ _ _ _ _ us hl => match us, hl with | [_], _ => rfl⟩, sc__law_feed⟩
  f__law_draw := ⟨⟨_, _, fun_mk l__law_draw c__law_draw k__law_draw, PySem.W.mg_of X G a__law_draw, (fun_mk l__law_draw c__law_draw k__law_draw).binds fun _ _ _ _ _ _ us hl => match us, hl with | [_, _], _ => rfl⟩, sc__law_draw⟩
  f__law_frac := ⟨⟨_, _, fun_mk l__law_frac c__law_frac k__law_frac, PySem.W.mg_of X G a__law_frac, (fun_mk l__law_frac c__law_frac k__law_frac).binds fun _ _ _ _ _ _ us hl => match us, hl with | [_, _], _ => rfl⟩, sc__law_frac⟩
  f__law_point := ⟨⟨_, _, fun_mk l__law_point c__law_point k__law_point, PySem.W.mg_of X G a__law_point, (fun_mk l__law_point c__law_point k__law_point).binds fun _ _ _ _ _ _ us hl => match us, hl with | [_], _ => rfl⟩, sc__law_point⟩
  f__law_content := ⟨⟨_, _, fun_mk l__law_content c__law_content k__law_content, PySem.W.mg_of X G a__law_content, (fun_mk l__law_content c__law_content k__law_content).binds fun _ _ _ _ _ _ us hl => match us, hl with | [_, _, _], _ => rfl⟩, sc__law_content⟩
  f__law_node := ⟨⟨_, _, fun_mk l__law_node c__law_node k__law_node, PySem.W.mg_of X G a__law_node, (fun_mk l__law_node c__law_node k__law_node).binds fun _ _ _ _ _ _ us hl => match us, hl with | [_, _, _, _], _ => rfl⟩, sc__law_node⟩
  f__law_scene := ⟨⟨_, _, fun_mk l__law_scene c__law_scene k__law_scene, PySem.W.mg_of X G a__law_scene, (fun_mk l__law_scene c__law_scene k__law_scene).binds fun _ _ _ _ _ _ us hl => match us, hl with | [_, _, _], _ => rfl⟩, sc__law_scene⟩
  f__law_is_number := ⟨⟨_, _, fun_mk l__law_is_number c__law_is_number k__law_is_number, PySem.W.mg_of X G a__law_is_number, (fun_mk l__law_is_number c__law_is_number k__law_is_number).binds fun _ _ _ _ _ _ us hl => match us, hl with | [_], _ => rfl⟩, sc__law_is_number⟩
  f__law_is_word := ⟨⟨_, _, fun_mk l__law_is_word c__law_is_word k__law_is_word, PySem.W.mg_of X G a__law_is_word, (fun_mk l__law_is_word c__law_is_word k__law_is_word).binds fun _ _ _ _ _ _ us hl => match us, hl with | [_], _ => rfl⟩, sc__law_is_word⟩
  f__law_is_part := ⟨⟨_, _, fun_mk l__law_is_part c__law_is_part k__law_is_part, PySem.W.mg_of X G a__law_is_part, (fun_mk l__law_is_part c__law_is_part k__law_is_part).binds fun _ _ _ _ _ _ us hl => match us, hl with | [_], _ => rfl⟩, sc__law_is_part⟩
  f__law_is_pixel := ⟨⟨_, _, fun_mk l__law_is_pixel c__law_is_pixel k__law_is_pixel, PySem.W.mg_of X G a__law_is_pixel, (fun_mk l__law_is_pixel c__law_is_pixel k__law_is_pixel).binds fun _ _ _ _ _ _ us hl => match us, hl with | [_], _ => rfl⟩, sc__law_is_pixel⟩
  f__law_is_pair := ⟨⟨_, _, fun_mk l__law_is_pair c__law_is_pair k__law_is_pair, PySem.W.mg_of X G a__law_is_pair, (fun_mk l__law_is_pair c__law_is_pair k__law_is_pair).binds fun _ _ _ _ _ _ us hl => match us, hl with | [_], _ => rfl⟩, sc__law_is_pair⟩
  f__law_is_content := ⟨⟨_, _, fun_mk l__law_is_content c__law_is_content k__law_is_content, PySem.W.mg_of X G a__law_is_content, (fun_mk l__law_is_content c__law_is_content k__law_is_content).binds fun _ _ _ _ _ _ us hl => match us, hl with | [_], _ => rfl⟩, sc__law_is_content⟩
  f__law_is_clip := ⟨⟨_, _, fun_mk l__law_is_clip c__law_is_clip k__law_is_clip, PySem.W.mg_of X G a__law_is_clip, (fun_mk l__law_is_clip c__law_is_clip k__law_is_clip).binds fun _ _ _ _ _ _ us hl => match us, hl with | [_], _ => rfl⟩, sc__law_is_clip⟩
  f__law_is_node := ⟨⟨_, _, fun_mk l__law_is_node c__law_is_node k__law_is_node, PySem.W.mg_of X G a__law_is_node, (fun_mk l__law_is_node c__law_is_node k__law_is_node).binds fun _ _ _ _ _ _ us hl => match us, hl with | [_], _ => rfl⟩, sc__law_is_node⟩
  f__law_is_tree := ⟨⟨_, _, fun_mk l__law_is_tree c__law_is_tree k__law_is_tree, PySem.W.mg_of X G a__law_is_tree, (fun_mk l__law_is_tree c__law_is_tree k__law_is_tree).binds fun _ _ _ _ _ _ us hl => match us, hl with | [_], _ => rfl⟩, sc__law_is_tree⟩
  f__law_bent := ⟨⟨_, _, fun_mk l__law_bent c__law_bent k__law_bent, PySem.W.mg_of X G a__law_bent, (fun_mk l__law_bent c__law_bent k__law_bent).binds fun _ _ _ _ _ _ us hl => match us, hl with | [_, _, _], _ => rfl⟩, sc__law_bent⟩
  f__law_is_scene := ⟨⟨_, _, fun_mk l__law_is_scene c__law_is_scene k__law_is_scene, PySem.W.mg_of X G a__law_is_scene, (fun_mk l__law_is_scene c__law_is_scene k__law_is_scene).binds fun _ _ _ _ _ _ us hl => match us, hl with | [_], _ => rfl⟩, sc__law_is_scene⟩
  f__law_long := ⟨⟨_, _, fun_mk l__law_long c__law_long k__law_long, PySem.W.mg_of X G a__law_long, (fun_mk l__law_long c__law_long k__law_long).binds fun _ _ _ _ _ _ us hl => match us, hl with | [_], _ => rfl⟩, sc__law_long⟩
  f__law_things := ⟨⟨_, _, fun_mk l__law_things c__law_things k__law_things, PySem.W.mg_of X G a__law_things, (fun_mk l__law_things c__law_things k__law_things).binds fun _ _ _ _ _ _ us hl => match us, hl with | [_], _ => rfl⟩, sc__law_things⟩
  f_law := ⟨_, _, fun_mk l_law c_law k_law, PySem.W.mg_of X G a_law, fun s v => .of_eq rfl⟩
  g_LETTERS := ⟨(.str "abcdefghijklmnopqrstuvwxyz"), _, PySem.W.mg_of X G b_LETTERS, (rv_str _ _), fun J H => RD.str _⟩
  g_MOST_LETTERS := ⟨(.int 8), _, PySem.W.mg_of X G b_MOST_LETTERS, (rv_int _ _), fun J H => RD.int _⟩
  g_WHOLE := ⟨(.ref q_WHOLE_0), _, PySem.W.mg_of X G b_WHOLE, (rv_ref _), fun J H => RD.tup (.inr (.inr ⟨_, _, _, L_q_WHOLE_0, rfl, rfl, (show 2 ≤ sizeLine by decide), (.cons (rv_int _ _) (.cons (rv_int _ _) .nil))⟩)) (RDs.cons (RD.int _) (RDs.cons (RD.int _) RDs.nil))⟩
def W0 : Wd := { fn := fun _ => none, glb := fun x => if x = "LETTERS" then some (.str lettersS) else if x = "MOST_LETTERS" then some (.int 8) else if x = "WHOLE" then some (fr 1 1) else none }
def F_is_number : FSem := runM n_is_number.length 1 [] (evSs W0 c_is_number)
def W1 : Wd := W0.add "is_number" ⟨1, [], F_is_number⟩
def F_are_numbers : FSem := runM n_are_numbers.length 2 [] (evSs W1 c_are_numbers)
def W2 : Wd := W1.add "are_numbers" ⟨2, [], F_are_numbers⟩
def F_is_word : FSem := runM n_is_word.length 1 [] (evSs W2 c_is_word)
def W3 : Wd := W2.add "is_word" ⟨1, [], F_is_word⟩
def W4 : Wd := W3.add "common_divisor" ⟨2, [], pureF 2 gGcd⟩
def F_is_fraction : FSem := runM n_is_fraction.length 1 [] (evSs W4 c_is_fraction)
def W5 : Wd := W4.add "is_fraction" ⟨1, [], F_is_fraction⟩
def F_is_below : FSem := runM n_is_below.length 2 [] (evSs W5 c_is_below)
def W6 : Wd := W5.add "is_below" ⟨2, [], F_is_below⟩
def F_is_part : FSem := runM n_is_part.length 1 [] (evSs W6 c_is_part)
def W7 : Wd := W6.add "is_part" ⟨1, [], F_is_part⟩
def F_is_pixel : FSem := runM n_is_pixel.length 1 [] (evSs W7 c_is_pixel)
def W8 : Wd := W7.add "is_pixel" ⟨1, [], F_is_pixel⟩
def F_is_covered : FSem := runM n_is_covered.length 1 [] (evSs W8 c_is_covered)
def W9 : Wd := W8.add "is_covered" ⟨1, [], F_is_covered⟩
def F_is_rectangle : FSem := runM n_is_rectangle.length 1 [] (evSs W9 c_is_rectangle)
def W10 : Wd := W9.add "is_rectangle" ⟨1, [], F_is_rectangle⟩
def F_is_tuple_of : FSem := runM n_is_tuple_of.length 2 [] (evSs W10 c_is_tuple_of)
def W11 : Wd := W10.add "is_tuple_of" ⟨2, [], F_is_tuple_of⟩
def F_is_id : FSem := runM n_is_id.length 1 [] (evSs W11 c_is_id)
def W12 : Wd := W11.add "is_id" ⟨1, [], F_is_id⟩
def F_is_content_row : FSem := runM n_is_content_row.length 2 [] (evSs W12 c_is_content_row)
def W13 : Wd := W12.add "is_content_row" ⟨2, [], F_is_content_row⟩
def F_is_content : FSem := runM n_is_content.length 1 [] (evSs W13 c_is_content)
def W14 : Wd := W13.add "is_content" ⟨1, [], F_is_content⟩
def F_is_opacity : FSem := runM n_is_opacity.length 1 [] (evSs W14 c_is_opacity)
def W15 : Wd := W14.add "is_opacity" ⟨1, [], F_is_opacity⟩
def F_is_parent : FSem := runM n_is_parent.length 1 [] (evSs W15 c_is_parent)
def W16 : Wd := W15.add "is_parent" ⟨1, [], F_is_parent⟩
def F_is_node : FSem := runM n_is_node.length 1 [] (evSs W16 c_is_node)
def W17 : Wd := W16.add "is_node" ⟨1, [], F_is_node⟩
def F_is_tree : FSem := runM n_is_tree.length 1 [] (evSs W17 c_is_tree)
def W18 : Wd := W17.add "is_tree" ⟨1, [], F_is_tree⟩
def F_is_scene : FSem := runM n_is_scene.length 1 [] (evSs W18 c_is_scene)
def W19 : Wd := W18.add "is_scene" ⟨1, [], F_is_scene⟩
def F__law_draw : FSem := runM n__law_draw.length 2 [0] (evSs W19 c__law_draw)
def W20 : Wd := W19.add "_law_draw" ⟨2, [0], F__law_draw⟩
def F__law_frac : FSem := runM n__law_frac.length 2 [] (evSs W20 c__law_frac)
def W21 : Wd := W20.add "_law_frac" ⟨2, [], F__law_frac⟩
def F__law_point : FSem := runM n__law_point.length 1 [0] (evSs W21 c__law_point)
def W22 : Wd := W21.add "_law_point" ⟨1, [0], F__law_point⟩
def F__law_content : FSem := runM n__law_content.length 3 [0] (evSs W22 c__law_content)
def W23 : Wd := W22.add "_law_content" ⟨3, [0], F__law_content⟩
def F__law_node : FSem := runM n__law_node.length 4 [0] (evSs W23 c__law_node)
def W24 : Wd := W23.add "_law_node" ⟨4, [0], F__law_node⟩
def F__law_scene : FSem := runM n__law_scene.length 3 [0] (evSs W24 c__law_scene)
def W25 : Wd := W24.add "_law_scene" ⟨3, [0], F__law_scene⟩
def F__law_is_number : FSem := runM n__law_is_number.length 1 [] (evSs W25 c__law_is_number)
def W26 : Wd := W25.add "_law_is_number" ⟨1, [], F__law_is_number⟩
def F__law_is_word : FSem := runM n__law_is_word.length 1 [] (evSs W26 c__law_is_word)
def W27 : Wd := W26.add "_law_is_word" ⟨1, [], F__law_is_word⟩
def F__law_is_part : FSem := runM n__law_is_part.length 1 [] (evSs W27 c__law_is_part)
def W28 : Wd := W27.add "_law_is_part" ⟨1, [], F__law_is_part⟩
def F__law_is_pixel : FSem := runM n__law_is_pixel.length 1 [] (evSs W28 c__law_is_pixel)
def W29 : Wd := W28.add "_law_is_pixel" ⟨1, [], F__law_is_pixel⟩
def F__law_is_pair : FSem := runM n__law_is_pair.length 1 [] (evSs W29 c__law_is_pair)
def W30 : Wd := W29.add "_law_is_pair" ⟨1, [], F__law_is_pair⟩
def F__law_is_content : FSem := runM n__law_is_content.length 1 [] (evSs W30 c__law_is_content)
def W31 : Wd := W30.add "_law_is_content" ⟨1, [], F__law_is_content⟩
def F__law_is_clip : FSem := runM n__law_is_clip.length 1 [] (evSs W31 c__law_is_clip)
def W32 : Wd := W31.add "_law_is_clip" ⟨1, [], F__law_is_clip⟩
def F__law_is_node : FSem := runM n__law_is_node.length 1 [] (evSs W32 c__law_is_node)
def W33 : Wd := W32.add "_law_is_node" ⟨1, [], F__law_is_node⟩
def F__law_is_tree : FSem := runM n__law_is_tree.length 1 [] (evSs W33 c__law_is_tree)
def W34 : Wd := W33.add "_law_is_tree" ⟨1, [], F__law_is_tree⟩
def F__law_is_scene : FSem := runM n__law_is_scene.length 1 [] (evSs W34 c__law_is_scene)
def W35 : Wd := W34.add "_law_is_scene" ⟨1, [], F__law_is_scene⟩
def F__law_long : FSem := runM n__law_long.length 1 [0] (evSs W35 c__law_long)
def W36 : Wd := W35.add "_law_long" ⟨1, [0], F__law_long⟩
def W37 : Wd := W36.add "_law_bent" ⟨3, [0], fBent W36 10⟩
def F__law_things : FSem := runM n__law_things.length 1 [0] (evSs W37 c__law_things)
def W38 : Wd := W37.add "_law_things" ⟨1, [0], F__law_things⟩
section
variable {P : Program} {w : World} {K : PySem.W.Frag} {mg : Str → Option Value}
theorem tab0 (Fa : Facts K mg) {base : Heap} : Tab P w K mg base 0 W0 := ⟨Fa.blt, fun _ _ h => (nomatch h), (fun x d h => by
  unfold W0 at h
  simp only at h
  split at h
  · rename_i e
    subst e
    cases h
    exact Fa.g_LETTERS
  · split at h
    · rename_i e
      subst e
      cases h
      exact Fa.g_MOST_LETTERS
    · split at h
      · rename_i e
        subst e
        cases h
        exact Fa.g_WHOLE
      · cases h), rfl⟩
theorem tabN (Fa : Facts K mg) {base : Heap} : Tab P w K mg base 47 W38 := by
  have t0 : Tab P w K mg base 0 W0 := tab0 Fa
  have t1 : Tab P w K mg base 1 W1 := t0.add Fa.f_is_number ck_is_number rfl (F := F_is_number) (fun _ _ _ h => h)
  have t2 : Tab P w K mg base 2 W2 := t1.add Fa.f_are_numbers ck_are_numbers rfl (F := F_are_numbers) (fun _ _ _ h => h)
  have t3 : Tab P w K mg base 3 W3 := t2.add Fa.f_is_word ck_is_word rfl (F := F_is_word) (fun _ _ _ h => h)
  have t4 : Tab P w K mg base 4 W4 := t3.add Fa.f_common_divisor ck_common_divisor rfl (ok_common_divisor W3)
  have t5 : Tab P w K mg base 5 W5 := t4.add Fa.f_is_fraction ck_is_fraction rfl (F := F_is_fraction) (fun _ _ _ h => h)
  have t6 : Tab P w K mg base 6 W6 := t5.add Fa.f_is_below ck_is_below rfl (F := F_is_below) (fun _ _ _ h => h)
  have t7 : Tab P w K mg base 7 W7 := t6.add Fa.f_is_part ck_is_part rfl (F := F_is_part) (fun _ _ _ h => h)
  have t8 : Tab P w K mg base 8 W8 := t7.add Fa.f_is_pixel ck_is_pixel rfl (F := F_is_pixel) (fun _ _ _ h => h)
  have t9 : Tab P w K mg base 9 W9 := t8.add Fa.f_is_covered ck_is_covered rfl (F := F_is_covered) (fun _ _ _ h => h)
  have t10 : Tab P w K mg base 10 W10 := t9.add Fa.f_is_rectangle ck_is_rectangle rfl (F := F_is_rectangle) (fun _ _ _ h => h)
  have t11 : Tab P w K mg base 11 W11 := t10.add Fa.f_is_tuple_of ck_is_tuple_of rfl (F := F_is_tuple_of) (fun _ _ _ h => h)
  have t12 : Tab P w K mg base 12 W12 := t11.add Fa.f_is_id ck_is_id rfl (F := F_is_id) (fun _ _ _ h => h)
  have t13 : Tab P w K mg base 13 W13 := t12.add Fa.f_is_content_row ck_is_content_row rfl (F := F_is_content_row) (fun _ _ _ h => h)
  have t14 : Tab P w K mg base 14 W14 := t13.add Fa.f_is_content ck_is_content rfl (F := F_is_content) (fun _ _ _ h => h)
  have t15 : Tab P w K mg base 15 W15 := t14.add Fa.f_is_opacity ck_is_opacity rfl (F := F_is_opacity) (fun _ _ _ h => h)
  have t16 : Tab P w K mg base 16 W16 := t15.add Fa.f_is_parent ck_is_parent rfl (F := F_is_parent) (fun _ _ _ h => h)
  have t17 : Tab P w K mg base 17 W17 := t16.add Fa.f_is_node ck_is_node rfl (F := F_is_node) (fun _ _ _ h => h)
  have t18 : Tab P w K mg base 18 W18 := t17.add Fa.f_is_tree ck_is_tree rfl (F := F_is_tree) (fun _ _ _ h => h)
  have t19 : Tab P w K mg base 19 W19 := t18.add Fa.f_is_scene ck_is_scene rfl (F := F_is_scene) (fun _ _ _ h => h)
  have t20 : Tab P w K mg base 20 W20 := t19.add Fa.f__law_draw ck__law_draw rfl (F := F__law_draw) (fun _ _ _ h => h)
  have t21 : Tab P w K mg base 21 W21 := t20.add Fa.f__law_frac ck__law_frac rfl (F := F__law_frac) (fun _ _ _ h => h)
  have t22 : Tab P w K mg base 22 W22 := t21.add Fa.f__law_point ck__law_point rfl (F := F__law_point) (fun _ _ _ h => h)
  have t23 : Tab P w K mg base 23 W23 := t22.add Fa.f__law_content ck__law_content rfl (F := F__law_content) (fun _ _ _ h => h)
  have t24 : Tab P w K mg base 24 W24 := t23.add Fa.f__law_node ck__law_node rfl (F := F__law_node) (fun _ _ _ h => h)
  have t25 : Tab P w K mg base 25 W25 := t24.add Fa.f__law_scene ck__law_scene rfl (F := F__law_scene) (fun _ _ _ h => h)
  have t26 : Tab P w K mg base 26 W26 := t25.add Fa.f__law_is_number ck__law_is_number rfl (F := F__law_is_number) (fun _ _ _ h => h)
  have t27 : Tab P w K mg base 27 W27 := t26.add Fa.f__law_is_word ck__law_is_word rfl (F := F__law_is_word) (fun _ _ _ h => h)
  have t28 : Tab P w K mg base 28 W28 := t27.add Fa.f__law_is_part ck__law_is_part rfl (F := F__law_is_part) (fun _ _ _ h => h)
  have t29 : Tab P w K mg base 29 W29 := t28.add Fa.f__law_is_pixel ck__law_is_pixel rfl (F := F__law_is_pixel) (fun _ _ _ h => h)
  have t30 : Tab P w K mg base 30 W30 := t29.add Fa.f__law_is_pair ck__law_is_pair rfl (F := F__law_is_pair) (fun _ _ _ h => h)
  have t31 : Tab P w K mg base 31 W31 := t30.add Fa.f__law_is_content ck__law_is_content rfl (F := F__law_is_content) (fun _ _ _ h => h)
  have t32 : Tab P w K mg base 32 W32 := t31.add Fa.f__law_is_clip ck__law_is_clip rfl (F := F__law_is_clip) (fun _ _ _ h => h)
  have t33 : Tab P w K mg base 33 W33 := t32.add Fa.f__law_is_node ck__law_is_node rfl (F := F__law_is_node) (fun _ _ _ h => h)
  have t34 : Tab P w K mg base 34 W34 := t33.add Fa.f__law_is_tree ck__law_is_tree rfl (F := F__law_is_tree) (fun _ _ _ h => h)
  have t35 : Tab P w K mg base 35 W35 := t34.add Fa.f__law_is_scene ck__law_is_scene rfl (F := F__law_is_scene) (fun _ _ _ h => h)
  have t36 : Tab P w K mg base 36 W36 := t35.add Fa.f__law_long ck__law_long rfl (F := F__law_long) (fun _ _ _ h => h)
  have t37 : Tab P w K mg base 46 W37 := Tab.recur t36 Fa.f__law_bent ck__law_bent rfl (F := fBent W36) (fun _ => rfl) (fun _ _ _ _ h => h) 10
  have t38 : Tab P w K mg base 47 W38 := t37.add Fa.f__law_things ck__law_things rfl (F := F__law_things) (fun _ _ _ h => h)
  exact t38
end
theorem q_number : SpNum F_is_number := run_is_number (W := W0)
theorem q_numbers : SpNumsM F_are_numbers := run_are_numbers (W := W1) rfl q_number
theorem q_word : SpB wordB F_is_word := run_is_word (W := W2) rfl rfl
theorem q_frac : SpB fracB F_is_fraction := run_is_fraction (W := W4) rfl q_numbers.two rfl
theorem q_below : SpBelow2 F_is_below := run_is_below (W := W5)
theorem q_part : SpB partB F_is_part := run_is_part (W := W6) rfl q_frac
theorem q_pixel : SpB pxB F_is_pixel := run_is_pixel (W := W7) rfl q_part rfl q_below
theorem q_cov : SpCov F_is_covered := run_is_covered (W := W8) rfl
theorem q_rect : SpB rectB F_is_rectangle := run_is_rectangle (W := W9) rfl q_numbers
theorem q_tup : SpTup F_is_tuple_of := run_tuple_of (W := W10)
theorem q_id : SpB (numsB 3) F_is_id := run_is_id (W := W11) rfl q_number rfl q_tup
theorem q_row : SpRow F_is_content_row := run_row (W := W12) rfl q_tup rfl q_id rfl q_pixel
theorem q_cont : SpB contB F_is_content := run_content (W := W13) rfl q_row
theorem q_opac : SpB partB F_is_opacity := run_is_opacity (W := W14) rfl q_frac rfl q_below
theorem q_par : SpB parB F_is_parent := run_is_parent (W := W15) rfl q_word
theorem q_node : SpB nodeB F_is_node := run_is_node (W := W16) rfl q_tup rfl q_word rfl q_par rfl q_number rfl q_rect rfl q_opac rfl q_cont
theorem q_tree : SpB treeB F_is_tree := run_is_tree (W := W17) rfl q_node
theorem q_scene : SpB sceneB F_is_scene := run_is_scene (W := W18) rfl q_tup rfl q_number rfl q_pixel rfl q_cov rfl q_tree
theorem q_draw : SpDraw F__law_draw := run_draw (W := W19)
theorem q_lfr : SpFr F__law_frac := run_frac (W := W20)
theorem q_lpoint : SpPoint F__law_point := run_point (W := W21) rfl q_draw rfl q_lfr
theorem q_lcont : SpCont F__law_content := run_lcontent (W := W22) rfl q_draw rfl q_lpoint
theorem q_lnode : SpNode F__law_node := run_lnode (W := W23) rfl q_draw rfl q_lfr rfl q_lcont
theorem q_lscene : SpScene F__law_scene := run_lscene (W := W24) rfl q_draw rfl q_lfr rfl q_lnode
theorem q_lnum : SpNum F__law_is_number := run_law_is_number (W := W25)
theorem q_lword : SpB wordB F__law_is_word := run_law_is_word (W := W26)
theorem q_lpart : SpB partB F__law_is_part := run_law_is_part (W := W27) rfl q_lnum rfl q_lfr
theorem q_lpix : SpB pxB F__law_is_pixel := run_law_is_pixel (W := W28) rfl q_lpart
theorem q_lpair : SpB pairB F__law_is_pair := run_law_is_pair (W := W29) rfl q_lnum rfl q_lpix
theorem q_lcontb : SpB contB F__law_is_content := run_law_is_content (W := W30) rfl q_lpair
theorem q_lclip : SpB clipB F__law_is_clip := run_law_is_clip (W := W31) rfl q_lnum
theorem q_lnodeb : SpB nodeB F__law_is_node := run_law_is_node (W := W32) rfl q_lword rfl q_lnum rfl q_lclip rfl q_lpart rfl q_lcontb
theorem q_ltree : SpB treeB F__law_is_tree := run_law_is_tree (W := W33) rfl q_lnodeb
theorem q_lscb : SpB sceneB F__law_is_scene := run_law_is_scene (W := W34) rfl q_lnum rfl q_lpix rfl q_ltree
theorem q_llong : SpLong F__law_long := run_llong (W := W35) rfl q_draw
theorem q_bent : SpBent 10 (fBent W36 10) := bent_all rfl q_draw 10
theorem q_things : SpThings F__law_things := run_lthings (W := W37) rfl q_lscene rfl q_llong rfl q_bent
theorem wk : Wk W38 := ⟨⟨_, rfl, q_tree⟩, ⟨_, rfl, q_scene⟩, ⟨_, rfl, q_ltree⟩, ⟨_, rfl, q_lscb⟩, ⟨_, rfl, q_things⟩⟩
theorem law_main {P : Program} {w : World} {K : PySem.W.Frag} {mg : Str → Option Value} {fa : Addr} (Fa : Facts K mg) (hfa : mg "law" = some (.ref fa)) :
    ∃ fd : FuncData, (∀ (s : Shared) (u : Value), BindsTo s fd ⟨[u], []⟩ [("script", u)]) ∧ ∀ base : Heap, K.In base → base.Ns mainGlobals mg → FnG P w K mg base CX0 52 fa fd ["script"] (spLawB K) := by
  obtain ⟨f, fd, Fu, hmg, hb⟩ := Fa.f_law
  cases hfa.symm.trans hmg
  refine ⟨fd, hb, fun base _ _ => ?_⟩
  obtain ⟨ff, ffd, Ff, hfm, hfb⟩ := Fa.f__law_feed.fn
  have G := feed_okL (P := P) (w := w) (mg := mg) (base := base) (k := 0) Ff sc__law_feed (by exact visB_vis (by decide +kernel)) (by decide +kernel) (by decide +kernel) (Fa.blt _ (by decide)) (by rfl)
  exact (law_okB (i := 1) (fe := "_law_feed") (y := "feed") (tabN Fa) Fu sc_law (G.mono (by decide)) hfm Ff.kp hfb (by rfl) (by rfl) (by rfl) (by first | exact .inl (by decide +kernel) | exact .inr (by decide +kernel)) (by decide +kernel) (by decide +kernel) (by decide +kernel) (by decide +kernel) ck_law fun cells h1 h2 => law_run wk cells h1 h2).mono (by decide)
end Fc

open PySem PySem.W PyProof.Rows
set_option maxHeartbeats 0 in
theorem PySem.Challenge.cw_framecourt_k20_trees_and_scenes_by_kind_holds : PySem.Challenge.rw_framecourt_k20_trees_and_scenes_by_kind.Holds := by
  w_on; o_law; k_head; (case hw => w_witness2)
  k_fill
  refine IL.walkGB (l := PySem.Challenge.rw_framecourt_k20_trees_and_scenes_by_kind) (n := 63) (k := 52) (x := "script") (sp := fun w => IL.spLawB _) rfl (by decide) rfl ⟨rfl, by decide, by decide⟩ (fun w h Y => PySem.W.kIn_of Y) ?F (fun w H a ns hl hb hS => ⟨a, ns, rfl, hS, hl, hb, fun _ => rfl⟩)
  case F =>
    intro w mg fa h KX G hmg
    refine' Fc.law_main (Fc.facts_mk KX G ?a_is_number ?l_is_number ?c_is_number ?k_is_number ?a_are_numbers ?l_are_numbers ?c_are_numbers ?k_are_numbers ?a_is_word ?l_is_word ?c_is_word ?k_is_word ?a_common_divisor ?l_common_divisor ?c_common_divisor ?k_common_divisor ?a_is_fraction ?l_is_fraction ?c_is_fraction ?k_is_fraction ?a_is_below ?l_is_below ?c_is_below ?k_is_below ?a_is_part ?l_is_part ?c_is_part ?k_is_part ?a_is_pixel ?l_is_pixel ?c_is_pixel ?k_is_pixel ?a_is_covered ?l_is_covered ?c_is_covered ?k_is_covered ?a_is_rectangle ?l_is_rectangle ?c_is_rectangle ?k_is_rectangle ?a_is_tuple_of ?l_is_tuple_of ?c_is_tuple_of ?k_is_tuple_of ?a_is_id ?l_is_id ?c_is_id ?k_is_id ?a_is_content_row ?l_is_content_row ?c_is_content_row ?k_is_content_row ?a_is_content ?l_is_content ?c_is_content ?k_is_content ?a_is_opacity ?l_is_opacity ?c_is_opacity ?k_is_opacity ?a_is_parent ?l_is_parent ?c_is_parent ?k_is_parent ?a_is_node ?l_is_node ?c_is_node ?k_is_node ?a_is_tree ?l_is_tree ?c_is_tree ?k_is_tree ?a_is_scene ?l_is_scene ?c_is_scene ?k_is_scene ?a__law_feed ?l__law_feed ?c__law_feed ?k__law_feed ?a__law_draw ?l__law_draw ?c__law_draw ?k__law_draw ?a__law_frac ?l__law_frac ?c__law_frac ?k__law_frac ?a__law_point ?l__law_point ?c__law_point ?k__law_point ?a__law_content ?l__law_content ?c__law_content ?k__law_content ?a__law_node ?l__law_node ?c__law_node ?k__law_node ?a__law_scene ?l__law_scene ?c__law_scene ?k__law_scene ?a__law_is_number ?l__law_is_number ?c__law_is_number ?k__law_is_number ?a__law_is_word ?l__law_is_word ?c__law_is_word ?k__law_is_word ?a__law_is_part ?l__law_is_part ?c__law_is_part ?k__law_is_part ?a__law_is_pixel ?l__law_is_pixel ?c__law_is_pixel ?k__law_is_pixel ?a__law_is_pair ?l__law_is_pair ?c__law_is_pair ?k__law_is_pair ?a__law_is_content ?l__law_is_content ?c__law_is_content ?k__law_is_content ?a__law_is_clip ?l__law_is_clip ?c__law_is_clip ?k__law_is_clip ?a__law_is_node ?l__law_is_node ?c__law_is_node ?k__law_is_node ?a__law_is_tree ?l__law_is_tree ?c__law_is_tree ?k__law_is_tree ?a__law_bent ?l__law_bent ?c__law_bent ?k__law_bent ?a__law_is_scene ?l__law_is_scene ?c__law_is_scene ?k__law_is_scene ?a__law_long ?l__law_long ?c__law_long ?k__law_long ?a__law_things ?l__law_things ?c__law_things ?k__law_things ?a_law ?l_law ?c_law ?k_law ?b_LETTERS ?b_MOST_LETTERS ?b_WHOLE ?L_q_WHOLE_0 ?z_len ?z_abs ?z_list ?z_tuple ?z_all ?z_any ?z_sum ?z_max ?z_min ?z_repr ?z_isinstance ?z_int ?z_bool ?z_str ?z_dict ?z_range ?z_zip ?z_enumerate) hmg
    (case a_is_number => k_is); (case l_is_number => k_is); (case c_is_number => k_is); (case k_is_number => k_is); (case a_are_numbers => k_is); (case l_are_numbers => k_is); (case c_are_numbers => k_is); (case k_are_numbers => k_is); (case a_is_word => k_is); (case l_is_word => k_is); (case c_is_word => k_is); (case k_is_word => k_is); (case a_common_divisor => k_is); (case l_common_divisor => k_is); (case c_common_divisor => k_is); (case k_common_divisor => k_is); (case a_is_fraction => k_is); (case l_is_fraction => k_is); (case c_is_fraction => k_is); (case k_is_fraction => k_is); (case a_is_below => k_is); (case l_is_below => k_is); (case c_is_below => k_is); (case k_is_below => k_is); (case a_is_part => k_is); (case l_is_part => k_is); (case c_is_part => k_is); (case k_is_part => k_is); (case a_is_pixel => k_is); (case l_is_pixel => k_is); (case c_is_pixel => k_is); (case k_is_pixel => k_is); (case a_is_covered => k_is); (case l_is_covered => k_is); (case c_is_covered => k_is); (case k_is_covered => k_is); (case a_is_rectangle => k_is); (case l_is_rectangle => k_is); (case c_is_rectangle => k_is); (case k_is_rectangle => k_is); (case a_is_tuple_of => k_is); (case l_is_tuple_of => k_is); (case c_is_tuple_of => k_is); (case k_is_tuple_of => k_is); (case a_is_id => k_is); (case l_is_id => k_is); (case c_is_id => k_is); (case k_is_id => k_is); (case a_is_content_row => k_is); (case l_is_content_row => k_is); (case c_is_content_row => k_is); (case k_is_content_row => k_is); (case a_is_content => k_is); (case l_is_content => k_is); (case c_is_content => k_is); (case k_is_content => k_is); (case a_is_opacity => k_is); (case l_is_opacity => k_is); (case c_is_opacity => k_is); (case k_is_opacity => k_is); (case a_is_parent => k_is); (case l_is_parent => k_is); (case c_is_parent => k_is); (case k_is_parent => k_is); (case a_is_node => k_is); (case l_is_node => k_is); (case c_is_node => k_is); (case k_is_node => k_is); (case a_is_tree => k_is); (case l_is_tree => k_is); (case c_is_tree => k_is); (case k_is_tree => k_is); (case a_is_scene => k_is); (case l_is_scene => k_is); (case c_is_scene => k_is); (case k_is_scene => k_is); (case a__law_feed => k_is); (case l__law_feed => k_is); (case c__law_feed => k_is); (case k__law_feed => k_is); (case a__law_draw => k_is); (case l__law_draw => k_is); (case c__law_draw => k_is); (case k__law_draw => k_is); (case a__law_frac => k_is); (case l__law_frac => k_is); (case c__law_frac => k_is); (case k__law_frac => k_is); (case a__law_point => k_is); (case l__law_point => k_is); (case c__law_point => k_is); (case k__law_point => k_is); (case a__law_content => k_is); (case l__law_content => k_is); (case c__law_content => k_is); (case k__law_content => k_is); (case a__law_node => k_is); (case l__law_node => k_is); (case c__law_node => k_is); (case k__law_node => k_is); (case a__law_scene => k_is); (case l__law_scene => k_is); (case c__law_scene => k_is); (case k__law_scene => k_is); (case a__law_is_number => k_is); (case l__law_is_number => k_is); (case c__law_is_number => k_is); (case k__law_is_number => k_is); (case a__law_is_word => k_is); (case l__law_is_word => k_is); (case c__law_is_word => k_is); (case k__law_is_word => k_is); (case a__law_is_part => k_is); (case l__law_is_part => k_is); (case c__law_is_part => k_is); (case k__law_is_part => k_is); (case a__law_is_pixel => k_is); (case l__law_is_pixel => k_is); (case c__law_is_pixel => k_is); (case k__law_is_pixel => k_is); (case a__law_is_pair => k_is); (case l__law_is_pair => k_is); (case c__law_is_pair => k_is); (case k__law_is_pair => k_is); (case a__law_is_content => k_is); (case l__law_is_content => k_is); (case c__law_is_content => k_is); (case k__law_is_content => k_is); (case a__law_is_clip => k_is); (case l__law_is_clip => k_is); (case c__law_is_clip => k_is); (case k__law_is_clip => k_is); (case a__law_is_node => k_is); (case l__law_is_node => k_is); (case c__law_is_node => k_is); (case k__law_is_node => k_is); (case a__law_is_tree => k_is); (case l__law_is_tree => k_is); (case c__law_is_tree => k_is); (case k__law_is_tree => k_is); (case a__law_bent => k_is); (case l__law_bent => k_is); (case c__law_bent => k_is); (case k__law_bent => k_is); (case a__law_is_scene => k_is); (case l__law_is_scene => k_is); (case c__law_is_scene => k_is); (case k__law_is_scene => k_is); (case a__law_long => k_is); (case l__law_long => k_is); (case c__law_long => k_is); (case k__law_long => k_is); (case a__law_things => k_is); (case l__law_things => k_is); (case c__law_things => k_is); (case k__law_things => k_is); (case a_law => k_is); (case l_law => k_is); (case c_law => k_is); (case k_law => k_is); (case b_LETTERS => k_is); (case b_MOST_LETTERS => k_is); (case b_WHOLE => k_is); (case L_q_WHOLE_0 => k_is); (case z_len => k_is); (case z_abs => k_is); (case z_list => k_is); (case z_tuple => k_is); (case z_all => k_is); (case z_any => k_is); (case z_sum => k_is); (case z_max => k_is); (case z_min => k_is); (case z_repr => k_is); (case z_isinstance => k_is); (case z_int => k_is); (case z_bool => k_is); (case z_str => k_is); (case z_dict => k_is); (case z_range => k_is); (case z_zip => k_is); (case z_enumerate => k_is)


