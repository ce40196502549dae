import PyProof.Rows.All
import HandS.ForMost
import HandS.IsInst
import HandS.TupAny
import HandS.TupMul
import HandS.Zip
import HandS.Wide
import HandS.Deep
import HandS.Flow
import PyProof.ReprReads
import HandS.Style
import HandS.NoneIn
import HandS.Walk
import HandS.Rev
import HandS.SetFor
import HandS.Conv
import HandS.Sort
import PyProof.CollectIter
import PyProof.WalksMore
import HandS.Dict
import HandS.EndBits
import HandS.Defaults
import PySem.Challenge.RW_framecourt_k22_shown_cell_by_cell
set_option Elab.async false
set_option linter.all false
set_option maxRecDepth 100000
set_option maxHeartbeats 4000000
set_option exponentiation.threshold 2000
namespace IL
open PySem PySem.Spec PyProof.Rows L2

/-! own trees over data: a leaf is data that stays as it is, an inner node is an object that one holder alone has -/
abbrev D := PyData
inductive T where
  | leaf (d : D)
  | lst (ts : List T)
  | tup (ts : List T)
  | dct (kvs : List (Key × T))
  | obj (C : Addr) (kvs : List (Key × T))
instance : Inhabited T := ⟨.leaf .none⟩
def kD : Key → D
  | .inl i => .int i
  | .inr x => .str x
mutual
def frz : T → D
  | .leaf d => d
  | .lst ts => .list (frzs ts)
  | .tup ts => .tuple (frzs ts)
  | .dct kvs => .dict (frzk kvs)
  | .obj C kvs => .dict ((.none, .int (C : Nat)) :: frzk kvs)
def frzs : List T → List D
  | [] => []
  | t :: ts => frz t :: frzs ts
def frzk : List (Key × T) → List (D × D)
  | [] => []
  | (k, t) :: r => (kD k, frz t) :: frzk r
end
theorem frzs_map (ts : List T) : frzs ts = ts.map frz := by
  induction ts with
  | nil => rfl
  | cons t ts ih => simp [frzs, ih]

/-! ### a tuple that stands: marked, or of the written part -/
def PT2 (K : PySem.W.Frag) (H : Hp) (a : Addr) (xs : List V) : Prop := H a = some (.tup xs) ∨ SqT K (fun _ => none) a xs
/-- what stays -/
def Kp (J : Addr → Prop) (H H' : Hp) : Prop := ∀ b o, (J b ∨ ∃ xs, o = HO.tup xs) → H b = some o → H' b = some o
theorem Kp.of {J : Addr → Prop} {H H' : Hp} (h : ∀ b o, H b = some o → H' b = some o) : Kp J H H' := fun b o _ e => h b o e
theorem Kp.rfl' {J : Addr → Prop} {H : Hp} : Kp J H H := fun _ _ _ e => e
section
variable {K : PySem.W.Frag} {J J' : Addr → Prop} {H H' : Hp} {a : Addr} {xs : List V}
theorem PT2.sq (h : PT2 K H a xs) : SqT K H a xs := by
  rcases h with h | h
  · exact .inl (.inl h)
  · rcases h with (h | ⟨_, h⟩) | h
    · cases h
    · cases h
    · exact .inr h
theorem PT2.mono (h : PT2 K H a xs) (hk : Kp J H H') : PT2 K H' a xs := by
  rcases h with h | h
  · exact .inl (hk _ _ (.inr ⟨_, rfl⟩) h)
  · exact .inr h
end
/-- fields as entries -/
def fkv (fs : List (Str × V)) : List (Key × V) := fs.map fun p => (.inr p.1, p.2)

/-- an instance, given up -/
def isObj : D → Bool
  | .dict ((.none, _) :: _) => true
  | _ => false
/-- what a class has whose instances are kept -/
structure ObjC (K : PySem.W.Frag) (C : Addr) : Prop where
  cl : Cls K C
  cls : PySem.W.findIn K (.ref C) "__class__" = some (some (.builtin "object.__class__"))
  gtc : PySem.W.specialIn K (.builtin "object.__class__") "__get__" = some (some (.builtin "getset_descriptor.__get__"))
  tks : PySem.W.takesIn K (.builtin "object.__class__") = some true
  mro : PySem.W.mroIn K C (.type "object") = some true
  no : ∀ t ∈ ["int", "bool", "str", "list", "tuple", "dict"], PySem.W.kitOne K (.ref C) (.type t) = some false
mutual
/-- v is the data d, and stays so while what J marks stays -/
inductive RD (K : PySem.W.Frag) (J : Addr → Prop) (H : Hp) : V → D → Prop
  | non : RD K J H .non .none
  | bl (b : Bool) : RD K J H (.bl b) (.bool b)
  | int (i : Int) : RD K J H (.int i) (.int i)
  | str (x : Str) : RD K J H (.str x) (.str x)
  | lst {a : Addr} {xs : List V} {ds : List D} : J a → H a = some (.lst xs) → RDs K J H xs ds → RD K J H (.ref a) (.list ds)
  | tup {a : Addr} {xs : List V} {ds : List D} : PT2 K H a xs → RDs K J H xs ds → RD K J H (.ref a) (.tuple ds)
  | dct {a : Addr} {kvs : List (Key × V)} {ds : List (D × D)} : J a → H a = some (.dK kvs) → RDk K J H kvs ds → RD K J H (.ref a) (.dict ds)
  | obj {a C dx : Addr} {fs : List (Str × V)} {ds : List (D × D)} : ObjC K C → J a → H a = some (.ins C dx fs) → RDk K J H (fkv fs) ds → RD K J H (.ref a) (.dict ((.none, .int (C : Nat)) :: ds))
inductive RDs (K : PySem.W.Frag) (J : Addr → Prop) (H : Hp) : List V → List D → Prop
  | nil : RDs K J H [] []
  | cons {v : V} {vs : List V} {d : D} {ds : List D} : RD K J H v d → RDs K J H vs ds → RDs K J H (v :: vs) (d :: ds)
inductive RDk (K : PySem.W.Frag) (J : Addr → Prop) (H : Hp) : List (Key × V) → List (D × D) → Prop
  | nil : RDk K J H [] []
  | cons {k : Key} {v : V} {vs : List (Key × V)} {d : D} {ds : List (D × D)} : RD K J H v d → RDk K J H vs ds → RDk K J H ((k, v) :: vs) ((kD k, d) :: ds)
end
mutual
/-- v is the own tree t, its objects at fp -/
inductive RT (K : PySem.W.Frag) (J : Addr → Prop) (H : Hp) : V → T → List Addr → Prop
  | leaf {v : V} {d : D} : RD K J H v d → RT K J H v (.leaf d) []
  | lst {a : Addr} {xs : List V} {ts : List T} {fp : List Addr} : H a = some (.lst xs) → RTs K J H xs ts fp → RT K J H (.ref a) (.lst ts) (a :: fp)
  | tup {a : Addr} {xs : List V} {ts : List T} {fp : List Addr} : H a = some (.tup xs) → RTs K J H xs ts fp → RT K J H (.ref a) (.tup ts) (a :: fp)
  | dct {a : Addr} {kvs : List (Key × V)} {ts : List (Key × T)} {fp : List Addr} : H a = some (.dK kvs) → RTk K J H kvs ts fp → RT K J H (.ref a) (.dct ts) (a :: fp)
  | obj {a C dx : Addr} {fs : List (Str × V)} {ts : List (Key × T)} {fp : List Addr} : ObjC K C → H a = some (.ins C dx fs) → RTk K J H (fkv fs) ts fp → RT K J H (.ref a) (.obj C ts) (a :: fp)
inductive RTs (K : PySem.W.Frag) (J : Addr → Prop) (H : Hp) : List V → List T → List Addr → Prop
  | nil : RTs K J H [] [] []
  | cons {v : V} {vs : List V} {t : T} {ts : List T} {f g : List Addr} : RT K J H v t f → RTs K J H vs ts g → RTs K J H (v :: vs) (t :: ts) (f ++ g)
inductive RTk (K : PySem.W.Frag) (J : Addr → Prop) (H : Hp) : List (Key × V) → List (Key × T) → List Addr → Prop
  | nil : RTk K J H [] [] []
  | cons {k : Key} {v : V} {vs : List (Key × V)} {t : T} {ts : List (Key × T)} {f g : List Addr} : RT K J H v t f → RTk K J H vs ts g → RTk K J H ((k, v) :: vs) ((k, t) :: ts) (f ++ g)
end
section
variable {K : PySem.W.Frag} {J J' : Addr → Prop} {H H' : Hp}
mutual
theorem RD.mono (hj : ∀ b, J b → J' b) (hk : Kp J H H') : ∀ {v : V} {d : D}, RD K J H v d → RD K J' H' v d
  | _, _, .non => .non
  | _, _, .bl b => .bl b
  | _, _, .int i => .int i
  | _, _, .str x => .str x
  | _, _, .lst j p r => .lst (hj _ j) (hk _ _ (.inl j) p) (RDs.mono hj hk r)
  | _, _, .tup p r => .tup (p.mono hk) (RDs.mono hj hk r)
  | _, _, .dct j p r => .dct (hj _ j) (hk _ _ (.inl j) p) (RDk.mono hj hk r)
  | _, _, .obj oc j p r => .obj oc (hj _ j) (hk _ _ (.inl j) p) (RDk.mono hj hk r)
theorem RDs.mono (hj : ∀ b, J b → J' b) (hk : Kp J H H') : ∀ {v : List V} {d : List D}, RDs K J H v d → RDs K J' H' v d
  | _, _, .nil => .nil
  | _, _, .cons r s => .cons (RD.mono hj hk r) (RDs.mono hj hk s)
theorem RDk.mono (hj : ∀ b, J b → J' b) (hk : Kp J H H') : ∀ {v : List (Key × V)} {d : List (D × D)}, RDk K J H v d → RDk K J' H' v d
  | _, _, .nil => .nil
  | _, _, .cons r s => .cons (RD.mono hj hk r) (RDk.mono hj hk s)
end
mutual
theorem RT.mono (hj : ∀ b, J b → J' b) (hk : Kp J H H') : ∀ {v : V} {t : T} {fp : List Addr}, RT K J H v t fp → (∀ b o, b ∈ fp → H b = some o → H' b = some o) → RT K J' H' v t fp
  | _, _, _, .leaf r, _ => .leaf (r.mono hj hk)
  | _, _, _, .lst p r, h => .lst (h _ _ List.mem_cons_self p) (RTs.mono hj hk r fun b o hb => h b o (List.mem_cons_of_mem _ hb))
  | _, _, _, .tup p r, h => .tup (h _ _ List.mem_cons_self p) (RTs.mono hj hk r fun b o hb => h b o (List.mem_cons_of_mem _ hb))
  | _, _, _, .dct p r, h => .dct (h _ _ List.mem_cons_self p) (RTk.mono hj hk r fun b o hb => h b o (List.mem_cons_of_mem _ hb))
  | _, _, _, .obj oc p r, h => .obj oc (h _ _ List.mem_cons_self p) (RTk.mono hj hk r fun b o hb => h b o (List.mem_cons_of_mem _ hb))
theorem RTs.mono (hj : ∀ b, J b → J' b) (hk : Kp J H H') : ∀ {v : List V} {t : List T} {fp : List Addr}, RTs K J H v t fp → (∀ b o, b ∈ fp → H b = some o → H' b = some o) → RTs K J' H' v t fp
  | _, _, _, .nil, _ => .nil
  | _, _, _, .cons r s, h => .cons (RT.mono hj hk r fun b o hb => h b o (List.mem_append_left _ hb)) (RTs.mono hj hk s fun b o hb => h b o (List.mem_append_right _ hb))
theorem RTk.mono (hj : ∀ b, J b → J' b) (hk : Kp J H H') : ∀ {v : List (Key × V)} {t : List (Key × T)} {fp : List Addr}, RTk K J H v t fp → (∀ b o, b ∈ fp → H b = some o → H' b = some o) → RTk K J' H' v t fp
  | _, _, _, .nil, _ => .nil
  | _, _, _, .cons r s, h => .cons (RT.mono hj hk r fun b o hb => h b o (List.mem_append_left _ hb)) (RTk.mono hj hk s fun b o hb => h b o (List.mem_append_right _ hb))
end
mutual
theorem RT.dom : ∀ {v : V} {t : T} {fp : List Addr}, RT K J H v t fp → ∀ b ∈ fp, H b ≠ none
  | _, _, _, .leaf r, b, h => by cases h
  | _, _, _, .lst p r, b, h => by
    rcases List.mem_cons.mp h with rfl | h
    · rw [p]; exact fun z => nomatch z
    · exact RTs.dom r b h
  | _, _, _, .tup p r, b, h => by
    rcases List.mem_cons.mp h with rfl | h
    · rw [p]; exact fun z => nomatch z
    · exact RTs.dom r b h
  | _, _, _, .dct p r, b, h => by
    rcases List.mem_cons.mp h with rfl | h
    · rw [p]; exact fun z => nomatch z
    · exact RTk.dom r b h
  | _, _, _, .obj _ p r, b, h => by
    rcases List.mem_cons.mp h with rfl | h
    · rw [p]; exact fun z => nomatch z
    · exact RTk.dom r b h
theorem RTs.dom : ∀ {v : List V} {t : List T} {fp : List Addr}, RTs K J H v t fp → ∀ b ∈ fp, H b ≠ none
  | _, _, _, .nil, b, h => by cases h
  | _, _, _, .cons r s, b, h => by
    rcases List.mem_append.mp h with h | h
    · exact RT.dom r b h
    · exact RTs.dom s b h
theorem RTk.dom : ∀ {v : List (Key × V)} {t : List (Key × T)} {fp : List Addr}, RTk K J H v t fp → ∀ b ∈ fp, H b ≠ none
  | _, _, _, .nil, b, h => by cases h
  | _, _, _, .cons r s, b, h => by
    rcases List.mem_append.mp h with h | h
    · exact RT.dom r b h
    · exact RTk.dom s b h
end
mutual
/-- an own tree given up: data -/
theorem RT.frz : ∀ {v : V} {t : T} {fp : List Addr}, RT K J H v t fp → (∀ b, J b → J' b) → (∀ b ∈ fp, J' b) → RD K J' H v (frz t)
  | _, _, _, .leaf r, hj, _ => r.mono hj Kp.rfl'
  | _, _, _, .lst p r, hj, h => .lst (h _ List.mem_cons_self) p (RTs.frz r hj fun b hb => h b (List.mem_cons_of_mem _ hb))
  | _, _, _, .tup p r, hj, h => .tup (.inl p) (RTs.frz r hj fun b hb => h b (List.mem_cons_of_mem _ hb))
  | _, _, _, .dct p r, hj, h => .dct (h _ List.mem_cons_self) p (RTk.frz r hj fun b hb => h b (List.mem_cons_of_mem _ hb))
  | _, _, _, .obj oc p r, hj, h => .obj oc (h _ List.mem_cons_self) p (RTk.frz r hj fun b hb => h b (List.mem_cons_of_mem _ hb))
theorem RTs.frz : ∀ {v : List V} {t : List T} {fp : List Addr}, RTs K J H v t fp → (∀ b, J b → J' b) → (∀ b ∈ fp, J' b) → RDs K J' H v (frzs t)
  | _, _, _, .nil, _, _ => .nil
  | _, _, _, .cons r s, hj, h => .cons (RT.frz r hj fun b hb => h b (List.mem_append_left _ hb)) (RTs.frz s hj fun b hb => h b (List.mem_append_right _ hb))
theorem RTk.frz : ∀ {v : List (Key × V)} {t : List (Key × T)} {fp : List Addr}, RTk K J H v t fp → (∀ b, J b → J' b) → (∀ b ∈ fp, J' b) → RDk K J' H v (frzk t)
  | _, _, _, .nil, _, _ => .nil
  | _, _, _, .cons r s, hj, h => .cons (RT.frz r hj fun b hb => h b (List.mem_append_left _ hb)) (RTk.frz s hj fun b hb => h b (List.mem_append_right _ hb))
end
mutual
/-- as the library's data -/
theorem RD.dp : ∀ {v : V} {d : D}, RD K J H v d → d.canLay0 = true → Dp K H v d
  | _, _, .non, _ => .non
  | _, _, .bl b, _ => .bl b
  | _, _, .int i, _ => .int i
  | _, _, .str x, _ => .str x
  | _, _, .lst _ p r, h => .lst (.inl (.inl p)) (RDs.dp r (by simpa [PyData.canLay0] using h))
  | _, _, .tup p r, h => .tup p.sq (RDs.dp r (by simpa [PyData.canLay0] using h))
  | _, _, .dct j p r, h => by simp [PyData.canLay0] at h
  | _, _, .obj _ j p r, h => by simp [PyData.canLay0] at h
theorem RDs.dp : ∀ {v : List V} {d : List D}, RDs K J H v d → PyData.canLayAll0 d = true → DpAll K H v d
  | _, _, .nil, _ => .nil
  | _, _, .cons r s, h => by
    simp only [PyData.canLayAll0, Bool.and_eq_true] at h
    exact .cons (r.dp h.1) (RDs.dp s h.2)
end
theorem RDs.length : ∀ {v : List V} {d : List D}, RDs K J H v d → v.length = d.length
  | _, _, .nil => rfl
  | _, _, .cons _ s => by simp [RDs.length s]
theorem RDs.get : ∀ {v : List V} {d : List D} {i : Nat} {x : D}, RDs K J H v d → d[i]? = some x → ∃ y, v[i]? = some y ∧ RD K J H y x
  | _, _, _, _, .nil, e => by simp at e
  | _, _, 0, x, .cons r s, e => by
    simp at e; subst e; exact ⟨_, by simp, r⟩
  | _, _, i + 1, x, .cons r s, e => by
    obtain ⟨y, h1, h2⟩ := RDs.get (i := i) s (by simpa using e)
    exact ⟨y, by simpa using h1, h2⟩
theorem RDs.append : ∀ {v : List V} {d : List D} {v2 : List V} {d2 : List D}, RDs K J H v d → RDs K J H v2 d2 → RDs K J H (v ++ v2) (d ++ d2)
  | _, _, _, _, .nil, h => h
  | _, _, _, _, .cons r s, h => .cons r (RDs.append s h)
theorem RDs.take : ∀ {v : List V} {d : List D} (n : Nat), RDs K J H v d → RDs K J H (v.take n) (d.take n)
  | _, _, 0, _ => .nil
  | _, _, _ + 1, .nil => .nil
  | _, _, n + 1, .cons r s => .cons r (RDs.take n s)
theorem RDs.drop : ∀ {v : List V} {d : List D} (n : Nat), RDs K J H v d → RDs K J H (v.drop n) (d.drop n)
  | _, _, 0, h => h
  | _, _, _ + 1, .nil => .nil
  | _, _, n + 1, .cons r s => RDs.drop n s
theorem RDs.rev {v : List V} {d : List D} (h : RDs K J H v d) : RDs K J H v.reverse d.reverse := by
  have go : ∀ (v : List V) (d : List D), RDs K J H v d → RDs K J H v.reverse d.reverse := by
    intro v
    induction v with
    | nil => intro d h; cases h; exact .nil
    | cons a v ih =>
      intro d h
      cases h with
      | cons r s => simp only [List.reverse_cons]; exact (ih _ s).append (.cons r .nil)
  exact go v d h
theorem RTs.length : ∀ {v : List V} {d : List T} {fp : List Addr}, RTs K J H v d fp → v.length = d.length
  | _, _, _, .nil => rfl
  | _, _, _, .cons _ s => by simp [RTs.length s]
theorem RTs.append : ∀ {v : List V} {d : List T} {f : List Addr} {v2 : List V} {d2 : List T} {f2 : List Addr}, RTs K J H v d f → RTs K J H v2 d2 f2 → RTs K J H (v ++ v2) (d ++ d2) (f ++ f2)
  | _, _, _, _, _, _, .nil, h => h
  | _, _, _, _, _, _, .cons r s, h => by
    simp only [List.cons_append, List.append_assoc]
    exact .cons r (RTs.append s h)
theorem RTs.get : ∀ {v : List V} {d : List T} {f : List Addr} {i : Nat} {x : T}, RTs K J H v d f → d[i]? = some x → ∃ y g, v[i]? = some y ∧ RT K J H y x g ∧ ∀ b ∈ g, b ∈ f
  | _, _, _, _, _, .nil, e => by simp at e
  | _, _, _, 0, x, .cons (f := f) r s, e => by
    simp at e; subst e; exact ⟨_, f, by simp, r, fun b hb => List.mem_append_left _ hb⟩
  | _, _, _, i + 1, x, .cons r s, e => by
    obtain ⟨y, g, h1, h2, h3⟩ := RTs.get (i := i) s (by simpa using e)
    exact ⟨y, g, by simpa using h1, h2, fun b hb => List.mem_append_right _ (h3 b hb)⟩
theorem RTs.leaves : ∀ {v : List V} {d : List D}, RDs K J H v d → RTs K J H v (d.map T.leaf) []
  | _, _, .nil => .nil
  | _, _, .cons r s => by
    have h := RTs.cons (.leaf r) (RTs.leaves s)
    simpa using h
end

/-! ### the slots -/
abbrev En := List (Option T)
inductive RE (K : PySem.W.Frag) (J : Addr → Prop) (H : Hp) : L2.St → En → List Addr → Prop
  | nil : RE K J H [] [] []
  | out {x : Option V} {σ : L2.St} {e : En} {f : List Addr} : RE K J H σ e f → RE K J H (x :: σ) (none :: e) f
  | held {v : V} {t : T} {σ : L2.St} {e : En} {f g : List Addr} : RT K J H v t f → RE K J H σ e g → RE K J H (some v :: σ) (some t :: e) (f ++ g)
/-- from J, H with F ours to J', H' with F' ours -/
structure Tr (J : Addr → Prop) (H : Hp) (F : List Addr) (J' : Addr → Prop) (H' : Hp) (F' : List Addr) : Prop where
  keep : ∀ b o, H b = some o → b ∉ F → H' b = some o
  dom : ∀ b, H b ≠ none → H' b ≠ none
  jj : ∀ b, J b → J' b
  fnew : ∀ b ∈ F', b ∈ F ∨ H b = none
  jnew : ∀ b, J' b → J b ∨ b ∈ F ∨ H b = none
  tups : ∀ b xs, H b = some (.tup xs) → H' b = some (.tup xs)
/-- an own tree beside F -/
structure Own (K : PySem.W.Frag) (J : Addr → Prop) (H : Hp) (F : List Addr) (v : V) (t : T) (fp : List Addr) : Prop where
  rt : RT K J H v t fp
  nd : (F ++ fp).Nodup
  jf : ∀ a ∈ fp, ¬ J a
structure Owns (K : PySem.W.Frag) (J : Addr → Prop) (H : Hp) (F : List Addr) (vs : List V) (ts : List T) (fp : List Addr) : Prop where
  rt : RTs K J H vs ts fp
  nd : (F ++ fp).Nodup
  jf : ∀ a ∈ fp, ¬ J a
/-- a body's state -/
structure SR (K : PySem.W.Frag) (pn : List (Nat × V)) (σ : L2.St) (H : Hp) (e : En) (J : Addr → Prop) (F : List Addr) : Prop where
  re : RE K J H σ e F
  nd : F.Nodup
  jf : ∀ a ∈ F, ¬ J a
  jd : ∀ a, J a → H a ≠ none
  pin : ∀ p ∈ pn, σ[p.1]? = some (some p.2)
section
variable {K : PySem.W.Frag} {J J' J1 J2 : Addr → Prop} {H H' H1 H2 : Hp} {F F' F1 F2 G : List Addr}
theorem Tr.refl : Tr J H F J H F := ⟨fun _ _ e _ => e, fun _ e => e, fun _ e => e, fun _ e => .inl e, fun _ e => .inl e, fun _ _ e => e⟩
theorem Tr.sub (h : ∀ b ∈ F', b ∈ F) : Tr J H F J H F' := ⟨fun _ _ e _ => e, fun _ e => e, fun _ e => e, fun b e => .inl (h b e), fun _ e => .inl e, fun _ _ e => e⟩
theorem Tr.trans (a : Tr J H F J1 H1 F1) (b : Tr J1 H1 F1 J2 H2 F2) : Tr J H F J2 H2 F2 where
  keep := fun c o e n => b.keep c o (a.keep c o e n) fun z => by
    rcases a.fnew c z with z | z
    · exact n z
    · rw [e] at z; cases z
  dom := fun c e => b.dom c (a.dom c e)
  jj := fun c e => b.jj c (a.jj c e)
  fnew := fun c z => by
    rcases b.fnew c z with z | z
    · exact a.fnew c z
    · right
      by_cases q : H c = none
      · exact q
      · exact absurd z (a.dom c q)
  jnew := fun c z => by
    rcases b.jnew c z with z | z | z
    · exact a.jnew c z
    · rcases a.fnew c z with z | z
      · exact .inr (.inl z)
      · exact .inr (.inr z)
    · by_cases q : H c = none
      · exact .inr (.inr q)
      · exact absurd z (a.dom c q)
  tups := fun c xs e => b.tups c xs (a.tups c xs e)
theorem Tr.wide (a : Tr J H F J1 H1 F1) (b : ∀ c ∈ F, c ∈ G) (d : ∀ c ∈ F2, c ∈ F1) : Tr J H G J1 H1 F2 :=
  ⟨fun c o e n => a.keep c o e fun z => n (b c z), a.dom, a.jj, fun c z => (a.fnew c (d c z)).imp (b c) id, fun c z => (a.jnew c z).imp id (Or.imp (b c) id), a.tups⟩
/-- with G held aside -/
theorem Tr.aside (b : Tr J H F J' H' F') : Tr J H (F ++ G) J' H' (F' ++ G) :=
  ⟨fun c o e n => b.keep c o e fun z => n (List.mem_append_left _ z), b.dom, b.jj, fun c z => by
    rcases List.mem_append.mp z with z | z
    · exact (b.fnew c z).imp (List.mem_append_left _) id
    · exact .inl (List.mem_append_right _ z), fun c z => (b.jnew c z).imp id (Or.imp (List.mem_append_left _) id), b.tups⟩
theorem Tr.kp (tr : Tr J H F J' H' F') (jf : ∀ a ∈ F, ¬ J a) : Kp J H H' := fun b o j e => by
  rcases j with j | ⟨xs, rfl⟩
  · exact tr.keep b o e fun z => jf b z j
  · exact tr.tups b xs e
theorem RD.step {v : V} {d : D} (r : RD K J H v d) (tr : Tr J H F J' H' F') (jf : ∀ a ∈ F, ¬ J a) : RD K J' H' v d :=
  r.mono tr.jj (tr.kp jf)
theorem RDs.step {v : List V} {d : List D} (r : RDs K J H v d) (tr : Tr J H F J' H' F') (jf : ∀ a ∈ F, ¬ J a) : RDs K J' H' v d :=
  r.mono tr.jj (tr.kp jf)
theorem aside_nd {fp : List Addr} (nd : (F ++ fp).Nodup) (tr : Tr J H F J' H' F') (hd : ∀ b ∈ fp, H b ≠ none) (nd' : F'.Nodup) : (F' ++ fp).Nodup := by
  rw [List.nodup_append] at nd ⊢
  refine ⟨nd', nd.2.1, fun a ha b hb e => ?_⟩
  subst e
  rcases tr.fnew a ha with z | z
  · exact nd.2.2 a z a hb rfl
  · exact hd a hb z
theorem not_both {fp : List Addr} {a : Addr} (nd : (F ++ fp).Nodup) (h1 : a ∈ fp) : a ∉ F := fun h => (List.nodup_append.mp nd).2.2 a h a h1 rfl
theorem Owns.step {vs : List V} {ts : List T} {fp : List Addr} (o : Owns K J H F vs ts fp) (tr : Tr J H F J' H' F') (jf : ∀ a ∈ F, ¬ J a) (nd' : F'.Nodup) : Owns K J' H' F' vs ts fp where
  rt := o.rt.mono tr.jj (tr.kp jf) fun b u hb e => tr.keep b u e (not_both o.nd hb)
  nd := aside_nd o.nd tr (RTs.dom o.rt) nd'
  jf := fun a ha z => by
    rcases tr.jnew a z with z | z | z
    · exact o.jf a ha z
    · exact not_both o.nd ha z
    · exact RTs.dom o.rt a ha z
theorem Own.step {v : V} {t : T} {fp : List Addr} (o : Own K J H F v t fp) (tr : Tr J H F J' H' F') (jf : ∀ a ∈ F, ¬ J a) (nd' : F'.Nodup) : Own K J' H' F' v t fp where
  rt := o.rt.mono tr.jj (tr.kp jf) fun b u hb e => tr.keep b u e (not_both o.nd hb)
  nd := aside_nd o.nd tr (RT.dom o.rt) nd'
  jf := fun a ha z => by
    rcases tr.jnew a z with z | z | z
    · exact o.jf a ha z
    · exact not_both o.nd ha z
    · exact RT.dom o.rt a ha z
theorem RE.length {σ : L2.St} {e : En} (r : RE K J H σ e F) : σ.length = e.length := by
  induction r with
  | nil => rfl
  | out _ ih => simp [ih]
  | held _ _ ih => simp [ih]
theorem RE.dom {σ : L2.St} {e : En} (r : RE K J H σ e F) : ∀ b ∈ F, H b ≠ none := by
  induction r with
  | nil => intro b hb; cases hb
  | out _ ih => exact ih
  | held r _ ih =>
    intro b hb
    rcases List.mem_append.mp hb with h | h
    · exact RT.dom r b h
    · exact ih b h
theorem RE.mono {σ : L2.St} {e : En} (r : RE K J H σ e F) (hj : ∀ b, J b → J' b) (hk : Kp J H H') (hf : ∀ b o, b ∈ F → H b = some o → H' b = some o) : RE K J' H' σ e F := by
  induction r with
  | nil => exact .nil
  | out _ ih => exact .out (ih hf)
  | held r _ ih => exact .held (r.mono hj hk fun b o hb => hf b o (List.mem_append_left _ hb)) (ih fun b o hb => hf b o (List.mem_append_right _ hb))
theorem RE.take {σ : L2.St} {e : En} (r : RE K J H σ e F) : ∀ {i : Nat} {t : T}, e[i]? = some (some t) → ∃ v fp F', σ[i]? = some (some v) ∧ RT K J H v t fp ∧ F.Perm (F' ++ fp) ∧ RE K J H σ (e.set i none) F' := by
  induction r with
  | nil => intro i t h; simp at h
  | out r ih =>
    intro i t h
    cases i with
    | zero => simp at h
    | succ i =>
      obtain ⟨v, fp, F', h1, h2, h3, h4⟩ := ih (i := i) (by simpa using h)
      exact ⟨v, fp, F', by simpa using h1, h2, h3, .out h4⟩
  | held q r ih =>
    rename_i v0 t0 σ0 e0 f g
    intro i t h
    cases i with
    | zero =>
      simp at h; subst h
      exact ⟨v0, f, g, rfl, q, List.perm_append_comm, .out r⟩
    | succ i =>
      obtain ⟨v, fp, F', h1, h2, h3, h4⟩ := ih (i := i) (by simpa using h)
      refine ⟨v, fp, f ++ F', by simpa using h1, h2, ?_, .held q h4⟩
      rw [List.append_assoc]
      exact List.Perm.append_left f h3
theorem RE.put {σ : L2.St} {e : En} (r : RE K J H σ e F) : ∀ {i : Nat} {t : T} {v : V} {fp : List Addr}, e[i]? = some none → σ[i]? = some (some v) → RT K J H v t fp → ∃ F', F'.Perm (F ++ fp) ∧ RE K J H σ (e.set i (some t)) F' := by
  induction r with
  | nil => intro i t v fp h; simp at h
  | out r ih =>
    intro i t v fp h h2 q
    cases i with
    | zero =>
      simp at h2; subst h2
      exact ⟨_, List.perm_append_comm, .held q r⟩
    | succ i =>
      obtain ⟨F', h1, h3⟩ := ih (i := i) (by simpa using h) (by simpa using h2) q
      exact ⟨F', h1, .out h3⟩
  | held q0 r ih =>
    rename_i v0 t0 σ0 e0 f g
    intro i t v fp h h2 q
    cases i with
    | zero => simp at h
    | succ i =>
      obtain ⟨F', h1, h3⟩ := ih (i := i) (by simpa using h) (by simpa using h2) q
      refine ⟨f ++ F', ?_, .held q0 h3⟩
      rw [List.append_assoc]
      exact List.Perm.append_left f h1
/-- a slot given up, its value forgotten -/
theorem RE.clear {σ : L2.St} {e : En} (r : RE K J H σ e F) : ∀ (i : Nat) (x : Option V), ∃ F' g, F.Perm (F' ++ g) ∧ RE K J H (σ.set i x) (e.set i none) F' := by
  induction r with
  | nil => intro i x; exact ⟨[], [], List.Perm.refl _, .nil⟩
  | out r ih =>
    intro i x
    cases i with
    | zero => exact ⟨_, [], by simp, .out r⟩
    | succ i =>
      obtain ⟨F', g, h1, h2⟩ := ih i x
      exact ⟨F', g, h1, .out h2⟩
  | held q0 r ih =>
    rename_i v0 t0 σ0 e0 f g0
    intro i x
    cases i with
    | zero => exact ⟨g0, f, List.perm_append_comm, .out r⟩
    | succ i =>
      obtain ⟨F', g, h1, h2⟩ := ih i x
      refine ⟨f ++ F', g, ?_, .held q0 h2⟩
      rw [List.append_assoc]
      exact List.Perm.append_left f h1
variable {pn : List (Nat × V)} {σ : L2.St} {e : En}
theorem nd_left {A B : List Addr} (h : (A ++ B).Nodup) : A.Nodup := (List.nodup_append.mp h).1
theorem SR.take (s : SR K pn σ H e J F) {i : Nat} {t : T} (h : e[i]? = some (some t)) :
    ∃ v fp F', σ[i]? = some (some v) ∧ Own K J H F' v t fp ∧ SR K pn σ H (e.set i none) J F' ∧ F.Perm (F' ++ fp) := by
  obtain ⟨v, fp, F', h1, h2, h3, h4⟩ := s.re.take h
  have nd := h3.nodup_iff.mp s.nd
  exact ⟨v, fp, F', h1, ⟨h2, nd, fun a ha => s.jf a (h3.mem_iff.mpr (List.mem_append_right _ ha))⟩, ⟨h4, nd_left nd, fun a ha => s.jf a (h3.mem_iff.mpr (List.mem_append_left _ ha)), s.jd, s.pin⟩, h3⟩
theorem SR.put (s : SR K pn σ H e J F) {i : Nat} {t : T} {v : V} {fp : List Addr} (h : e[i]? = some none) (hv : σ[i]? = some (some v)) (o : Own K J H F v t fp) :
    ∃ F', SR K pn σ H (e.set i (some t)) J F' ∧ F'.Perm (F ++ fp) := by
  obtain ⟨F', h1, h2⟩ := s.re.put h hv o.rt
  refine ⟨F', ⟨h2, h1.nodup_iff.mpr o.nd, fun a ha => ?_, s.jd, s.pin⟩, h1⟩
  rcases List.mem_append.mp (h1.mem_iff.mp ha) with z | z
  · exact s.jf a z
  · exact o.jf a z
theorem SR.clear (s : SR K pn σ H e J F) (i : Nat) (x : Option V) (hp : ∀ p ∈ pn, p.1 ≠ i) :
    ∃ F', SR K pn (σ.set i x) H (e.set i none) J F' ∧ ∀ b ∈ F', b ∈ F := by
  obtain ⟨F', g, h1, h2⟩ := s.re.clear i x
  refine ⟨F', ⟨h2, nd_left (h1.nodup_iff.mp s.nd), fun a ha => s.jf a (h1.mem_iff.mpr (List.mem_append_left _ ha)), s.jd, fun p hp' => ?_⟩, fun b hb => h1.mem_iff.mpr (List.mem_append_left _ hb)⟩
  rw [List.getElem?_set_ne (fun z => hp p hp' z.symm)]
  exact s.pin p hp'
/-- a slot stored -/
theorem SR.set (s : SR K pn σ H e J F) {i : Nat} {t : T} {v : V} {fp : List Addr} (hi : i < e.length) (hp : ∀ p ∈ pn, p.1 ≠ i) (o : Own K J H F v t fp) :
    ∃ F', SR K pn (σ.set i (some v)) H (e.set i (some t)) J F' ∧ ∀ b ∈ F', b ∈ F ++ fp := by
  obtain ⟨F1, s1, h1⟩ := s.clear i (some v) hp
  have hs : σ.length = e.length := s.re.length
  have o1 : Own K J H F1 v t fp := ⟨o.rt, by
    have nd := o.nd
    rw [List.nodup_append] at nd ⊢
    exact ⟨s1.nd, nd.2.1, fun a ha b hb => nd.2.2 a (h1 a ha) b hb⟩, o.jf⟩
  obtain ⟨F', s2, h2⟩ := s1.put (i := i) (t := t) (v := v) (fp := fp) (by simp [hi]) (by simp [hs, hi]) o1
  rw [List.set_set] at s2
  refine ⟨F', s2, fun b hb => ?_⟩
  rcases List.mem_append.mp (h2.mem_iff.mp hb) with z | z
  · exact List.mem_append_left _ (h1 b z)
  · exact List.mem_append_right _ z
/-- the state carried along, the slots as they are -/
theorem SR.step (s : SR K pn σ H e J F) (hj : ∀ b, J b → J' b) (hk : ∀ b o, (J b ∨ b ∈ F ∨ ∃ xs, o = HO.tup xs) → H b = some o → H' b = some o) (jd : ∀ a, J' a → H' a ≠ none) (jf : ∀ a ∈ F, ¬ J' a) : SR K pn σ H' e J' F :=
  ⟨s.re.mono hj (fun b o j => hk b o (j.imp id .inr)) (fun b o j => hk b o (.inr (.inl j))), s.nd, jf, jd, s.pin⟩
/-- an own tree beside is given up -/
theorem SR.give (s : SR K pn σ H e J F) {v : V} {t : T} {fp : List Addr} (o : Own K J H F v t fp) :
    SR K pn σ H e (fun b => J b ∨ b ∈ fp) F ∧ RD K (fun b => J b ∨ b ∈ fp) H v (IL.frz t) ∧ Tr J H (F ++ fp) (fun b => J b ∨ b ∈ fp) H F := by
  refine ⟨s.step (fun _ j => .inl j) (fun _ _ _ q => q) (fun a z => ?_) (fun a ha z => ?_), o.rt.frz (fun _ j => .inl j) fun _ h => .inr h, ⟨fun _ _ q _ => q, fun _ q => q, fun _ j => .inl j, fun b hb => .inl (List.mem_append_left _ hb), fun b z => ?_, fun _ _ q => q⟩⟩
  · rcases z with z | z
    · exact s.jd a z
    · exact RT.dom o.rt a z
  · rcases z with z | z
    · exact s.jf a ha z
    · exact not_both o.nd z ha
  · rcases z with z | z
    · exact .inl z
    · exact .inr (.inl (List.mem_append_right _ z))
/-- a new object, ours -/
theorem SR.laid (s : SR K pn σ H e J F) {p : Addr} {o : HO} (hp : H p = none) : SR K pn σ (upd H p o) e J F ∧ Tr J H F J (upd H p o) (F ++ [p]) ∧ p ∉ F ∧ ¬ J p := by
  have ne : ∀ b u, H b = some u → upd H p o b = some u := fun b u e => by rw [upd_ne (ne_of_none e hp)]; exact e
  have hj : ¬ J p := fun z => s.jd p z hp
  have hF : p ∉ F := fun z => s.re.dom p z hp
  have dm : ∀ b, H b ≠ none → upd H p o b ≠ none := fun b q => by
    by_cases hb : b = p
    · subst hb; rw [upd_same]; exact fun z => nomatch z
    · rw [upd_ne hb]; exact q
  refine ⟨s.step (fun _ j => j) (fun b u _ q => ne b u q) (fun a z => dm a (s.jd a z)) s.jf, ⟨fun b u q _ => ne b u q, dm, fun _ j => j, fun b hb => ?_, fun b z => .inl z, fun b xs q => ne b _ q⟩, hF, hj⟩
  rcases List.mem_append.mp hb with z | z
  · exact .inl z
  · simp at z; subst z; exact .inr hp
end
end IL

namespace IL
open PySem PySem.Spec PyProof.Rows L2

/-! ### runs over slots -/
structure Xn where
  cls : Str
  args : List D
inductive Res (α : Type) where
  | bad
  | ok (a : α) (e : En)
  | exc (x : Xn) (e : En)
abbrev M (α : Type) := En → Res α
def ret {α : Type} (a : α) : M α := fun e => .ok a e
def bad {α : Type} : M α := fun _ => .bad
def bnd {α β : Type} (f : M α) (g : α → M β) : M β := fun e => match f e with
  | .ok a e' => g a e'
  | .bad => .bad
  | .exc x e' => .exc x e'
def opt {α : Type} (o : Option α) : M α := match o with
  | some a => ret a
  | none => bad
theorem bnd_ok {α β : Type} {f : M α} {g : α → M β} {e e2 : En} {b : β} (h : bnd f g e = .ok b e2) : ∃ a e1, f e = .ok a e1 ∧ g a e1 = .ok b e2 := by
  unfold bnd at h
  split at h
  · exact ⟨_, _, by assumption, h⟩
  · cases h
  · cases h
theorem opt_ok {α : Type} {o : Option α} {e e2 : En} {b : α} (h : opt o e = .ok b e2) : o = some b ∧ e2 = e := by
  unfold opt at h
  split at h
  · cases h; exact ⟨rfl, rfl⟩
  · cases h

/-- what comes of values alone: new objects, the rest as it was -/
structure New (K : PySem.W.Frag) (J : Addr → Prop) (H : Hp) (J' : Addr → Prop) (H' : Hp) (v : V) (t : T) (fp : List Addr) : Prop where
  rt : RT K J' H' v t fp
  nd : fp.Nodup
  fr : ∀ a ∈ fp, H a = none ∧ ¬ J' a
  keep : ∀ b o, H b = some o → H' b = some o
  jj : ∀ b, J b → J' b
  jnew : ∀ b, J' b → J b ∨ H b = none
  jd : ∀ b, J' b → H' b ≠ none
section
variable {K : PySem.W.Frag} {J J' : Addr → Prop} {H H' : Hp} {F : List Addr} {pn : List (Nat × V)} {σ : L2.St} {e : En} {v : V} {t : T} {d : D} {fp : List Addr}
theorem New.same (r : RD K J H v d) (jd : ∀ b, J b → H b ≠ none) : New K J H J H v (.leaf d) [] :=
  ⟨.leaf r, .nil, fun _ h => (nomatch h), fun _ _ e => e, fun _ e => e, fun _ e => .inl e, jd⟩
theorem New.sr (n : New K J H J' H' v t fp) (s : SR K pn σ H e J F) : SR K pn σ H' e J' F ∧ Own K J' H' F v t fp ∧ Tr J H F J' H' (F ++ fp) := by
  have dm : ∀ b, H b ≠ none → H' b ≠ none := fun b q => by
    cases q' : H b with
    | none => exact absurd q' q
    | some o => rw [n.keep b o q']; exact fun z => nomatch z
  refine ⟨s.step n.jj (fun b o _ q => n.keep b o q) n.jd (fun a ha z => ?_), ⟨n.rt, ?_, fun a ha => (n.fr a ha).2⟩, ⟨fun b o q _ => n.keep b o q, dm, n.jj, fun b hb => ?_, fun b z => ?_, fun b xs q => n.keep b _ q⟩⟩
  · rcases n.jnew a z with z | z
    · exact s.jf a ha z
    · exact s.re.dom a ha z
  · rw [List.nodup_append]
    refine ⟨s.nd, n.nd, fun a ha b hb z => ?_⟩
    subst z
    exact s.re.dom a ha (n.fr a hb).1
  · rcases List.mem_append.mp hb with z | z
    · exact .inl z
    · exact .inr (n.fr b z).1
  · rcases n.jnew b z with z | z
    · exact .inl z
    · exact .inr (.inr z)
/-- a new list of our own, of data -/
theorem New.list {xs : List V} {ds : List D} {p : Addr} (r : RDs K J H xs ds) (jd : ∀ b, J b → H b ≠ none) (hp : H p = none) : New K J H J (upd H p (.lst xs)) (.ref p) (.lst (ds.map T.leaf)) [p] := by
  have keep : ∀ b o, H b = some o → upd H p (.lst xs) b = some o := fun b o e => by rw [upd_ne (ne_of_none e hp)]; exact e
  refine ⟨?_, by simp, fun a ha => ?_, keep, fun _ e => e, fun _ e => .inl e, fun b z => ?_⟩
  · have h := RTs.leaves (r.mono (J' := J) (H' := upd H p (.lst xs)) (fun _ e => e) fun b o _ e => keep b o e)
    exact .lst upd_same h
  · simp at ha; subst ha
    exact ⟨hp, fun z => jd _ z hp⟩
  · cases q : H b with
    | none => exact absurd q (jd b z)
    | some o => rw [keep b o q]; exact fun z => nomatch z
/-- a new tuple, of data: it stays -/
theorem New.tuple {xs : List V} {ds : List D} {p : Addr} (r : RDs K J H xs ds) (jd : ∀ b, J b → H b ≠ none) (hp : H p = none) : New K J H (fun b => J b ∨ b = p) (upd H p (.tup xs)) (.ref p) (.leaf (.tuple ds)) [] := by
  have keep : ∀ b o, H b = some o → upd H p (.tup xs) b = some o := fun b o e => by rw [upd_ne (ne_of_none e hp)]; exact e
  refine ⟨.leaf (.tup (.inl upd_same) (r.mono (fun _ e => .inl e) fun b o _ e => keep b o e)), .nil, fun _ h => (nomatch h), keep, fun _ e => .inl e, fun b z => ?_, fun b z => ?_⟩
  · rcases z with z | z
    · exact .inl z
    · subst z; exact .inr hp
  · rcases z with z | z
    · cases q : H b with
      | none => exact absurd q (jd b z)
      | some o => rw [keep b o q]; exact fun z => nomatch z
    · subst z; rw [upd_same]; exact fun z => nomatch z
end

/-! ### readings -/
section
variable (K : PySem.W.Frag) (pn : List (Nat × V))
def rdE (f : M T) : TE := fun σ H Q => ∃ e J F, SR K pn σ H e J F ∧ ∃ t e', f e = .ok t e' ∧ ∀ v H' J' F' fp, SR K pn σ H' e' J' F' → Own K J' H' F' v t fp → Tr J H F J' H' (F' ++ fp) → Q v H'
def rdD (f : M D) : TE := fun σ H Q => ∃ e J F, SR K pn σ H e J F ∧ ∃ t e', f e = .ok t e' ∧ ∀ v H' J' F', SR K pn σ H' e' J' F' → RD K J' H' v t → Tr J H F J' H' F' → Q v H'
def rdEs (f : M (List T)) : TA := fun σ H Q => ∃ e J F, SR K pn σ H e J F ∧ ∃ t e', f e = .ok t e' ∧ ∀ v H' J' F' fp, SR K pn σ H' e' J' F' → Owns K J' H' F' v t fp → Tr J H F J' H' (F' ++ fp) → Q v H'
def rdDs (f : M (List D)) : TA := fun σ H Q => ∃ e J F, SR K pn σ H e J F ∧ ∃ t e', f e = .ok t e' ∧ ∀ v H' J' F', SR K pn σ H' e' J' F' → RDs K J' H' v t → Tr J H F J' H' F' → Q v H'
end
theorem PE.weak {X : Cx} {e : Expr} {t t' : TE} (h : PE X e t) (w : ∀ σ H Q, t' σ H Q → t σ H Q) : PE X e t' := ⟨fun pins s σ H Q I q => h.run pins s σ H Q I (w σ H Q q)⟩
theorem PA.weak {X : Cx} {e : List Expr} {t t' : TA} (h : PA X e t) (w : ∀ σ H Q, t' σ H Q → t σ H Q) : PA X e t' := ⟨fun pos pins s σ H Q I q => h.run pos pins s σ H Q I (w σ H Q q)⟩
theorem PT.weak {X : Cx} {e : Expr} {t t' : TT} (h : PT X e t) (w : ∀ σ H Q, t' σ H Q → t σ H Q) : PT X e t' := ⟨fun pins s σ H Q I q => h.run pins s σ H Q I (w σ H Q q)⟩
theorem PS.weak {X : Cx} {e : Stmt} {t t' : TS} (h : PS X e t) (w : ∀ (D : Ends) (σ : L2.St) (H : Hp), t' D σ H → t D σ H) : PS X e t' := ⟨fun pins s σ H D I q => h.run pins s σ H D I (w D σ H q)⟩
theorem PSs.weak {X : Cx} {e : List Stmt} {t t' : TS} (h : PSs X e t) (w : ∀ (D : Ends) (σ : L2.St) (H : Hp), t' D σ H → t D σ H) : PSs X e t' := ⟨fun pins s σ H D I q => h.run pins s σ H D I (w D σ H q)⟩

def lf (f : M D) : M T := bnd f fun d => ret (.leaf d)
def fz (f : M T) : M D := bnd f fun t => ret (frz t)
def fzs (f : M (List T)) : M (List D) := bnd f fun t => ret (frzs t)
section
variable {X : Cx} {pn : List (Nat × V)} {a b c : Expr} {pos : Pos}
theorem pe_lf {f : M D} (h : PE X a (rdD X.K pn f)) : PE X a (rdE X.K pn (lf f)) := PE.weak h fun σ H Q ⟨e, J, F, s, t, e', h, q⟩ => by
  obtain ⟨d, e1, h1, h2⟩ := bnd_ok h
  cases h2
  exact ⟨e, J, F, s, d, e', h1, fun v H' J' F' s' r tr => q v H' J' F' [] s' ⟨.leaf r, by simpa using s'.nd, fun _ z => nomatch z⟩ (by simpa using tr)⟩
theorem pe_fz {f : M T} (h : PE X a (rdE X.K pn f)) : PE X a (rdD X.K pn (fz f)) := PE.weak h fun σ H Q ⟨e, J, F, s, t, e', h, q⟩ => by
  obtain ⟨d, e1, h1, h2⟩ := bnd_ok h
  cases h2
  refine ⟨e, J, F, s, d, e', h1, fun v H' J' F' fp s' o tr => ?_⟩
  obtain ⟨g1, g2, g3⟩ := s'.give o
  exact q v H' _ F' g1 g2 (tr.trans g3)
/-- constants -/
theorem pe_const' {v : V} {d : D} (h : PE X a (tC v)) (hv : ∀ J H, RD X.K J H v d) : PE X a (rdD X.K pn (ret d)) := PE.weak h fun σ H Q ⟨e, J, F, s, t, e', h, q⟩ => by
  cases h
  exact q v H J F s (hv _ _) .refl
/-- a name's value, given up -/
def gVar (i : Nat) : M D := fun e => match e[i]? with
  | some (some t) => .ok (frz t) (e.set i (some (.leaf (frz t))))
  | _ => .bad
theorem take_freeze {K : PySem.W.Frag} {σ : L2.St} {H : Hp} {e : En} {J : Addr → Prop} {F : List Addr} {i : Nat} {t : T} (s : SR K pn σ H e J F) (h : e[i]? = some (some t)) :
    ∃ v J' F', σ[i]? = some (some v) ∧ SR K pn σ H (e.set i (some (.leaf (frz t)))) J' F' ∧ RD K J' H v (frz t) ∧ Tr J H F J' H F' := by
  obtain ⟨v, fp, F1, hv, o, s1, pm⟩ := s.take h
  obtain ⟨g1, g2, g3⟩ := s1.give o
  have hi : i < e.length := (List.getElem?_eq_some_iff.mp h).1
  obtain ⟨F2, s2, h2⟩ := g1.put (i := i) (t := .leaf (frz t)) (v := v) (fp := []) (by simp [hi]) hv ⟨.leaf g2, by simpa using g1.nd, fun _ z => nomatch z⟩
  rw [List.set_set] at s2
  refine ⟨v, _, F2, hv, s2, g2, ?_⟩
  have t0 : Tr J H F J H (F1 ++ fp) := Tr.sub fun b hb => pm.mem_iff.mpr hb
  have t1 := t0.trans g3
  exact t1.trans (Tr.sub fun b hb => by simpa using h2.mem_iff.mp hb)
theorem pe_var' {i : Nat} (h : PE X a (tVar i)) : PE X a (rdD X.K pn (gVar i)) := PE.weak h fun σ H Q ⟨e, J, F, s, t, e', h, q⟩ => by
  unfold gVar at h
  split at h
  · rename_i t0 h0
    cases h
    obtain ⟨v, J', F', hv, s', r, tr⟩ := take_freeze s h0
    exact ⟨v, hv, q v H J' F' s' r tr⟩
  · cases h

/-! ### operators by values -/
def OpS (X : Cx) (f : Value → Value → Sem Value) (g : D → D → Option T) : Prop :=
  ∃ r, OpR X f r ∧ ∀ x y t, g x y = some t → ∀ (J : Addr → Prop) (H : Hp) (v u : V), (∀ b, J b → H b ≠ none) → RD X.K J H v x → RD X.K J H u y → ∀ Q : VK, (∀ w H' J' fp, New X.K J H J' H' w t fp → Q w H') → r v u H Q
def orr {α : Type} (a b : Option α) : Option α := match a with
  | some t => some t
  | none => b
theorem OpS.or {f : Value → Value → Sem Value} {g g' : D → D → Option T} (h : OpS X f g) (h' : OpS X f g') : OpS X f (fun x y => orr (g x y) (g' x y)) := by
  obtain ⟨r, h1, h2⟩ := h
  obtain ⟨r', h1', h2'⟩ := h'
  refine ⟨fun x y H Q => r x y H Q ∨ r' x y H Q, fun pins s σ H x y v u Q I rx ry q => ?_, fun x y t e J H v u jd rx ry Q q => ?_⟩
  · rcases q with q | q
    · exact h1 pins s σ H x y v u Q I rx ry q
    · exact h1' pins s σ H x y v u Q I rx ry q
  · cases e1 : g x y with
    | none =>
      simp only [e1, orr] at e
      exact .inr (h2' x y t e J H v u jd rx ry Q q)
    | some t' =>
      simp only [e1, orr] at e
      exact .inl (h2 x y t (by rw [e1]; exact e) J H v u jd rx ry Q q)
def gBin (g : D → D → Option T) (fa fb : M D) : M T := bnd fa fun x => bnd fb fun y => opt (g x y)
theorem tOp_rd {r : R2} {g : D → D → Option T} (hg : ∀ x y t, g x y = some t → ∀ (J : Addr → Prop) (H : Hp) (v u : V), (∀ b, J b → H b ≠ none) → RD X.K J H v x → RD X.K J H u y → ∀ Q : VK, (∀ w H' J' fp, New X.K J H J' H' w t fp → Q w H') → r v u H Q)
    {fa fb : M D} {σ : L2.St} {H : Hp} {Q : VK} (h : rdE X.K pn (gBin g fa fb) σ H Q) : tOp r (rdD X.K pn fa) (rdD X.K pn fb) σ H Q := by
  obtain ⟨e, J, F, s, t, e', h, q⟩ := h
  obtain ⟨x, e1, h1, h⟩ := bnd_ok h
  obtain ⟨y, e2, h2, h⟩ := bnd_ok h
  obtain ⟨h3, rfl⟩ := opt_ok h
  refine ⟨e, J, F, s, x, e1, h1, fun v H1 J1 F1 s1 r1 tr1 => ?_⟩
  refine ⟨e1, J1, F1, s1, y, e', h2, fun u H2 J2 F2 s2 r2 tr2 => ?_⟩
  refine hg x y t h3 J2 H2 v u s2.jd (r1.step tr2 s1.jf) r2 Q fun w H' J' fp n => ?_
  obtain ⟨s3, o3, tr3⟩ := n.sr s2
  exact q w H' J' F2 fp s3 o3 ((tr1.trans tr2).trans tr3)
theorem pe_bin' {op : Operator} {g : D → D → Option T} {fa fb : M D} (ho : OpS X (binaryOp op) g) (ha : PE X a (rdD X.K pn fa)) (hb : PE X b (rdD X.K pn fb)) : PE X (.BinOp a op b pos) (rdE X.K pn (gBin g fa fb)) := by
  obtain ⟨r, h1, h2⟩ := ho
  exact PE.weak (pe_op h1 ha hb) fun σ H Q q => tOp_rd h2 q
theorem pe_cmp' {op : CmpOp} {g : D → D → Option T} {fa fb : M D} (ho : OpS X (compareOp op) g) (ha : PE X a (rdD X.K pn fa)) (hb : PE X b (rdD X.K pn fb)) (hm : behindInMarks op b = false) : PE X (.Compare a [op] [b] pos) (rdE X.K pn (gBin g fa fb)) := by
  obtain ⟨r, h1, h2⟩ := ho
  exact PE.weak (pe_cmpR h1 ha hb hm) fun σ H Q q => tOp_rd h2 q

/-- truth of a value that is True or False -/
def asB (t : T) : Option Bool := match t with
  | .leaf (.bool b) => some b
  | _ => none
theorem asB_some {t : T} {b : Bool} (h : asB t = some b) : t = .leaf (.bool b) := by
  unfold asB at h
  split at h
  · cases h; rfl
  · cases h
theorem own_bool {K : PySem.W.Frag} {J : Addr → Prop} {H : Hp} {F : List Addr} {v : V} {b : Bool} {fp : List Addr} (o : Own K J H F v (.leaf (.bool b)) fp) : v = .bl b ∧ fp = [] := by
  have h := o.rt
  cases h with
  | leaf r => cases r; exact ⟨rfl, rfl⟩
def gAnd (f g : M T) : M T := bnd f fun t => bnd (opt (asB t)) fun b => if b then g else ret (.leaf (.bool false))
def gOr (f g : M T) : M T := bnd f fun t => bnd (opt (asB t)) fun b => if b then ret (.leaf (.bool true)) else g
def gNot (f : M T) : M T := bnd f fun t => bnd (opt (asB t)) fun b => ret (.leaf (.bool (!b)))
def gIf (f g k : M T) : M T := bnd f fun t => bnd (opt (asB t)) fun b => if b then g else k
theorem own_leaf_bl {K : PySem.W.Frag} {J : Addr → Prop} {H : Hp} {F : List Addr} {b : Bool} (nd : F.Nodup) : Own K J H F (.bl b) (.leaf (.bool b)) [] := ⟨.leaf (.bl b), by simpa using nd, fun _ z => nomatch z⟩
theorem pe_and' {f g : M T} {rest : List Expr} (ha : PE X a (rdE X.K pn f)) (hb : PE X (.BoolOp .And (b :: rest) pos) (rdE X.K pn g)) : PE X (.BoolOp .And (a :: b :: rest) pos) (rdE X.K pn (gAnd f g)) :=
  PE.weak (pe_and ha hb) fun σ H Q ⟨e, J, F, s, t, e', h, q⟩ => by
    obtain ⟨x, e1, h1, h⟩ := bnd_ok h
    obtain ⟨k, e2, h2, h4⟩ := bnd_ok h
    obtain ⟨h3, rfl⟩ := opt_ok h2
    have hx := asB_some h3
    subst hx
    refine ⟨e, J, F, s, _, _, h1, fun v H1 J1 F1 fp s1 o1 tr1 => ?_⟩
    obtain ⟨rfl, rfl⟩ := own_bool o1
    simp only [List.append_nil] at tr1
    refine ⟨k, rfl, ?_⟩
    cases k with
    | true =>
      rw [if_pos rfl] at h4 ⊢
      exact ⟨_, J1, F1, s1, t, e', h4, fun v H' J' F' fp s' o' tr' => q v H' J' F' fp s' o' (tr1.trans tr')⟩
    | false =>
      rw [if_neg Bool.false_ne_true] at h4 ⊢
      cases h4
      exact q _ H1 J1 F1 [] s1 (own_leaf_bl s1.nd) (by simpa using tr1)
theorem pe_or' {f g : M T} {rest : List Expr} (ha : PE X a (rdE X.K pn f)) (hb : PE X (.BoolOp .Or (b :: rest) pos) (rdE X.K pn g)) : PE X (.BoolOp .Or (a :: b :: rest) pos) (rdE X.K pn (gOr f g)) :=
  PE.weak (pe_or ha hb) fun σ H Q ⟨e, J, F, s, t, e', h, q⟩ => by
    obtain ⟨x, e1, h1, h⟩ := bnd_ok h
    obtain ⟨k, e2, h2, h4⟩ := bnd_ok h
    obtain ⟨h3, rfl⟩ := opt_ok h2
    have hx := asB_some h3
    subst hx
    refine ⟨e, J, F, s, _, _, h1, fun v H1 J1 F1 fp s1 o1 tr1 => ?_⟩
    obtain ⟨rfl, rfl⟩ := own_bool o1
    simp only [List.append_nil] at tr1
    refine ⟨k, rfl, ?_⟩
    cases k with
    | false =>
      rw [if_neg Bool.false_ne_true] at h4 ⊢
      exact ⟨_, J1, F1, s1, t, e', h4, fun v H' J' F' fp s' o' tr' => q v H' J' F' fp s' o' (tr1.trans tr')⟩
    | true =>
      rw [if_pos rfl] at h4 ⊢
      cases h4
      exact q _ H1 J1 F1 [] s1 (own_leaf_bl s1.nd) (by simpa using tr1)
theorem pe_not' {f : M T} (ha : PE X a (rdE X.K pn f)) : PE X (.UnaryOp .Not a pos) (rdE X.K pn (gNot f)) :=
  PE.weak (pe_not ha) fun σ H Q ⟨e, J, F, s, t, e', h, q⟩ => by
    obtain ⟨x, e1, h1, h⟩ := bnd_ok h
    obtain ⟨k, e2, h2, h4⟩ := bnd_ok h
    obtain ⟨h3, rfl⟩ := opt_ok h2
    have hx := asB_some h3
    subst hx
    cases h4
    refine ⟨e, J, F, s, _, _, h1, fun v H1 J1 F1 fp s1 o1 tr1 => ?_⟩
    obtain ⟨rfl, rfl⟩ := own_bool o1
    simp only [List.append_nil] at tr1
    exact ⟨k, rfl, q _ H1 J1 F1 [] s1 (own_leaf_bl s1.nd) (by simpa using tr1)⟩
/-- a test -/
def rdT (K : PySem.W.Frag) (pn : List (Nat × V)) (f : M Bool) : TT := fun σ H Q => ∃ e J F, SR K pn σ H e J F ∧ ∃ b e', f e = .ok b e' ∧ ∀ H' J' F', SR K pn σ H' e' J' F' → Tr J H F J' H' F' → Q b H'
def tst (f : M T) : M Bool := bnd f fun t => opt (asB t)
theorem rdT_of {f : M T} {σ : L2.St} {H : Hp} {Q : Bool → Hp → Prop} (h : rdT X.K pn (tst f) σ H Q) : rdE X.K pn f σ H (fun x H1 => ∃ k, x = .bl k ∧ Q k H1) := by
  obtain ⟨e, J, F, s, t, e', h, q⟩ := h
  obtain ⟨x, e1, h1, h⟩ := bnd_ok h
  obtain ⟨h3, rfl⟩ := opt_ok h
  have hx := asB_some h3
  subst hx
  refine ⟨e, J, F, s, _, _, h1, fun v H1 J1 F1 fp s1 o1 tr1 => ?_⟩
  obtain ⟨rfl, rfl⟩ := own_bool o1
  simp only [List.append_nil] at tr1
  exact ⟨t, rfl, q H1 J1 F1 s1 tr1⟩
def notIf : Expr → Bool
  | .IfExp .. => false
  | _ => true
/-- an expression does what f says, as a value and as a test -/
def nstar : Expr → Bool
  | .Starred .. => false
  | _ => true
structure IE (X : Cx) (pn : List (Nat × V)) (e : Expr) (f : M T) : Prop where
  pe : PE X e (rdE X.K pn f)
  pt : notIf e = true → PT X e (rdT X.K pn (tst f))
  ns : nstar e = true
theorem ie_mk {f : M T} (h : PE X a (rdE X.K pn f)) (hs : nstar a = true := by rfl) (he : ∀ whole, isTrue a X.env whole = (do let v ← whole; standAt a.pos; holding [v] (truthy v)) := by intro _; rfl) : IE X pn a f :=
  ⟨h, fun _ => PT.weak (pt_val h he) fun σ H Q q => rdT_of q, hs⟩
theorem pw_of {op : BoolOp} {vs : List Expr} {t : TT} (h : PT X (.BoolOp op vs pos) t) : PW X (.BoolOp op vs pos) t := ⟨fun _ pins s σ H Q I q => h.run pins s σ H Q I q⟩
def cond {α : Type} (f : M Bool) (g k : M α) : M α := bnd f fun b => if b then g else k
theorem pe_ite' {f : M Bool} {g k : M T} (hc : PT X c (rdT X.K pn f)) (ha : PE X a (rdE X.K pn g)) (hb : PE X b (rdE X.K pn k)) : PE X (.IfExp c a b pos) (rdE X.K pn (cond f g k)) :=
  PE.weak (pe_ifExp hc ha hb) fun σ H Q ⟨e, J, F, s, t, e', h, q⟩ => by
    obtain ⟨x, e1, h1, h⟩ := bnd_ok h
    refine ⟨e, J, F, s, _, _, h1, fun H1 J1 F1 s1 tr1 => ?_⟩
    cases x with
    | false =>
      rw [if_neg Bool.false_ne_true] at h ⊢
      exact ⟨_, J1, F1, s1, t, e', h, fun v H' J' F' fp s' o' tr' => q v H' J' F' fp s' o' (tr1.trans tr')⟩
    | true =>
      rw [if_pos rfl] at h ⊢
      exact ⟨_, J1, F1, s1, t, e', h, fun v H' J' F' fp s' o' tr' => q v H' J' F' fp s' o' (tr1.trans tr')⟩
/-- a < b < c -/
def gChain (g g' : D → D → Option T) (fa fb fc : M D) : M T := bnd fa fun x => bnd fb fun y => bnd (opt (g x y)) fun t => bnd (opt (asB t)) fun b => if b then bnd fc fun z => opt (g' y z) else ret (.leaf (.bool false))
abbrev RuleD (X : Cx) (r : R2) (g : D → D → Option T) : Prop := ∀ x y t, g x y = some t → ∀ (J : Addr → Prop) (H : Hp) (v u : V), (∀ b, J b → H b ≠ none) → RD X.K J H v x → RD X.K J H u y → ∀ Q : VK, (∀ w H' J' fp, New X.K J H J' H' w t fp → Q w H') → r v u H Q
theorem tChain_rd {r r' : R2} {g g' : D → D → Option T} (h2 : RuleD X r g) (h2' : RuleD X r' g') {fa fb fc : M D} {σ : L2.St} {H : Hp} {Q : VK} (h : rdE X.K pn (gChain g g' fa fb fc) σ H Q) :
    tChain r r' (rdD X.K pn fa) (rdD X.K pn fb) (rdD X.K pn fc) σ H Q := by
  obtain ⟨e, J, F, s, t, e', h, q⟩ := h
  obtain ⟨x, e1, k1, m1⟩ := bnd_ok h
  obtain ⟨y, e2, k2, m2⟩ := bnd_ok m1
  obtain ⟨t1, e3, k3, m3⟩ := bnd_ok m2
  obtain ⟨k3', rfl⟩ := opt_ok k3
  obtain ⟨k, e4, k4, h4⟩ := bnd_ok m3
  obtain ⟨k4', rfl⟩ := opt_ok k4
  have hx := asB_some k4'
  subst hx
  refine ⟨e, J, F, s, x, e1, k1, fun v H1 J1 F1 s1 r1 tr1 => ?_⟩
  refine ⟨e1, J1, F1, s1, y, _, k2, fun u H2 J2 F2 s2 r2 tr2 => ?_⟩
  refine h2 x y _ k3' J2 H2 v u s2.jd (r1.step tr2 s1.jf) r2 _ fun w H' J' fp n => ?_
  obtain ⟨s3, o3, tr3⟩ := n.sr s2
  obtain ⟨rfl, rfl⟩ := own_bool o3
  simp only [List.append_nil] at tr3
  refine ⟨k, rfl, ?_⟩
  have tr : Tr J H F J' H' F2 := (tr1.trans tr2).trans tr3
  cases k with
  | false =>
    rw [if_neg Bool.false_ne_true] at h4 ⊢
    cases h4
    exact q _ H' J' F2 [] s3 (own_leaf_bl s3.nd) (by simpa using tr)
  | true =>
    rw [if_pos rfl] at h4 ⊢
    obtain ⟨z, e5, k5, h5⟩ := bnd_ok h4
    obtain ⟨k6, rfl⟩ := opt_ok h5
    refine ⟨_, J', F2, s3, z, _, k5, fun u' H3 J3 F3 s4 r4 tr4 => ?_⟩
    refine h2' y z t k6 J3 H3 u u' s4.jd ((r2.step tr3 s2.jf).step tr4 s3.jf) r4 Q fun w H'' J'' fp n => ?_
    obtain ⟨s5, o5, tr5⟩ := n.sr s4
    exact q w H'' J'' F3 fp s5 o5 ((tr.trans tr4).trans tr5)
theorem pe_chain' {op op' : CmpOp} {g g' : D → D → Option T} {fa fb fc : M D} (ho : OpS X (compareOp op) g) (ho' : OpS X (compareOp op') g') (ha : PE X a (rdD X.K pn fa)) (hb : PE X b (rdD X.K pn fb)) (hc : PE X c (rdD X.K pn fc)) (hm : lastMarks [op, op'] [b, c] = false) :
    IE X pn (.Compare a [op, op'] [b, c] pos) (gChain g g' fa fb fc) := by
  obtain ⟨r, h1, h2⟩ := ho
  obtain ⟨r', h1', h2'⟩ := ho'
  exact ⟨PE.weak (pe_chain h1 h1' ha hb hc hm) fun σ H Q q => tChain_rd h2 h2' q, fun _ => PT.weak (pt_chain h1 h1' ha hb hc hm) fun σ H Q q => by
    have := rdT_of q
    exact tChain_rd h2 h2' this, rfl⟩
theorem ie_cmp {op : CmpOp} {g : D → D → Option T} {fa fb : M D} (ho : OpS X (compareOp op) g) (ha : PE X a (rdD X.K pn fa)) (hb : PE X b (rdD X.K pn fb)) (hm : behindInMarks op b = false) : IE X pn (.Compare a [op] [b] pos) (gBin g fa fb) := by
  obtain ⟨r, h1, h2⟩ := ho
  exact ⟨PE.weak (pe_cmpR h1 ha hb hm) fun σ H Q q => tOp_rd h2 q, fun _ => PT.weak (pt_cmpR h1 ha hb hm) fun σ H Q q => tOp_rd h2 (rdT_of q), rfl⟩
theorem ie_bin {op : Operator} {g : D → D → Option T} {fa fb : M D} (ho : OpS X (binaryOp op) g) (ha : PE X a (rdD X.K pn fa)) (hb : PE X b (rdD X.K pn fb)) : IE X pn (.BinOp a op b pos) (gBin g fa fb) := ie_mk (pe_bin' ho ha hb)
theorem ie_ite {f g k : M T} (hc : IE X pn c f) (hn : notIf c = true) (ha : IE X pn a g) (hb : IE X pn b k) : IE X pn (.IfExp c a b pos) (cond (tst f) g k) := ⟨pe_ite' (hc.pt hn) ha.pe hb.pe, fun z => (by cases z), rfl⟩
theorem ie_one {op : BoolOp} {f : M T} (ha : IE X pn a f) (hn : notIf a = true) : IE X pn (.BoolOp op [a] pos) f := ⟨pe_one ha.pe, fun _ => by
  cases op with
  | And => exact (pw_and1 (ha.pt hn)).pt
  | Or => exact (pw_or1 (ha.pt hn)).pt, rfl⟩
theorem ie_and {f g : M T} {rest : List Expr} (ha : IE X pn a f) (hn : notIf a = true) (hb : IE X pn (.BoolOp .And (b :: rest) pos) g) : IE X pn (.BoolOp .And (a :: b :: rest) pos) (gAnd f g) :=
  ⟨pe_and' ha.pe hb.pe, fun _ => PT.weak (pw_and (ha.pt hn) (pw_of (hb.pt rfl))).pt fun σ H Q q => by
    obtain ⟨e, J, F, s, t, e', h, q⟩ := q
    obtain ⟨x, e1, h1, h2⟩ := bnd_ok h
    obtain ⟨y, e2, h3, h4⟩ := bnd_ok h1
    obtain ⟨k, e3, h5, h6⟩ := bnd_ok h4
    refine ⟨e, J, F, s, k, e3, by unfold tst bnd; rw [h3]; exact h5, fun H1 J1 F1 s1 tr1 => ?_⟩
    cases k with
    | true =>
      rw [if_pos rfl] at h6 ⊢
      exact ⟨e3, J1, F1, s1, t, e', by unfold tst bnd; rw [h6]; exact h2, fun H' J' F' s' tr' => q H' J' F' s' (tr1.trans tr')⟩
    | false =>
      rw [if_neg Bool.false_ne_true] at h6 ⊢
      cases h6
      obtain ⟨h7, rfl⟩ := opt_ok h2
      cases h7
      exact q H1 J1 F1 s1 tr1, rfl⟩
theorem ie_or {f g : M T} {rest : List Expr} (ha : IE X pn a f) (hn : notIf a = true) (hb : IE X pn (.BoolOp .Or (b :: rest) pos) g) : IE X pn (.BoolOp .Or (a :: b :: rest) pos) (gOr f g) :=
  ⟨pe_or' ha.pe hb.pe, fun _ => PT.weak (pw_or (ha.pt hn) (pw_of (hb.pt rfl))).pt fun σ H Q q => by
    obtain ⟨e, J, F, s, t, e', h, q⟩ := q
    obtain ⟨x, e1, h1, h2⟩ := bnd_ok h
    obtain ⟨y, e2, h3, h4⟩ := bnd_ok h1
    obtain ⟨k, e3, h5, h6⟩ := bnd_ok h4
    refine ⟨e, J, F, s, k, e3, by unfold tst bnd; rw [h3]; exact h5, fun H1 J1 F1 s1 tr1 => ?_⟩
    cases k with
    | false =>
      rw [if_neg Bool.false_ne_true] at h6 ⊢
      exact ⟨e3, J1, F1, s1, t, e', by unfold tst bnd; rw [h6]; exact h2, fun H' J' F' s' tr' => q H' J' F' s' (tr1.trans tr')⟩
    | true =>
      rw [if_pos rfl] at h6 ⊢
      cases h6
      obtain ⟨h7, rfl⟩ := opt_ok h2
      cases h7
      exact q H1 J1 F1 s1 tr1, rfl⟩
theorem ie_not {f : M T} (ha : IE X pn a f) (hn : notIf a = true) : IE X pn (.UnaryOp .Not a pos) (gNot f) :=
  ⟨pe_not' ha.pe, fun _ => PT.weak (pt_not (ha.pt hn)) fun σ H Q q => by
    obtain ⟨e, J, F, s, t, e', h, q⟩ := q
    obtain ⟨x, e1, h1, h2⟩ := bnd_ok h
    obtain ⟨y, e2, h3, h4⟩ := bnd_ok h1
    obtain ⟨k, e3, h5, h6⟩ := bnd_ok h4
    cases h6
    obtain ⟨h7, rfl⟩ := opt_ok h2
    cases h7
    exact ⟨e, J, F, s, k, _, by unfold tst bnd; rw [h3]; exact h5, fun H1 J1 F1 s1 tr1 => q H1 J1 F1 s1 tr1⟩, rfl⟩
end
end IL

namespace IL
open PySem PySem.Spec PyProof.Rows L2

/-! ### argument lists, displays -/
def consM (f : M T) (g : M (List T)) : M (List T) := bnd f fun t => bnd g fun ts => ret (t :: ts)
def most : Nat := 100000
theorem most_le {n : Nat} (h : n ≤ most) : n ≤ sizeLine := Nat.le_trans h (by decide)
theorem most_lt {n : Nat} (h : n ≤ most) : n < sizeLine := Nat.lt_of_le_of_lt h (by decide)
section
variable {X : Cx} {pn : List (Nat × V)} {a b c : Expr} {pos : Pos} {es : List Expr}
theorem star_of {e : Expr} (h : nstar e = true) (es : List Expr) (env : PySem.Env) : starEach (e :: es) env = (false, eval e env) :: starEach es env := by
  cases e <;> first | rfl | cases h
theorem pa_nil' : PA X [] (rdEs X.K pn (ret [])) := PA.weak pa_nil fun σ H Q ⟨e, J, F, s, t, e', h, q⟩ => by
  cases h
  exact q [] H J F [] s ⟨.nil, by simpa using s.nd, fun _ z => nomatch z⟩ (by simpa using Tr.refl)
theorem pa_cons' {f : M T} {g : M (List T)} (ha : PE X a (rdE X.K pn f)) (hn : nstar a = true) (hb : PA X es (rdEs X.K pn g)) : PA X (a :: es) (rdEs X.K pn (consM f g)) :=
  PA.weak (pa_cons ha hb (star_of hn es X.env)) fun σ H Q ⟨e, J, F, s, t, e', h, q⟩ => by
    obtain ⟨x, e1, h1, h2⟩ := bnd_ok h
    obtain ⟨xs, e2, h3, h4⟩ := bnd_ok h2
    cases h4
    refine ⟨e, J, F, s, x, e1, h1, fun v H1 J1 F1 fp1 s1 o1 tr1 => ?_⟩
    refine ⟨e1, J1, F1, s1, xs, _, h3, fun vs H2 J2 F2 fp2 s2 o2 tr2 => ?_⟩
    have o1' := o1.step (F' := F2) ⟨tr2.keep, tr2.dom, tr2.jj, fun b hb => tr2.fnew b (List.mem_append_left _ hb), tr2.jnew, tr2.tups⟩ s1.jf s2.nd
    have hsep : ∀ b ∈ fp1, b ∉ fp2 := fun b h1 h2 => by
      rcases tr2.fnew b (List.mem_append_right _ h2) with z | z
      · exact not_both o1.nd h1 z
      · exact RT.dom o1.rt b h1 z
    refine q (v :: vs) H2 J2 F2 (fp1 ++ fp2) s2 ⟨.cons o1'.rt o2.rt, ?_, fun b hb => ?_⟩ ?_
    · have n1 := o1'.nd
      have n2 := o2.nd
      rw [List.nodup_append] at n1 n2 ⊢
      refine ⟨n2.1, List.nodup_append.mpr ⟨n1.2.1, n2.2.1, fun x hx y hy z => hsep x hx (z ▸ hy)⟩, fun x hx y hy z => ?_⟩
      rcases List.mem_append.mp hy with hy | hy
      · exact n1.2.2 x hx y hy z
      · exact n2.2.2 x hx y hy z
    · rcases List.mem_append.mp hb with hb | hb
      · exact o1'.jf b hb
      · exact o2.jf b hb
    · refine ⟨fun b o hb hF => tr2.keep b o (tr1.keep b o hb hF) fun z => ?_, fun b z => tr2.dom b (tr1.dom b z), fun b z => tr2.jj b (tr1.jj b z), fun b z => ?_, fun b z => ?_, fun b xs z => tr2.tups b xs (tr1.tups b xs z)⟩
      · rcases tr1.fnew b (List.mem_append_left _ z) with z | z
        · exact hF z
        · rw [hb] at z; cases z
      · have go : b ∈ F2 ∨ b ∈ fp2 → b ∈ F ∨ H b = none := fun z => by
          rcases tr2.fnew b (List.mem_append.mpr z) with z | z
          · exact tr1.fnew b (List.mem_append_left _ z)
          · right
            cases q' : H b with
            | none => rfl
            | some o => exact absurd z (tr1.dom b (by rw [q']; exact fun z => nomatch z))
        rcases List.mem_append.mp z with z | z
        · exact go (.inl z)
        · rcases List.mem_append.mp z with z | z
          · exact tr1.fnew b (List.mem_append_right _ z)
          · exact go (.inr z)
      · rcases tr2.jnew b z with z | z | z
        · exact tr1.jnew b z
        · exact .inr (tr1.fnew b (List.mem_append_left _ z))
        · right; right
          cases q' : H b with
          | none => rfl
          | some o => exact absurd z (tr1.dom b (by rw [q']; exact fun z => nomatch z))
/-- arguments given up -/
theorem SR.gives {K : PySem.W.Frag} {σ : L2.St} {H : Hp} {e : En} {J : Addr → Prop} {F : List Addr} (s : SR K pn σ H e J F) {vs : List V} {ts : List T} {fp : List Addr} (o : Owns K J H F vs ts fp) :
    SR K pn σ H e (fun b => J b ∨ b ∈ fp) F ∧ RDs K (fun b => J b ∨ b ∈ fp) H vs (frzs ts) ∧ Tr J H (F ++ fp) (fun b => J b ∨ b ∈ fp) H F := by
  refine ⟨s.step (fun _ j => .inl j) (fun _ _ _ q => q) (fun a z => ?_) (fun a ha z => ?_), o.rt.frz (fun _ j => .inl j) fun _ h => .inr h, ⟨fun _ _ q _ => q, fun _ q => q, fun _ j => .inl j, fun b hb => .inl (List.mem_append_left _ hb), fun b z => ?_, fun _ _ q => q⟩⟩
  · rcases z with z | z
    · exact s.jd a z
    · exact RTs.dom o.rt a z
  · rcases z with z | z
    · exact s.jf a ha z
    · exact not_both o.nd z ha
  · rcases z with z | z
    · exact .inl z
    · exact .inr (.inl (List.mem_append_right _ z))
theorem pa_fzs {f : M (List T)} (h : PA X es (rdEs X.K pn f)) : PA X es (rdDs X.K pn (fzs f)) := PA.weak h fun σ H Q ⟨e, J, F, s, t, e', h, q⟩ => by
  obtain ⟨d, e1, h1, h2⟩ := bnd_ok h
  cases h2
  refine ⟨e, J, F, s, d, e', h1, fun v H' J' F' fp s' o tr => ?_⟩
  obtain ⟨g1, g2, g3⟩ := s'.gives o
  exact q v H' _ F' g1 g2 (tr.trans g3)
/-- a new node over own trees -/
theorem SR.node {K : PySem.W.Frag} {σ : L2.St} {H : Hp} {e : En} {J : Addr → Prop} {F : List Addr} (s : SR K pn σ H e J F) {vs : List V} {ts : List T} {fp : List Addr} (o : Owns K J H F vs ts fp) {p : Addr} (hp : H p = none) (u : HO) :
    SR K pn σ (upd H p u) e J F ∧ RTs K J (upd H p u) vs ts fp ∧ (F ++ (p :: fp)).Nodup ∧ (∀ a ∈ p :: fp, ¬ J a) ∧ Tr J H (F ++ fp) J (upd H p u) (F ++ (p :: fp)) := by
  obtain ⟨s1, tr, nF, nJ⟩ := s.laid (o := u) hp
  have hpf : p ∉ fp := fun z => RTs.dom o.rt p z hp
  have keep : ∀ b w, H b = some w → upd H p u b = some w := fun b w e => by rw [upd_ne (ne_of_none e hp)]; exact e
  refine ⟨s1, o.rt.mono (fun _ j => j) (fun b w _ q => keep b w q) (fun b w _ q => keep b w q), ?_, fun a ha => ?_, ⟨fun b w q _ => keep b w q, tr.dom, fun _ j => j, fun b hb => ?_, fun b z => .inl z, fun b xs q => keep b _ q⟩⟩
  · have nd := o.nd
    rw [List.nodup_append] at nd ⊢
    refine ⟨nd.1, List.nodup_cons.mpr ⟨hpf, nd.2.1⟩, fun x hx y hy z => ?_⟩
    rcases List.mem_cons.mp hy with rfl | hy
    · exact nF (z ▸ hx)
    · exact nd.2.2 x hx y hy z
  · rcases List.mem_cons.mp ha with rfl | ha
    · exact nJ
    · exact o.jf a ha
  · rcases List.mem_append.mp hb with z | z
    · exact .inl (List.mem_append_left _ z)
    · rcases List.mem_cons.mp z with rfl | z
      · exact .inr hp
      · exact .inl (List.mem_append_right _ z)
def leaves : List T → Option (List D)
  | [] => some []
  | .leaf d :: r => match leaves r with
    | some ds => some (d :: ds)
    | none => none
  | _ :: _ => none
theorem leaves_some {K : PySem.W.Frag} {J : Addr → Prop} {H : Hp} : ∀ {ts : List T} {vs : List V} {fp : List Addr} {ds : List D}, leaves ts = some ds → RTs K J H vs ts fp → RDs K J H vs ds ∧ fp = []
  | [], _, _, _, h, .nil => by cases h; exact ⟨.nil, rfl⟩
  | t :: ts, _, _, _, h, .cons r q => by
    cases t with
    | leaf d =>
      unfold leaves at h
      split at h
      · rename_i ds' h'
        cases h
        obtain ⟨h1, rfl⟩ := leaves_some h' q
        cases r with
        | leaf r => exact ⟨.cons r h1, rfl⟩
      · cases h
    | lst _ => cases h
    | tup _ => cases h
    | dct _ => cases h
    | obj _ _ => cases h
def mkTup (ts : List T) : T := match leaves ts with
  | some ds => .leaf (.tuple ds)
  | none => .tup ts
def gTup (f : M (List T)) : M T := bnd f fun ts => if ts.length ≤ most then ret (mkTup ts) else bad
def gLst (f : M (List T)) : M T := bnd f fun ts => if ts.length ≤ most then ret (.lst ts) else bad
theorem ie_tup {f : M (List T)} {k : Nat} (h : PA X es (rdEs X.K pn f)) : IE X pn (.Tuple es k pos) (gTup f) := ie_mk (PE.weak (pe_tup h) fun σ H Q ⟨e, J, F, s, t, e', h, q⟩ => by
  obtain ⟨ts, e1, h1, h2⟩ := bnd_ok h
  by_cases hm : ts.length ≤ most
  · rw [if_pos hm] at h2
    cases h2
    refine ⟨e, J, F, s, ts, _, h1, fun vs H1 J1 F1 fp s1 o1 tr1 => ⟨by rw [o1.rt.length]; exact most_le hm, fun p hp => ?_⟩⟩
    cases hl : leaves ts with
    | some ds =>
      obtain ⟨r, rfl⟩ := leaves_some hl o1.rt
      simp only [mkTup, hl] at q
      have n := New.tuple (p := p) r s1.jd hp
      obtain ⟨s2, o2, tr2⟩ := n.sr s1
      simp only [List.append_nil] at tr1
      exact q _ _ _ F1 [] s2 o2 (tr1.trans tr2)
    | none =>
      simp only [mkTup, hl] at q
      obtain ⟨s2, r2, nd2, jf2, tr2⟩ := s1.node o1 hp (.tup vs)
      exact q _ _ J1 F1 (p :: fp) s2 ⟨.tup upd_same r2, nd2, jf2⟩ (tr1.trans tr2)
  · rw [if_neg hm] at h2
    cases h2)
theorem ie_lst {f : M (List T)} (h : PA X es (rdEs X.K pn f)) : IE X pn (.List es pos) (gLst f) := ie_mk (PE.weak (pe_lst h) fun σ H Q ⟨e, J, F, s, t, e', h, q⟩ => by
  obtain ⟨ts, e1, h1, h2⟩ := bnd_ok h
  by_cases hm : ts.length ≤ most
  · rw [if_pos hm] at h2
    cases h2
    refine ⟨e, J, F, s, ts, _, h1, fun vs H1 J1 F1 fp s1 o1 tr1 => ⟨by rw [o1.rt.length]; exact most_le hm, fun p hp => ?_⟩⟩
    obtain ⟨s2, r2, nd2, jf2, tr2⟩ := s1.node o1 hp (.lst vs)
    exact q _ _ J1 F1 (p :: fp) s2 ⟨.lst upd_same r2, nd2, jf2⟩ (tr1.trans tr2)
  · rw [if_neg hm] at h2
    cases h2)

/-! ### subscripts -/
theorem plain_of {e : Expr} (h : (match e with | .Slice .. => false | _ => true) = true) : PlainIx e := by
  intro o i
  cases e <;> first | rfl | cases h
def isPlain : Expr → Bool
  | .Slice .. => false
  | _ => true
theorem plain_of' {e : Expr} (h : isPlain e = true) : PlainIx e := by
  intro o i
  cases e <;> first | rfl | cases h
def strAt (z : Str) (i : Int) : Option D := if z.length ≤ most then (atI z.cps.toList i).map fun c => .str ⟨#[c]⟩ else none
def ixD : D → D → Option D
  | .list ds, .int i => atI ds i
  | .tuple ds, .int i => atI ds i
  | .str z, .int i => strAt z i
  | _, _ => none
theorem RDs.atI {K : PySem.W.Frag} {J : Addr → Prop} {H : Hp} {vs : List V} {ds : List D} {i : Int} {d : D} (r : RDs K J H vs ds) (h : L2.atI ds i = some d) : ∃ v, L2.atI vs i = some v ∧ RD K J H v d := by
  unfold L2.atI at h ⊢
  rw [r.length]
  cases hx : ixN ds.length i with
  | none => rw [hx] at h; cases h
  | some j =>
    rw [hx] at h
    obtain ⟨v, h1, h2⟩ := r.get (i := j) h
    exact ⟨v, h1, h2⟩
theorem IxR.or {r r' : R2} (h : IxR X r) (h' : IxR X r') : IxR X (fun x y H Q => r x y H Q ∨ r' x y H Q) := by
  intro va sl pins s σ H x y v u Q I rx ry q hs
  rcases q with q | q
  · exact h va sl pins s σ H x y v u Q I rx ry q hs
  · exact h' va sl pins s σ H x y v u Q I rx ry q hs
abbrev rIxAll (K : PySem.W.Frag) : R2 := fun x y H Q => rIxL K x y H Q ∨ (rIxT K x y H Q ∨ rIxS x y H Q)
theorem ix_all : IxR X (rIxAll X.K) := IxR.or ix_list (IxR.or ix_tup ix_str)
theorem ixD_rule {K : PySem.W.Frag} {x y d : D} (h : ixD x y = some d) {J : Addr → Prop} {H : Hp} {v u : V} (rx : RD K J H v x) (ry : RD K J H u y) {Q : VK} (q : ∀ w, RD K J H w d → Q w H) : rIxAll K v u H Q := by
  unfold ixD at h
  split at h
  · cases ry
    cases rx with
    | lst j p r =>
      obtain ⟨w, h1, h2⟩ := r.atI h
      exact .inl ⟨_, _, _, w, rfl, rfl, .inl (.inl p), h1, q w h2⟩
  · cases ry
    cases rx with
    | tup p r =>
      obtain ⟨w, h1, h2⟩ := r.atI h
      exact .inr (.inl ⟨_, _, _, w, rfl, rfl, p.sq, h1, q w h2⟩)
  · cases ry
    cases rx
    rename_i z i
    unfold strAt at h
    split at h
    · rename_i hz
      cases ha : L2.atI z.cps.toList i with
      | none => rw [ha] at h; cases h
      | some c =>
        rw [ha] at h
        cases h
        exact .inr (.inr ⟨_, _, c, rfl, rfl, most_le hz, ha, q _ (.str _)⟩)
    · cases h
  · cases h
def gIx (fa fb : M D) : M D := bnd fa fun x => bnd fb fun y => opt (ixD x y)
theorem ie_ix {fa fb : M D} (ha : PE X a (rdD X.K pn fa)) (hb : PE X b (rdD X.K pn fb)) (hs : isPlain b = true) : IE X pn (.Subscript a b pos) (lf (gIx fa fb)) :=
  ie_mk (pe_lf (PE.weak (pe_ix ix_all ha hb (plain_of' hs)) fun σ H Q ⟨e, J, F, s, t, e', h, q⟩ => by
    obtain ⟨x, e1, h1, h2⟩ := bnd_ok h
    obtain ⟨y, e2, h3, h4⟩ := bnd_ok h2
    obtain ⟨h5, rfl⟩ := opt_ok h4
    refine ⟨e, J, F, s, x, e1, h1, fun v H1 J1 F1 s1 r1 tr1 => ?_⟩
    refine ⟨e1, J1, F1, s1, y, _, h3, fun u H2 J2 F2 s2 r2 tr2 => ?_⟩
    exact ixD_rule h5 (r1.step tr2 s1.jf) r2 fun w rw => q w H2 J2 F2 s2 rw (tr1.trans tr2)))
/-- an item of an own list at a name: the item is data -/
def tIx : T → D → Option D
  | .leaf x, y => ixD x y
  | .lst ts, .int i => match atI ts i with
    | some (.leaf d) => some d
    | _ => none
  | .tup ts, .int i => match atI ts i with
    | some (.leaf d) => some d
    | _ => none
  | _, _ => none
def held (i : Nat) : M Unit := fun e => match e[i]? with
  | some (some _) => .ok () e
  | _ => .bad
def peek {α : Type} (i : Nat) (g : T → Option α) : M α := fun e => match e[i]? with
  | some (some t) => opt (g t) e
  | _ => .bad
theorem held_ok {i : Nat} {e e2 : En} {u : Unit} (h : held i e = .ok u e2) : e2 = e ∧ ∃ t, e[i]? = some (some t) := by
  unfold held at h
  split at h
  · cases h; exact ⟨rfl, _, by assumption⟩
  · cases h
theorem peek_ok {α : Type} {i : Nat} {g : T → Option α} {e e2 : En} {u : α} (h : peek i g e = .ok u e2) : e2 = e ∧ ∃ t, e[i]? = some (some t) ∧ g t = some u := by
  unfold peek at h
  split at h
  · obtain ⟨h1, rfl⟩ := opt_ok h; exact ⟨rfl, _, by assumption, h1⟩
  · cases h
theorem SR.at {K : PySem.W.Frag} {σ : L2.St} {H : Hp} {e : En} {J : Addr → Prop} {F : List Addr} (s : SR K pn σ H e J F) {i : Nat} {t : T} (h : e[i]? = some (some t)) : ∃ v fp, σ[i]? = some (some v) ∧ RT K J H v t fp := by
  obtain ⟨v, fp, F', h1, o, _, _⟩ := s.take h
  exact ⟨v, fp, h1, o.rt⟩
def gVix (i : Nat) (fb : M D) : M D := bnd (held i) fun _ => bnd fb fun y => peek i fun t => tIx t y
theorem RTs.atI {K : PySem.W.Frag} {J : Addr → Prop} {H : Hp} {vs : List V} {ts : List T} {fp : List Addr} {i : Int} {t : T} (r : RTs K J H vs ts fp) (h : L2.atI ts i = some t) : ∃ v g, L2.atI vs i = some v ∧ RT K J H v t g ∧ ∀ b ∈ g, b ∈ fp := by
  unfold L2.atI at h ⊢
  rw [r.length]
  cases hx : ixN ts.length i with
  | none => rw [hx] at h; cases h
  | some j =>
    rw [hx] at h
    obtain ⟨v, g, h1, h2, h3⟩ := r.get (i := j) h
    exact ⟨v, g, h1, h2, h3⟩
theorem tIx_rule {K : PySem.W.Frag} {t : T} {y d : D} (h : tIx t y = some d) {J : Addr → Prop} {H : Hp} {v u : V} {fp : List Addr} (rx : RT K J H v t fp) (ry : RD K J H u y) {Q : VK} (q : ∀ w, RD K J H w d → Q w H) : rIxAll K v u H Q := by
  unfold tIx at h
  split at h
  · cases rx with
    | leaf r => exact ixD_rule h r ry q
  · split at h
    · rename_i d' h'
      cases h
      cases ry
      cases rx with
      | lst p r =>
        obtain ⟨w, g, h1, h2, _⟩ := r.atI h'
        cases h2 with
        | leaf h2 => exact .inl ⟨_, _, _, w, rfl, rfl, .inl (.inl p), h1, q w h2⟩
    · cases h
  · split at h
    · rename_i d' h'
      cases h
      cases ry
      cases rx with
      | tup p r =>
        obtain ⟨w, g, h1, h2, _⟩ := r.atI h'
        cases h2 with
        | leaf h2 => exact .inr (.inl ⟨_, _, _, w, rfl, rfl, .inl (.inl p), h1, q w h2⟩)
    · cases h
  · cases h
theorem ie_vix {i : Nat} {fb : M D} (ha : PE X a (tVar i)) (hb : PE X b (rdD X.K pn fb)) (hs : isPlain b = true) : IE X pn (.Subscript a b pos) (lf (gVix i fb)) :=
  ie_mk (pe_lf (PE.weak (pe_ix ix_all ha hb (plain_of' hs)) fun σ H Q ⟨e, J, F, s, t, e', h, q⟩ => by
    obtain ⟨_, e0, h1, h2⟩ := bnd_ok h
    obtain ⟨rfl, t0, h0⟩ := held_ok h1
    obtain ⟨y, e1, h3, h4⟩ := bnd_ok h2
    obtain ⟨rfl, x, hx, h5⟩ := peek_ok h4
    obtain ⟨v, fp0, hv, _⟩ := s.at h0
    refine ⟨v, hv, _, J, F, s, y, _, h3, fun u H2 J2 F2 s2 r2 tr2 => ?_⟩
    obtain ⟨v', fp, hv', rt⟩ := s2.at hx
    rw [hv] at hv'
    cases hv'
    exact tIx_rule h5 rt r2 fun w rw => q w H2 J2 F2 s2 rw tr2))

/-! ### slices -/
def cutD (xs : List D) (lo hi : Option Int) : List D := (xs.drop (HT.sIx xs.length 0 lo)).take (HT.sIx xs.length xs.length hi - HT.sIx xs.length 0 lo)
theorem RDs.cut {K : PySem.W.Frag} {J : Addr → Prop} {H : Hp} {vs : List V} {ds : List D} (r : RDs K J H vs ds) (lo hi : Option Int) : RDs K J H (cutV vs lo hi) (cutD ds lo hi) := by
  unfold cutV cutD
  rw [r.length]
  exact (r.drop _).take _
def slD (x : D) (lo hi : Option Int) : Option T := match x with
  | .list ds => some (.lst ((cutD ds lo hi).map .leaf))
  | .tuple ds => some (.leaf (.tuple (cutD ds lo hi)))
  | .str z => if z.length ≤ most then some (.leaf (.str (cutS z lo hi))) else none
  | _ => none
abbrev rSlAll (K : PySem.W.Frag) : V → Option Int → Option Int → Hp → VK → Prop := fun x lo hi H Q => rSlL K x lo hi H Q ∨ (rSlA K x lo hi H Q ∨ rSlS x lo hi H Q)
theorem sl_all : SlR X (rSlAll X.K) := SlR.or sl_list (SlR.or sl_tupA sl_str)
theorem cut_whole (ds : List D) (lo hi : Option Int) (h : HT.sIx ds.length 0 lo = 0 ∧ HT.sIx ds.length ds.length hi = ds.length) : cutD ds lo hi = ds := by
  unfold cutD
  rw [h.1, h.2]
  simp
theorem slD_rule {K : PySem.W.Frag} {x : D} {t : T} {lo hi : Option Int} (h : slD x lo hi = some t) {J : Addr → Prop} {H : Hp} {v : V} (jd : ∀ b, J b → H b ≠ none) (rx : RD K J H v x) {Q : VK} (q : ∀ w H' J' fp, New K J H J' H' w t fp → Q w H') : rSlAll K v lo hi H Q := by
  unfold slD at h
  split at h
  · cases h
    cases rx with
    | lst j p r => exact .inl ⟨_, _, rfl, .inl (.inl p), fun a ha => q _ _ _ _ (New.list (r.cut lo hi) jd ha)⟩
  · cases h
    cases rx with
    | tup p r =>
      refine .inr (.inl ⟨_, _, rfl, p.sq, fun hw => ?_, fun hw a ha => q _ _ _ _ (New.tuple (r.cut lo hi) jd ha)⟩)
      rw [r.length] at hw
      rw [cut_whole _ lo hi hw] at q
      exact q _ _ _ _ (New.same (.tup p r) jd)
  · cases rx
    split at h
    · rename_i hz
      cases h
      exact .inr (.inr ⟨_, rfl, most_le hz, q _ _ _ _ (New.same (.str _) jd)⟩)
    · cases h
  · cases h
/-- a slice's end: left out, or an int -/
def rdO (K : PySem.W.Frag) (pn : List (Nat × V)) (f : M (Option Int)) : TO := fun σ H Q => ∃ e J F, SR K pn σ H e J F ∧ ∃ t e', f e = .ok t e' ∧ ∀ H' J' F', SR K pn σ H' e' J' F' → Tr J H F J' H' F' → Q t H'
theorem PO.weak {e : Option Expr} {t t' : TO} (h : PO X e t) (w : ∀ (σ : L2.St) (H : Hp) (Q : Option Int → Hp → Prop), t' σ H Q → t σ H Q) : PO X e t' := ⟨fun pins s σ H Q I q => h.run pins s σ H Q I (w σ H Q q)⟩
def asI (d : D) : Option Int := match d with
  | .int i => some i
  | _ => none
theorem asI_some {d : D} {i : Int} (h : asI d = some i) : d = .int i := by
  unfold asI at h
  split at h
  · cases h; rfl
  · cases h
theorem RD.int_inv {K : PySem.W.Frag} {J : Addr → Prop} {H : Hp} {v : V} {i : Int} (r : RD K J H v (.int i)) : v = .int i := by cases r; rfl
def gPart (f : M D) : M (Option Int) := bnd f fun d => bnd (opt (asI d)) fun i => ret (some i)
theorem po_none' : PO X none (rdO X.K pn (ret none)) := PO.weak po_none fun σ H Q ⟨e, J, F, s, t, e', h, q⟩ => by
  cases h
  exact q H J F s .refl
theorem po_some' {f : M D} (ha : PE X a (rdD X.K pn f)) : PO X (some a) (rdO X.K pn (gPart f)) := PO.weak (po_some ha) fun σ H Q ⟨e, J, F, s, t, e', h, q⟩ => by
  obtain ⟨x, e1, h1, h2⟩ := bnd_ok h
  obtain ⟨i, e2, h3, h4⟩ := bnd_ok h2
  obtain ⟨h5, rfl⟩ := opt_ok h3
  have := asI_some h5
  subst this
  cases h4
  exact ⟨e, J, F, s, _, _, h1, fun v H1 J1 F1 s1 r1 tr1 => ⟨i, r1.int_inv, q H1 J1 F1 s1 tr1⟩⟩
def gSl (fa : M D) (lo hi : M (Option Int)) : M T := bnd fa fun x => bnd lo fun l => bnd hi fun h => opt (slD x l h)
theorem ie_sl {fa : M D} {lo hi : Option Expr} {fl fh : M (Option Int)} {p2 : Pos} (ha : PE X a (rdD X.K pn fa)) (hl : PO X lo (rdO X.K pn fl)) (hh : PO X hi (rdO X.K pn fh)) : IE X pn (.Subscript a (.Slice lo hi none p2) pos) (gSl fa fl fh) :=
  ie_mk (PE.weak (pe_slice sl_all ha hl hh) fun σ H Q ⟨e, J, F, s, t, e', h, q⟩ => by
    obtain ⟨x, e1, h1, h2⟩ := bnd_ok h
    obtain ⟨l, e2, h3, h4⟩ := bnd_ok h2
    obtain ⟨u, e3, h5, h6⟩ := bnd_ok h4
    obtain ⟨h7, rfl⟩ := opt_ok h6
    refine ⟨e, J, F, s, x, e1, h1, fun v H1 J1 F1 s1 r1 tr1 => ?_⟩
    refine ⟨e1, J1, F1, s1, l, e2, h3, fun H2 J2 F2 s2 tr2 => ?_⟩
    refine ⟨e2, J2, F2, s2, u, _, h5, fun H3 J3 F3 s3 tr3 => ?_⟩
    refine slD_rule h7 s3.jd ((r1.step tr2 s1.jf).step tr3 s2.jf) fun w H' J' fp n => ?_
    obtain ⟨s4, o4, tr4⟩ := n.sr s3
    exact q w H' J' F3 fp s4 o4 (((tr1.trans tr2).trans tr3).trans tr4))
end
end IL

namespace IL
open PySem PySem.Spec PyProof.Rows L2

/-! ### operators by values -/
def int2 (c : Int → Int → Bool) (g : Int → Int → D) : D → D → Option T
  | .int i, .int j => if c i j then some (.leaf (g i j)) else none
  | _, _ => none
section
variable {X : Cx}
theorem OpS.mk {f : Value → Value → Sem Value} {r : R2} {g : D → D → Option T} (ho : OpR X f r)
    (h : ∀ x y t, g x y = some t → ∀ (J : Addr → Prop) (H : Hp) (v u : V), (∀ b, J b → H b ≠ none) → RD X.K J H v x → RD X.K J H u y → ∀ Q : VK, (∀ w H' J' fp, New X.K J H J' H' w t fp → Q w H') → r v u H Q) : OpS X f g := ⟨r, ho, h⟩
theorem OpS.int {f : Value → Value → Sem Value} {C : Int → Int → Prop} {g : Int → Int → Int} (ho : OpR X f (rI C fun i j => .int (g i j))) {c : Int → Int → Bool} (hc : ∀ i j, c i j = true → C i j) : OpS X f (int2 c fun i j => .int (g i j)) := by
  refine .mk ho fun x y t h J H v u jd rx ry Q q => ?_
  unfold int2 at h
  split at h
  · split at h
    · rename_i i j hcc
      cases h
      cases rx; cases ry
      exact ⟨i, j, rfl, rfl, hc i j hcc, q _ _ _ _ (New.same (.int _) jd)⟩
    · cases h
  · cases h
theorem OpS.int0 {f : Value → Value → Sem Value} {g : Int → Int → Int} (ho : OpR X f (rI0 fun i j => .int (g i j))) : OpS X f (int2 (fun _ _ => true) fun i j => .int (g i j)) := by
  refine .mk ho fun x y t h J H v u jd rx ry Q q => ?_
  unfold int2 at h
  split at h
  · rename_i i j
    cases h
    cases rx; cases ry
    exact ⟨i, j, rfl, rfl, q _ _ _ _ (New.same (.int _) jd)⟩
  · cases h
theorem OpS.cmp0 {f : Value → Value → Sem Value} {g : Int → Int → Bool} (ho : OpR X f (rI0 fun i j => .bl (g i j))) : OpS X f (int2 (fun _ _ => true) fun i j => .bool (g i j)) := by
  refine .mk ho fun x y t h J H v u jd rx ry Q q => ?_
  unfold int2 at h
  split at h
  · rename_i i j
    cases h
    cases rx; cases ry
    exact ⟨i, j, rfl, rfl, q _ _ _ _ (New.same (.bl _) jd)⟩
  · cases h
def strCat : D → D → Option T
  | .str a, .str b => if a.length + b.length ≤ most then some (.leaf (.str (a ++ b))) else none
  | _, _ => none
def tupCat : D → D → Option T
  | .tuple a, .tuple b => if a.length + b.length ≤ most then some (.leaf (.tuple (a ++ b))) else none
  | _, _ => none
def lstCat : D → D → Option T
  | .list a, .list b => if a.length + b.length ≤ most then some (.lst ((a ++ b).map .leaf)) else none
  | _, _ => none
theorem os_strCat : OpS X (binaryOp .Add) strCat := by
  refine .mk op_add_str fun x y t h J H v u jd rx ry Q q => ?_
  unfold strCat at h
  split at h
  · split at h
    · rename_i hz
      cases h
      cases rx; cases ry
      exact ⟨_, _, rfl, rfl, most_le hz, q _ _ _ _ (New.same (.str _) jd)⟩
    · cases h
  · cases h
theorem os_lstCat : OpS X (binaryOp .Add) lstCat := by
  refine .mk op_cat fun x y t h J H v u jd rx ry Q q => ?_
  unfold lstCat at h
  split at h
  · split at h
    · rename_i hz
      cases h
      cases rx with
      | lst j p r => cases ry with
        | lst j' p' r' => exact ⟨_, _, _, _, rfl, rfl, p, p', by rw [r.length, r'.length]; exact most_le hz, fun a ha => q _ _ _ _ (New.list (r.append r') jd ha)⟩
    · cases h
  · cases h
theorem os_tupCat : OpS X (binaryOp .Add) tupCat := by
  refine .mk op_catA fun x y t h J H v u jd rx ry Q q => ?_
  unfold tupCat at h
  split at h
  · split at h
    · rename_i a b hz
      cases h
      cases rx with
      | tup p r => cases ry with
        | tup p' r' =>
          refine ⟨_, _, _, _, rfl, rfl, p.sq, p'.sq, by rw [r.length, r'.length]; exact most_le hz, fun e => ?_, fun e e' => ?_, fun e e' z hz => q _ _ _ _ (New.tuple (r.append r') jd hz)⟩
          · subst e
            cases r
            exact q _ _ _ _ (New.same (.tup p' r') jd)
          · subst e'
            cases r'
            rw [List.append_nil] at q
            exact q _ _ _ _ (New.same (.tup p r) jd)
    · cases h
  · cases h
def addD (x y : D) : Option T := orr (int2 (fun _ _ => true) (fun i j => .int (i + j)) x y) (orr (strCat x y) (orr (tupCat x y) (lstCat x y)))
theorem os_add : OpS X (binaryOp .Add) addD := .or (.int0 op_add) (.or os_strCat (.or os_tupCat os_lstCat))
def subD : D → D → Option T := int2 (fun _ _ => true) fun i j => .int (i - j)
theorem os_sub : OpS X (binaryOp .Sub) subD := .int0 op_sub
def CMulY (i j : Int) : Prop := i.natAbs.log2 + j.natAbs.log2 < 4000000
theorem CMulY.ok {i j : Int} (h : CMulY i j) : IntMulOk i j := by
  have b : ∀ x : Int, Builtin.Int.intBits x ≤ x.natAbs.log2 + 1 := fun x => by
    unfold Builtin.Int.intBits
    split <;> omega
  have h1 := b i
  have h2 := b j
  have h3 : i.natAbs.log2 + j.natAbs.log2 < 4000000 := h
  have e : bitsLine = 134217728 := by decide
  unfold IntMulOk
  intro z
  rw [Bool.and_eq_true] at z
  have z2 := z.2
  unfold Builtin.Int.intTooBig at z2
  have z3 := of_decide_eq_true z2
  rw [e] at z3
  omega
theorem op_mulY : OpR X (binaryOp .Mult) (rI CMulY fun i j => .int (i * j)) := opI fun _ _ _ _ _ _ _ hc q => mul_int q hc.ok
def mulOk (i j : Int) : Bool := decide (i.natAbs.log2 + j.natAbs.log2 < 4000000)
def tupRep : D → D → Option T
  | .tuple a, .int k => if a ≠ [] ∧ 2 ≤ k ∧ k ≤ 1000 ∧ a.length ≤ 1000 then some (.leaf (.tuple (List.replicate k.toNat a).flatten)) else none
  | _, _ => none
theorem RDs.flat {K : PySem.W.Frag} {J : Addr → Prop} {H : Hp} {vs : List V} {ds : List D} (r : RDs K J H vs ds) : ∀ n, RDs K J H (List.replicate n vs).flatten (List.replicate n ds).flatten
  | 0 => .nil
  | n + 1 => by simp only [List.replicate_succ, List.flatten_cons]; exact r.append (RDs.flat r n)
theorem os_tupRep : OpS X (binaryOp .Mult) tupRep := by
  refine .mk op_repT fun x y t h J H v u jd rx ry Q q => ?_
  unfold tupRep at h
  split at h
  · split at h
    · rename_i a k hz
      cases h
      cases ry
      cases rx with
      | tup p r =>
        refine ⟨_, _, _, rfl, rfl, p.sq, fun e => hz.1 ?_, hz.2.1, hz.2.2.1, by rw [r.length]; exact hz.2.2.2, fun z hz => q _ _ _ _ (New.tuple (r.flat _) jd hz)⟩
        subst e
        cases r
        rfl
    · cases h
  · cases h
def mulD (x y : D) : Option T := orr (int2 mulOk (fun i j => .int (i * j)) x y) (tupRep x y)
theorem os_mul : OpS X (binaryOp .Mult) mulD := .or (.int op_mulY fun i j h => of_decide_eq_true (p := i.natAbs.log2 + j.natAbs.log2 < 4000000) h) os_tupRep
def divOk (_ j : Int) : Bool := decide (j ≠ 0 ∧ j.natAbs.log2 < 9000)
theorem op_fdivX : OpR X (binaryOp .FloorDiv) (rI (fun _ j => j ≠ 0 ∧ j.natAbs.log2 < 9000) fun i j => .int (i.fdiv j)) := opI fun _ _ _ _ _ _ _ hc q => floordiv_int hc.1 q (.inl (PyProof.noPylong_of_log2 hc.2))
def fdvD : D → D → Option T := int2 divOk fun i j => .int (i.fdiv j)
theorem os_fdv : OpS X (binaryOp .FloorDiv) fdvD := .int op_fdivX fun i j h => of_decide_eq_true h
def modD : D → D → Option T := int2 (fun _ j => decide (j ≠ 0)) fun i j => .int (i.fmod j)
theorem os_mod : OpS X (binaryOp .Mod) modD := .int op_modN fun i j h => of_decide_eq_true h
def powOk (i j : Int) : Bool := decide (0 ≤ j ∧ j ≤ 1000000 ∧ i.natAbs < 2 ^ 64)
def powD : D → D → Option T := int2 powOk fun i j => .int (i ^ j.toNat)
theorem os_pow : OpS X (binaryOp .Pow) powD := .int op_pow fun i j h => of_decide_eq_true (p := 0 ≤ j ∧ j ≤ 1000000 ∧ i.natAbs < 2 ^ 64) h

/-! ### comparisons -/
def scalEq : D → D → Option Bool
  | .none, .none => some true
  | .int i, .int j => some (i == j)
  | .bool a, .bool b => some (a == b)
  | .str a, .str b => some (a == b)
  | _, _ => none
def eqB (x y : D) : Option Bool := match scalEq x y with
  | some b => some b
  | none => if SeqAt.shaped x && SeqAt.shaped y then some (PyData.eqv x y) else none
def bT : Option Bool → Option T := fun o => o.map fun b => .leaf (.bool b)
def eqD (x y : D) : Option T := bT (eqB x y)
def neD (x y : D) : Option T := bT ((eqB x y).map (!·))
theorem scal_rule {K : PySem.W.Frag} {x y : D} {b : Bool} (h : scalEq x y = some b) {J : Addr → Prop} {H : Hp} {v u : V} (rx : RD K J H v x) (ry : RD K J H u y) : scal v u = true ∧ decide (v = u) = b := by
  unfold scalEq at h
  split at h
  · cases h; cases rx; cases ry; exact ⟨rfl, by simp⟩
  · cases h; cases rx; cases ry; exact ⟨rfl, by simp [Bool.beq_eq_decide_eq]⟩
  · cases h; cases rx; cases ry; exact ⟨rfl, by simp [Bool.beq_eq_decide_eq]⟩
  · cases h; cases rx; cases ry; exact ⟨rfl, by simp [Bool.beq_eq_decide_eq]⟩
  · cases h
theorem OpR.or2 {f : Value → Value → Sem Value} {r r' : R2} (h : OpR X f r) (h' : OpR X f r') : OpR X f (fun x y H Q => r x y H Q ∨ r' x y H Q) := by
  intro pins s σ H x y v u Q I rx ry q
  rcases q with q | q
  · exact h pins s σ H x y v u Q I rx ry q
  · exact h' pins s σ H x y v u Q I rx ry q
theorem os_eq (hu : X.A.units + 64 < cLine) : OpS X (compareOp .Eq) eqD := by
  refine .mk (OpR.or2 op_eq (op_eqD hu)) fun x y t h J H v u jd rx ry Q q => ?_
  unfold eqD bT eqB at h
  cases hs : scalEq x y with
  | some b =>
    simp only [hs, Option.map_some, Option.some.injEq] at h
    subst h
    obtain ⟨h1, h2⟩ := scal_rule hs rx ry
    exact .inl ⟨h1, by rw [h2]; exact q _ _ _ _ (New.same (.bl _) jd)⟩
  | none =>
    simp only [hs] at h
    split at h
    · rename_i hz
      simp only [Option.map_some, Option.some.injEq] at h
      subst h
      simp only [Bool.and_eq_true] at hz
      exact .inr ⟨x, y, rx.dp (SeqAt.canLay_of_shaped hz.1), ry.dp (SeqAt.canLay_of_shaped hz.2), hz.1, hz.2, q _ _ _ _ (New.same (.bl _) jd)⟩
    · cases h
theorem os_ne (hu : X.A.units + 64 < cLine) : OpS X (compareOp .NotEq) neD := by
  refine .mk (OpR.or2 op_ne (op_neD hu)) fun x y t h J H v u jd rx ry Q q => ?_
  unfold neD bT eqB at h
  cases hs : scalEq x y with
  | some b =>
    simp only [hs, Option.map_some, Option.some.injEq] at h
    subst h
    obtain ⟨h1, h2⟩ := scal_rule hs rx ry
    exact .inl ⟨h1, by rw [h2]; exact q _ _ _ _ (New.same (.bl _) jd)⟩
  | none =>
    simp only [hs] at h
    split at h
    · rename_i hz
      simp only [Option.map_some, Option.some.injEq] at h
      subst h
      simp only [Bool.and_eq_true] at hz
      exact .inr ⟨x, y, rx.dp (SeqAt.canLay_of_shaped hz.1), ry.dp (SeqAt.canLay_of_shaped hz.2), hz.1, hz.2, q _ _ _ _ (New.same (.bl _) jd)⟩
    · cases h
def str2 (g : Str → Str → Bool) : D → D → Option T
  | .str a, .str b => some (.leaf (.bool (g a b)))
  | _, _ => none
theorem OpS.str2 {f : Value → Value → Sem Value} {g : Str → Str → Bool} (ho : OpR X f (fun x y H Q => ∃ i j, x = .str i ∧ y = .str j ∧ Q (.bl (g i j)) H)) : OpS X f (IL.str2 g) := by
  refine .mk ho fun x y t h J H v u jd rx ry Q q => ?_
  unfold IL.str2 at h
  split at h
  · cases h
    cases rx; cases ry
    exact ⟨_, _, rfl, rfl, q _ _ _ _ (New.same (.bl _) jd)⟩
  · cases h
def strLt (a b : Str) : Bool := decide (a.cps.toList < b.cps.toList)
def ltD (x y : D) : Option T := orr (int2 (fun _ _ => true) (fun i j => .bool (decide (i < j))) x y) (str2 (fun a b => strLt a b) x y)
def leD (x y : D) : Option T := orr (int2 (fun _ _ => true) (fun i j => .bool (decide (i ≤ j))) x y) (str2 (fun a b => !strLt b a) x y)
def gtD (x y : D) : Option T := orr (int2 (fun _ _ => true) (fun i j => .bool (decide (j < i))) x y) (str2 (fun a b => strLt b a) x y)
def geD (x y : D) : Option T := orr (int2 (fun _ _ => true) (fun i j => .bool (decide (j ≤ i))) x y) (str2 (fun a b => !strLt a b) x y)
theorem os_lt : OpS X (compareOp .Lt) ltD := .or (.cmp0 op_lt) (.str2 op_lt_str)
theorem os_le : OpS X (compareOp .LtE) leD := .or (.cmp0 op_le) (.str2 op_le_str)
theorem os_gt : OpS X (compareOp .Gt) gtD := .or (.cmp0 op_gt) (.str2 op_gt_str)
theorem os_ge : OpS X (compareOp .GtE) geD := .or (.cmp0 op_ge) (.str2 op_ge_str)
/-- a in b -/
def inB (x y : D) : Option Bool := match x, y with
  | .str a, .str z => (match a.cps.toList with
    | [c] => some (decide (c ∈ z.cps.toList))
    | _ => none)
  | d, .list ds => if SeqAt.shaped d && SeqAt.shaped (.list ds) then some (ds.any fun z => PyData.eqv z d) else none
  | _, _ => none
def inD (x y : D) : Option T := bT (inB x y)
def ninD (x y : D) : Option T := bT ((inB x y).map (!·))
theorem str_one {a : Str} {c : Nat} (h : a.cps.toList = [c]) : a = ⟨#[c]⟩ := by
  obtain ⟨cps⟩ := a
  simp only at h
  congr
  have := congrArg List.toArray h
  simpa using this
theorem os_in (hu : X.A.units + 65 < cLine) : OpS X (compareOp .In) inD := by
  refine .mk (OpR.or2 op_in_sign (op_inD hu)) fun x y t h J H v u jd rx ry Q q => ?_
  unfold inD bT inB at h
  split at h
  · split at h
    · rename_i c hc
      simp only [Option.map_some, Option.some.injEq] at h
      subst h
      cases rx; cases ry
      exact .inl ⟨c, _, by rw [str_one hc], rfl, q _ _ _ _ (New.same (.bl _) jd)⟩
    · cases h
  · split at h
    · rename_i hz
      simp only [Option.map_some, Option.some.injEq] at h
      subst h
      simp only [Bool.and_eq_true] at hz
      exact .inr ⟨_, _, rx.dp (SeqAt.canLay_of_shaped hz.1), ry.dp (SeqAt.canLay_of_shaped hz.2), hz.1, hz.2, q _ _ _ _ (New.same (.bl _) jd)⟩
    · cases h
  · cases h
theorem os_notIn (hu : X.A.units + 65 < cLine) : OpS X (compareOp .NotIn) ninD := by
  refine .mk (OpR.or2 op_notIn_sign (op_notInD hu)) fun x y t h J H v u jd rx ry Q q => ?_
  unfold ninD bT inB at h
  split at h
  · split at h
    · rename_i c hc
      simp only [Option.map_some, Option.some.injEq] at h
      subst h
      cases rx; cases ry
      exact .inl ⟨c, _, by rw [str_one hc], rfl, q _ _ _ _ (New.same (.bl _) jd)⟩
    · cases h
  · split at h
    · rename_i hz
      simp only [Option.map_some, Option.some.injEq] at h
      subst h
      simp only [Bool.and_eq_true] at hz
      exact .inr ⟨_, _, rx.dp (SeqAt.canLay_of_shaped hz.1), ry.dp (SeqAt.canLay_of_shaped hz.2), hz.1, hz.2, q _ _ _ _ (New.same (.bl _) jd)⟩
    · cases h
  · cases h
def isNone : D → Bool
  | .none => true
  | _ => false
def isD (x y : D) : Option T := match y with
  | .none => some (.leaf (.bool (isNone x)))
  | .bool b => (match x with
    | .bool a => some (.leaf (.bool (decide (a = b))))
    | _ => none)
  | _ => none
def isntD (x y : D) : Option T := match y with
  | .none => some (.leaf (.bool (!isNone x)))
  | .bool b => (match x with
    | .bool a => some (.leaf (.bool (!decide (a = b))))
    | _ => none)
  | _ => none
theorem isNone_rule {K : PySem.W.Frag} {x : D} {J : Addr → Prop} {H : Hp} {v : V} (rx : RD K J H v x) : decide (v = .non) = isNone x := by
  cases rx <;> rfl
theorem os_is : OpS X (compareOp .Is) isD := by
  refine .mk (OpR.or op_isN op_isBl) fun x y t h J H v u jd rx ry Q q => ?_
  unfold isD at h
  split at h
  · cases h
    cases ry
    exact .inl ⟨rfl, by rw [isNone_rule rx]; exact q _ _ _ _ (New.same (.bl _) jd)⟩
  · split at h
    · cases h
      cases ry
      cases rx
      exact .inr ⟨_, _, rfl, rfl, q _ _ _ _ (New.same (.bl _) jd)⟩
    · cases h
  · cases h
theorem os_isnt : OpS X (compareOp .IsNot) isntD := by
  refine .mk (OpR.or op_notN op_notBl) fun x y t h J H v u jd rx ry Q q => ?_
  unfold isntD at h
  split at h
  · cases h
    cases ry
    exact .inl ⟨rfl, by rw [isNone_rule rx]; exact q _ _ _ _ (New.same (.bl _) jd)⟩
  · split at h
    · cases h
      cases ry
      cases rx
      exact .inr ⟨_, _, rfl, rfl, q _ _ _ _ (New.same (.bl _) jd)⟩
    · cases h
  · cases h

/-! ### built-in functions by values -/
def CallS (X : Cx) (f : Value) (g : List D → Option T) : Prop :=
  ∃ r, CallR X f r ∧ ∀ xs t, g xs = some t → ∀ (J : Addr → Prop) (H : Hp) (vs : List V), (∀ b, J b → H b ≠ none) → RDs X.K J H vs xs → ∀ Q : VK, (∀ w H' J' fp, New X.K J H J' H' w t fp → Q w H') → r vs H Q
theorem CallS.mk {f : Value} {r : List V → Hp → VK → Prop} {g : List D → Option T} (ho : CallR X f r)
    (h : ∀ xs t, g xs = some t → ∀ (J : Addr → Prop) (H : Hp) (vs : List V), (∀ b, J b → H b ≠ none) → RDs X.K J H vs xs → ∀ Q : VK, (∀ w H' J' fp, New X.K J H J' H' w t fp → Q w H') → r vs H Q) : CallS X f g := ⟨r, ho, h⟩
theorem CallS.or {f : Value} {g g' : List D → Option T} (h : CallS X f g) (h' : CallS X f g') : CallS X f (fun xs => orr (g xs) (g' xs)) := by
  obtain ⟨r, h1, h2⟩ := h
  obtain ⟨r', h1', h2'⟩ := h'
  refine ⟨fun xs H Q => r xs H Q ∨ r' xs H Q, CallR.or h1 h1', fun xs t e J H vs jd rx Q q => ?_⟩
  cases e1 : g xs with
  | none =>
    simp only [e1, orr] at e
    exact .inr (h2' xs t e J H vs jd rx Q q)
  | some t' =>
    simp only [e1, orr] at e
    exact .inl (h2 xs t (by rw [e1]; exact e) J H vs jd rx Q q)
theorem RDs.one {K : PySem.W.Frag} {J : Addr → Prop} {H : Hp} {vs : List V} {d : D} (r : RDs K J H vs [d]) : ∃ v, vs = [v] ∧ RD K J H v d := by
  cases r with
  | cons r s => cases s; exact ⟨_, rfl, r⟩
theorem RDs.two {K : PySem.W.Frag} {J : Addr → Prop} {H : Hp} {vs : List V} {d e : D} (r : RDs K J H vs [d, e]) : ∃ v u, vs = [v, u] ∧ RD K J H v d ∧ RD K J H u e := by
  cases r with
  | cons r s =>
    obtain ⟨u, rfl, r2⟩ := s.one
    exact ⟨_, u, rfl, r, r2⟩
def gCall (g : List D → Option T) (f : M (List D)) : M T := bnd f fun xs => opt (g xs)
theorem tCB_rd {pn : List (Nat × V)} {g : List D → Option T} {r : List V → Hp → VK → Prop} (hg : ∀ xs t, g xs = some t → ∀ (J : Addr → Prop) (H : Hp) (vs : List V), (∀ b, J b → H b ≠ none) → RDs X.K J H vs xs → ∀ Q : VK, (∀ w H' J' fp, New X.K J H J' H' w t fp → Q w H') → r vs H Q)
    {f : M (List D)} {σ : L2.St} {H : Hp} {Q : VK} (h : rdE X.K pn (gCall g f) σ H Q) : tCB r (rdDs X.K pn f) σ H Q := by
  obtain ⟨e, J, F, s, t, e', h, q⟩ := h
  obtain ⟨x, e1, h1, h2⟩ := bnd_ok h
  obtain ⟨h3, rfl⟩ := opt_ok h2
  refine ⟨e, J, F, s, x, _, h1, fun v H1 J1 F1 s1 r1 tr1 => ?_⟩
  refine hg x t h3 J1 H1 v s1.jd r1 Q fun w H' J' fp n => ?_
  obtain ⟨s3, o3, tr3⟩ := n.sr s1
  exact q w H' J' F1 fp s3 o3 (tr1.trans tr3)
def lenD : List D → Option T
  | [.list xs] => some (.leaf (.int xs.length))
  | [.tuple xs] => some (.leaf (.int xs.length))
  | [.str z] => if z.length ≤ most then some (.leaf (.int z.length)) else none
  | _ => none
theorem cs_len : CallS X (.builtin "len") lenD := by
  refine .mk (CallR.or call_len_seq call_len_str) fun xs t h J H vs jd rx Q q => ?_
  unfold lenD at h
  split at h
  · cases h
    obtain ⟨v, rfl, r⟩ := rx.one
    cases r with
    | lst j p r => exact .inl ⟨_, _, rfl, .inl (.inl (.inl p)), by rw [r.length]; exact q _ _ _ _ (New.same (.int _) jd)⟩
  · cases h
    obtain ⟨v, rfl, r⟩ := rx.one
    cases r with
    | tup p r => exact .inl ⟨_, _, rfl, .inr p.sq, by rw [r.length]; exact q _ _ _ _ (New.same (.int _) jd)⟩
  · split at h
    · rename_i hz
      cases h
      obtain ⟨v, rfl, r⟩ := rx.one
      cases r
      exact .inr ⟨_, rfl, most_le hz, q _ _ _ _ (New.same (.int _) jd)⟩
    · cases h
  · cases h
def absD : List D → Option T
  | [.int i] => some (.leaf (.int (if i < 0 then -i else i)))
  | _ => none
theorem cs_abs : CallS X (.builtin "abs") absD := by
  refine .mk call_abs fun xs t h J H vs jd rx Q q => ?_
  unfold absD at h
  split at h
  · cases h
    obtain ⟨v, rfl, r⟩ := rx.one
    cases r
    exact ⟨_, rfl, q _ _ _ _ (New.same (.int _) jd)⟩
  · cases h
def listD : List D → Option T
  | [.list xs] => some (.lst (xs.map .leaf))
  | [.tuple xs] => some (.lst (xs.map .leaf))
  | _ => none
theorem cs_list : CallS X (.type "list") listD := by
  refine .mk call_list_of fun xs t h J H vs jd rx Q q => ?_
  unfold listD at h
  split at h
  · cases h
    obtain ⟨v, rfl, r⟩ := rx.one
    cases r with
    | lst j p r => exact ⟨_, _, rfl, .inl (.inl (.inl p)), fun a ha => q _ _ _ _ (New.list r jd ha)⟩
  · cases h
    obtain ⟨v, rfl, r⟩ := rx.one
    cases r with
    | tup p r => exact ⟨_, _, rfl, .inr p.sq, fun a ha => q _ _ _ _ (New.list r jd ha)⟩
  · cases h
def tupleD : List D → Option T
  | [.list xs] => some (.leaf (.tuple xs))
  | [.tuple xs] => some (.leaf (.tuple xs))
  | _ => none
theorem cs_tuple : CallS X (.type "tuple") tupleD := by
  refine .mk call_tuple_of fun xs t h J H vs jd rx Q q => ?_
  unfold tupleD at h
  split at h
  · cases h
    obtain ⟨v, rfl, r⟩ := rx.one
    cases r with
    | lst j p r => exact ⟨_, _, rfl, .inl ⟨.inl (.inl p), fun a ha => q _ _ _ _ (New.tuple r jd ha)⟩⟩
  · cases h
    obtain ⟨v, rfl, r⟩ := rx.one
    cases r with
    | tup p r => exact ⟨_, _, rfl, .inr ⟨p.sq, q _ _ _ _ (New.same (.tup p r) jd)⟩⟩
  · cases h
def boolsD : List D → Option (List Bool)
  | [] => some []
  | .bool b :: r => (boolsD r).map (b :: ·)
  | _ :: _ => none
theorem bools_rule {K : PySem.W.Frag} {J : Addr → Prop} {H : Hp} : ∀ {ds : List D} {bs : List Bool} {vs : List V}, boolsD ds = some bs → RDs K J H vs ds → vs = bs.map V.bl
  | [], _, _, h, .nil => by cases h; rfl
  | d :: ds, bs, _, h, .cons r s => by
    cases d with
    | bool b =>
      unfold boolsD at h
      cases hb : boolsD ds with
      | none => rw [hb] at h; cases h
      | some bs' =>
        rw [hb] at h
        cases h
        cases r
        rw [bools_rule hb s]
        rfl
    | _ => cases h
def intsD : List D → Option (List Int)
  | [] => some []
  | .int b :: r => (intsD r).map (b :: ·)
  | _ :: _ => none
theorem ints_rule {K : PySem.W.Frag} {J : Addr → Prop} {H : Hp} : ∀ {ds : List D} {bs : List Int} {vs : List V}, intsD ds = some bs → RDs K J H vs ds → vs = bs.map V.int
  | [], _, _, h, .nil => by cases h; rfl
  | d :: ds, bs, _, h, .cons r s => by
    cases d with
    | int b =>
      unfold intsD at h
      cases hb : intsD ds with
      | none => rw [hb] at h; cases h
      | some bs' =>
        rw [hb] at h
        cases h
        cases r
        rw [ints_rule hb s]
        rfl
    | _ => cases h
def allD : List D → Option T
  | [.list xs] => (boolsD xs).map fun bs => .leaf (.bool (bs.all id))
  | _ => none
def anyD : List D → Option T
  | [.list xs] => (boolsD xs).map fun bs => .leaf (.bool (bs.any id))
  | _ => none
def sumD : List D → Option T
  | [.list xs] => (intsD xs).map fun bs => .leaf (.int bs.sum)
  | _ => none
theorem cs_all (hc : X.calm = true) : CallS X (.builtin "all") allD := by
  refine .mk (cr_all hc) fun xs t h J H vs jd rx Q q => ?_
  unfold allD at h
  split at h
  · rename_i ds
    cases hb : boolsD ds with
    | none => rw [hb] at h; cases h
    | some bs =>
      rw [hb] at h
      cases h
      obtain ⟨v, rfl, r⟩ := rx.one
      cases r with
      | lst j p r => exact ⟨_, bs, rfl, by rw [← bools_rule hb r]; exact .inl (.inl p), q _ _ _ _ (New.same (.bl _) jd)⟩
  · cases h
theorem cs_any (hc : X.calm = true) : CallS X (.builtin "any") anyD := by
  refine .mk (cr_any hc) fun xs t h J H vs jd rx Q q => ?_
  unfold anyD at h
  split at h
  · rename_i ds
    cases hb : boolsD ds with
    | none => rw [hb] at h; cases h
    | some bs =>
      rw [hb] at h
      cases h
      obtain ⟨v, rfl, r⟩ := rx.one
      cases r with
      | lst j p r => exact ⟨_, bs, rfl, by rw [← bools_rule hb r]; exact .inl (.inl p), q _ _ _ _ (New.same (.bl _) jd)⟩
  · cases h
theorem cs_sum (hc : X.calm = true) : CallS X (.builtin "sum") sumD := by
  refine .mk (cr_sum hc) fun xs t h J H vs jd rx Q q => ?_
  unfold sumD at h
  split at h
  · rename_i ds
    cases hb : intsD ds with
    | none => rw [hb] at h; cases h
    | some bs =>
      rw [hb] at h
      cases h
      obtain ⟨v, rfl, r⟩ := rx.one
      cases r with
      | lst j p r => exact ⟨_, bs, rfl, by rw [← ints_rule hb r]; exact .inl (.inl p), q _ _ _ _ (New.same (.int _) jd)⟩
  · cases h
def max2D : List D → Option T
  | [.int i, .int j] => some (.leaf (.int (if j > i then j else i)))
  | _ => none
def min2D : List D → Option T
  | [.int i, .int j] => some (.leaf (.int (if j < i then j else i)))
  | _ => none
theorem cs_max2 (hc : X.calm = true) : CallS X (.builtin "max") max2D := by
  refine .mk (call_max2 hc) fun xs t h J H vs jd rx Q q => ?_
  unfold max2D at h
  split at h
  · cases h
    obtain ⟨v, u, rfl, r, r'⟩ := rx.two
    cases r; cases r'
    exact ⟨_, _, rfl, q _ _ _ _ (New.same (.int _) jd)⟩
  · cases h
theorem cs_min2 (hc : X.calm = true) : CallS X (.builtin "min") min2D := by
  refine .mk (call_min2 hc) fun xs t h J H vs jd rx Q q => ?_
  unfold min2D at h
  split at h
  · cases h
    obtain ⟨v, u, rfl, r, r'⟩ := rx.two
    cases r; cases r'
    exact ⟨_, _, rfl, q _ _ _ _ (New.same (.int _) jd)⟩
  · cases h
/-- repr -/
def reprOk (d : D) : Bool := d.canLay0 && d.showable && decide (d.depth ≤ 64) && decide (d.shown.length ≤ sizeLine)
def reprD : List D → Option T
  | [d] => if reprOk d then some (.leaf (.str d.shown)) else none
  | _ => none
end
end IL

namespace IL
open PySem PySem.Spec PyProof.Rows L2

/-! ### statements -/
inductive Fl where
  | nx | bk | ct
  | rt (t : T)
section
variable (K : PySem.W.Frag) (pn : List (Nat × V))
def Aft (D : Ends) (J : Addr → Prop) (H : Hp) (F : List Addr) (e' : En) : Fl → Prop
  | .nx => ∀ σ' H' J' F', SR K pn σ' H' e' J' F' → Tr J H F J' H' F' → D.nx σ' H'
  | .bk => ∀ σ' H' J' F', SR K pn σ' H' e' J' F' → Tr J H F J' H' F' → D.bk σ' H'
  | .ct => ∀ σ' H' J' F', SR K pn σ' H' e' J' F' → Tr J H F J' H' F' → D.ct σ' H'
  | .rt t => ∀ v σ' H' J' F' fp, SR K pn σ' H' e' J' F' → Own K J' H' F' v t fp → Tr J H F J' H' (F' ++ fp) → D.rt v H'
def rdS (f : M Fl) : TS := fun D σ H => ∃ e J F, SR K pn σ H e J F ∧ ∃ fl e', f e = .ok fl e' ∧ Aft K pn D J H F e' fl
end
theorem Aft.pre {K : PySem.W.Frag} {pn : List (Nat × V)} {D : Ends} {J J1 : Addr → Prop} {H H1 : Hp} {F F1 : List Addr} {e' : En} {fl : Fl} (a : Aft K pn D J H F e' fl) (tr : Tr J H F J1 H1 F1) : Aft K pn D J1 H1 F1 e' fl := by
  cases fl with
  | nx => exact fun σ' H' J' F' s t => a σ' H' J' F' s (tr.trans t)
  | bk => exact fun σ' H' J' F' s t => a σ' H' J' F' s (tr.trans t)
  | ct => exact fun σ' H' J' F' s t => a σ' H' J' F' s (tr.trans t)
  | rt x => exact fun v σ' H' J' F' fp s o t => a v σ' H' J' F' fp s o (tr.trans t)
def gSeq (f g : M Fl) : M Fl := bnd f fun fl => match fl with
  | .nx => g
  | .bk => ret .bk
  | .ct => ret .ct
  | .rt t => ret (.rt t)
def store (i : Nat) (t : T) : M Unit := fun e => if i < e.length then .ok () (e.set i (some t)) else .bad
def gSet (i : Nat) (f : M T) : M Fl := bnd f fun t => bnd (store i t) fun _ => ret .nx
def gRet (f : M T) : M Fl := bnd f fun t => ret (.rt t)
def gExp (f : M T) : M Fl := bnd f fun _ => ret .nx
theorem store_ok' {i : Nat} {t : T} {e e2 : En} {u : Unit} (h : store i t e = .ok u e2) : i < e.length ∧ e2 = e.set i (some t) := by
  unfold store at h
  split at h
  · cases h; exact ⟨by assumption, rfl⟩
  · cases h
section
variable {X : Cx} {pn : List (Nat × V)} {a b c : Expr} {pos : Pos} {es : List Expr} {st : Stmt} {sts : List Stmt}
theorem is_nil : PSs X [] (rdS X.K pn (ret .nx)) := PSs.weak pss_nil fun D σ H ⟨e, J, F, s, fl, e', h, q⟩ => by
  cases h
  exact q σ H J F s .refl
theorem is_cons {f g : M Fl} (h1 : PS X st (rdS X.K pn f)) (h2 : PSs X sts (rdS X.K pn g)) : PSs X (st :: sts) (rdS X.K pn (gSeq f g)) :=
  PSs.weak (pss_cons h1 h2) fun D σ H ⟨e, J, F, s, fl, e', h, q⟩ => by
    obtain ⟨x, e1, k1, k2⟩ := bnd_ok h
    refine ⟨e, J, F, s, x, e1, k1, ?_⟩
    cases x with
    | nx => exact fun σ' H' J' F' s' tr => ⟨e1, J', F', s', fl, e', k2, q.pre tr⟩
    | bk => cases k2; exact q
    | ct => cases k2; exact q
    | rt t => cases k2; exact q
/-- the last statement of a block -/
theorem is_one {f : M Fl} (h1 : PS X st (rdS X.K pn f)) : PSs X [st] (rdS X.K pn f) := pss_one h1
theorem is_ret {f : M T} (h : IE X pn a f) : PS X (.Return (some a) pos) (rdS X.K pn (gRet f)) := PS.weak (ps_ret h.pe) fun D σ H ⟨e, J, F, s, fl, e', h, q⟩ => by
  obtain ⟨x, e1, k1, k2⟩ := bnd_ok h
  cases k2
  exact ⟨e, J, F, s, x, _, k1, fun v H' J' F' fp s' o tr => q v σ H' J' F' fp s' o tr⟩
theorem is_retN : PS X (.Return none pos) (rdS X.K pn (ret (.rt (.leaf .none)))) := PS.weak ps_retN fun D σ H ⟨e, J, F, s, fl, e', h, q⟩ => by
  cases h
  exact q .non σ H J F [] s ⟨.leaf .non, by simpa using s.nd, fun _ z => nomatch z⟩ (by simpa using Tr.refl)
theorem is_pass : PS X (.Pass pos) (rdS X.K pn (ret .nx)) := PS.weak ps_pass fun D σ H ⟨e, J, F, s, fl, e', h, q⟩ => by
  cases h
  exact q σ H J F s .refl
theorem is_break : PS X (.Break pos) (rdS X.K pn (ret .bk)) := PS.weak ps_break fun D σ H ⟨e, J, F, s, fl, e', h, q⟩ => by
  cases h
  exact q σ H J F s .refl
theorem is_cont : PS X (.Continue pos) (rdS X.K pn (ret .ct)) := PS.weak ps_continue fun D σ H ⟨e, J, F, s, fl, e', h, q⟩ => by
  cases h
  exact q σ H J F s .refl
theorem is_exp {f : M T} (h : IE X pn a f) (hs : swapsWith a none pos.line X.env = pure false) : PS X (.Expr a pos) (rdS X.K pn (gExp f)) := PS.weak (ps_expr h.pe hs) fun D σ H ⟨e, J, F, s, fl, e', h, q⟩ => by
  obtain ⟨x, e1, k1, k2⟩ := bnd_ok h
  cases k2
  exact ⟨e, J, F, s, x, _, k1, fun v H' J' F' fp s' o tr => q σ H' J' F' s' (tr.trans (Tr.sub fun b hb => List.mem_append_left _ hb))⟩
def gIfS (c : M Bool) (f g : M Fl) : M Fl := cond c f g
theorem is_if {c : Expr} {f : M T} {g k : M Fl} {ts es : List Stmt} (hc : IE X pn c f) (hn : notIf c = true) (h1 : PSs X ts (rdS X.K pn g)) (h2 : PSs X es (rdS X.K pn k)) : PS X (.If c ts es pos) (rdS X.K pn (gIfS (tst f) g k)) :=
  PS.weak (ps_if (hc.pt hn) h1 h2) fun D σ H ⟨e, J, F, s, fl, e', h, q⟩ => by
    obtain ⟨x, e1, k1, k2⟩ := bnd_ok h
    refine ⟨e, J, F, s, x, e1, k1, fun H1 J1 F1 s1 tr1 => ?_⟩
    cases x with
    | true =>
      rw [if_pos rfl] at k2 ⊢
      exact ⟨e1, J1, F1, s1, fl, e', k2, q.pre tr1⟩
    | false =>
      rw [if_neg Bool.false_ne_true] at k2 ⊢
      exact ⟨e1, J1, F1, s1, fl, e', k2, q.pre tr1⟩

/-! ### targets -/
def Sm (ws : List Nat) (σ σ' : L2.St) : Prop := σ'.length = σ.length ∧ ∀ i, i ∉ ws → σ'[i]? = σ[i]?
theorem Sm.refl {ws : List Nat} {σ : L2.St} : Sm ws σ σ := ⟨rfl, fun _ _ => rfl⟩
theorem Sm.trans {w1 w2 : List Nat} {σ σ1 σ2 : L2.St} (a : Sm w1 σ σ1) (b : Sm w2 σ1 σ2) : Sm (w1 ++ w2) σ σ2 := ⟨b.1.trans a.1, fun i h => (b.2 i fun z => h (List.mem_append_right _ z)).trans (a.2 i fun z => h (List.mem_append_left _ z))⟩
def rdG (K : PySem.W.Frag) (pn : List (Nat × V)) (ws : List Nat) (bd : D → M Unit) : TG := fun v σ H Q => ∃ e J F d, SR K pn σ H e J F ∧ RD K J H v d ∧ ∃ e', bd d e = .ok () e' ∧ ∀ σ' H' J' F', SR K pn σ' H' e' J' F' → Tr J H F J' H' F' → Sm ws σ σ' → Q σ' H'
def rdGs (K : PySem.W.Frag) (pn : List (Nat × V)) (ws : List Nat) (bd : List D → M Unit) : TGs := fun v σ H Q => ∃ e J F d, SR K pn σ H e J F ∧ RDs K J H v d ∧ ∃ e', bd d e = .ok () e' ∧ ∀ σ' H' J' F', SR K pn σ' H' e' J' F' → Tr J H F J' H' F' → Sm ws σ σ' → Q σ' H'
theorem PG.weak {e : Expr} {t t' : TG} (h : PG X e t) (w : ∀ (v : V) (σ : L2.St) (H : Hp) (Q : L2.St → Hp → Prop), t' v σ H Q → t v σ H Q) : PG X e t' := ⟨fun pins s σ H v u Q I r q => h.run pins s σ H v u Q I r (w v σ H Q q)⟩
theorem PGs.weak {e : List Expr} {t t' : TGs} (h : PGs X e t) (w : ∀ (v : List V) (σ : L2.St) (H : Hp) (Q : L2.St → Hp → Prop), t' v σ H Q → t v σ H Q) : PGs X e t' := ⟨fun pins s σ H v u Q I r q => h.run pins s σ H v u Q I r (w v σ H Q q)⟩
theorem PG.or {e : Expr} {t t' : TG} (h : PG X e t) (h' : PG X e t') : PG X e (fun v σ H Q => t v σ H Q ∨ t' v σ H Q) := ⟨fun pins s σ H v u Q I r q => by
  rcases q with q | q
  · exact h.run pins s σ H v u Q I r q
  · exact h'.run pins s σ H v u Q I r q⟩
theorem ig_name {i : Nat} (h : PG X a (gName i)) (hp : ∀ p ∈ pn, p.1 ≠ i) : PG X a (rdG X.K pn [i] fun d => store i (.leaf d)) := PG.weak h fun v σ H Q ⟨e, J, F, d, s, r, e', h, q⟩ => by
  obtain ⟨hi, rfl⟩ := store_ok' h
  obtain ⟨F', s', hF⟩ := s.set hi hp ⟨.leaf r, by simpa using s.nd, fun _ z => nomatch z⟩
  refine q _ H J F' s' (Tr.sub fun b hb => by simpa using hF b hb) ⟨by simp, fun j hj => ?_⟩
  rw [List.getElem?_set_ne (fun z => hj (by simp [z]))]
theorem igs_nil : PGs X [] (rdGs X.K pn [] fun ds => match ds with | [] => ret () | _ => bad) := PGs.weak pgs_nil fun v σ H Q ⟨e, J, F, d, s, r, e', h, q⟩ => by
  cases r with
  | nil => cases h; exact ⟨rfl, q σ H J F s .refl .refl⟩
  | cons _ _ => cases h
def consG (f : D → M Unit) (g : List D → M Unit) : List D → M Unit
  | [] => bad
  | d :: ds => bnd (f d) fun _ => g ds
theorem igs_cons {w1 w2 : List Nat} {f : D → M Unit} {g : List D → M Unit} (h1 : PG X a (rdG X.K pn w1 f)) (h2 : PGs X es (rdGs X.K pn w2 g)) (hs : (assignEach (a :: es) X.env).map (·.2) = assign a X.env :: (assignEach es X.env).map (·.2)) : PGs X (a :: es) (rdGs X.K pn (w1 ++ w2) (consG f g)) :=
  PGs.weak (pgs_cons h1 h2 hs) fun v σ H Q ⟨e, J, F, d, s, r, e', h, q⟩ => by
    cases r with
    | nil => cases h
    | cons r rs =>
      obtain ⟨_, e1, k1, k2⟩ := bnd_ok h
      exact ⟨_, _, rfl, e, J, F, _, s, r, e1, k1, fun σ' H' J' F' s' tr sm => ⟨e1, J', F', _, s', rs.step tr s.jf, e', k2, fun σ2 H2 J2 F2 s2 tr2 sm2 => q σ2 H2 J2 F2 s2 (tr.trans tr2) (sm.trans sm2)⟩⟩
def unT (n : Nat) (g : List D → M Unit) : D → M Unit
  | .tuple ds => if ds.length = n then g ds else bad
  | .list ds => if ds.length = n then g ds else bad
  | _ => bad
theorem ig_tup {ws : List Nat} {g : List D → M Unit} {k n : Nat} (hc : X.calm = true) (h : PGs X es (rdGs X.K pn ws g)) (hn : (assignEach es X.env).length = n) (hst : (assignEach es X.env).findIdx? (·.1) = none) : PG X (.Tuple es k pos) (rdG X.K pn ws (unT n g)) :=
  PG.weak (PG.or (pg_tup hc h hn hst) (pg_unl hc h hn hst)) fun v σ H Q ⟨e, J, F, d, s, r, e', h, q⟩ => by
    unfold unT at h
    split at h
    · split at h
      · rename_i ds hl
        cases r with
        | tup p r => exact .inl ⟨_, _, rfl, p.sq, by rw [r.length]; exact hl, e, J, F, ds, s, r, e', h, q⟩
      · cases h
    · split at h
      · rename_i ds hl
        cases r with
        | lst j p r => exact .inr ⟨_, _, rfl, .inl (.inl p), by rw [r.length]; exact hl, e, J, F, ds, s, r, e', h, q⟩
      · cases h
    · cases h

/-! ### an own list turned -/
/-- the list in slot i gets what vs, ts say -/
theorem SR.turn {K : PySem.W.Frag} {σ : L2.St} {H : Hp} {e : En} {J : Addr → Prop} {F : List Addr} (s : SR K pn σ H e J F) {i : Nat} {ts ts' : List T} {fx : List Addr} (h : e[i]? = some (some (.lst ts)))
    (nd : (F ++ fx).Nodup) (jf : ∀ a ∈ fx, ¬ J a) :
    ∃ a vs, σ[i]? = some (some (.ref a)) ∧ H a = some (.lst vs) ∧ ∃ fp, RTs K J H vs ts fp ∧ ∀ vs' fp', RTs K J H vs' ts' fp' → (∀ b ∈ fp', b ∈ fp ∨ b ∈ fx) → ((fp ++ fx).Nodup → fp'.Nodup) →
      ∃ F', SR K pn σ (upd H a (.lst vs')) (e.set i (some (.lst ts'))) J F' ∧ Tr J H (F ++ fx) J (upd H a (.lst vs')) F' := by
  obtain ⟨v, fp0, F1, hv, o, s1, pm⟩ := s.take h
  cases hrt : o.rt with
  | lst ha rts =>
    rename_i a vs fp
    refine ⟨a, vs, hv, ha, fp, rts, fun vs' fp' r' hsub hnd => ?_⟩
    have ndF : (F1 ++ (a :: fp)).Nodup := o.nd
    have nd2 : ((F1 ++ (a :: fp)) ++ fx).Nodup := ((List.Perm.append_right fx pm).nodup_iff).mp nd
    have hF1 : a ∉ F1 := fun z => (List.nodup_append.mp ndF).2.2 a z a List.mem_cons_self rfl
    have hafp : a ∉ fp := (List.nodup_cons.mp (List.nodup_append.mp ndF).2.1).1
    have hJ : ¬ J a := o.jf a List.mem_cons_self
    have hafx : a ∉ fx := fun z => (List.nodup_append.mp nd2).2.2 a (List.mem_append_right _ List.mem_cons_self) a z rfl
    have hafp' : a ∉ fp' := fun z => (hsub a z).elim hafp hafx
    have keep : ∀ b u, b ≠ a → H b = some u → upd H a (.lst vs') b = some u := fun b u hb q => by rw [upd_ne hb]; exact q
    have dm : ∀ b, H b ≠ none → upd H a (.lst vs') b ≠ none := fun b q => by
      by_cases hb : b = a
      · subst hb; rw [upd_same]; exact fun z => nomatch z
      · rw [upd_ne hb]; exact q
    have s2 : SR K pn σ (upd H a (.lst vs')) (e.set i none) J F1 := s1.step (fun _ j => j) (fun b u z q => keep b u (fun w => by
      subst w
      rcases z with z | z | ⟨_, z⟩
      · exact hJ z
      · exact hF1 z
      · subst z; rw [ha] at q; cases q) q) (fun b z => dm b (s.jd b z)) s1.jf
    have ndp : (fp ++ fx).Nodup := by
      have := (List.nodup_append.mp nd2)
      refine List.nodup_append.mpr ⟨(List.nodup_cons.mp (List.nodup_append.mp ndF).2.1).2, this.2.1, fun x hx y hy => this.2.2 x (List.mem_append_right _ (List.mem_cons_of_mem _ hx)) y hy⟩
    have o2 : Own K J (upd H a (.lst vs')) F1 (.ref a) (.lst ts') (a :: fp') := by
      refine ⟨.lst upd_same (r'.mono (fun _ j => j) (fun b u j q => keep b u (fun w => j.elim (fun j => hJ (w ▸ j)) fun ⟨_, z⟩ => by subst w z; rw [ha] at q; cases q) q) fun b u hb q => keep b u (fun w => hafp' (w ▸ hb)) q), ?_, fun b hb => ?_⟩
      · refine List.nodup_append.mpr ⟨s1.nd, List.nodup_cons.mpr ⟨hafp', hnd ndp⟩, fun x hx y hy z => ?_⟩
        subst z
        rcases List.mem_cons.mp hy with rfl | hy
        · exact hF1 hx
        · rcases hsub x hy with w | w
          · exact (List.nodup_append.mp ndF).2.2 x hx x (List.mem_cons_of_mem _ w) rfl
          · exact (List.nodup_append.mp nd2).2.2 x (List.mem_append_left _ hx) x w rfl
      · rcases List.mem_cons.mp hb with rfl | hb
        · exact hJ
        · rcases hsub b hb with w | w
          · exact o.jf b (List.mem_cons_of_mem _ w)
          · exact jf b w
    have hi : i < e.length := (List.getElem?_eq_some_iff.mp h).1
    obtain ⟨F', s3, pm3⟩ := s2.put (i := i) (by simp [hi]) hv o2
    rw [List.set_set] at s3
    refine ⟨F', s3, ⟨fun b u q hb => keep b u (fun w => ?_) q, dm, fun _ j => j, fun b hb => ?_, fun b z => .inl z, fun b xs q => keep b _ (fun w => by subst w; rw [ha] at q; cases q) q⟩⟩
    · subst w
      exact hb (List.mem_append_left _ (pm.mem_iff.mpr (List.mem_append_right _ List.mem_cons_self)))
    · left
      rcases List.mem_append.mp (pm3.mem_iff.mp hb) with z | z
      · exact List.mem_append_left _ (pm.mem_iff.mpr (List.mem_append_left _ z))
      · rcases List.mem_cons.mp z with rfl | z
        · exact List.mem_append_left _ (pm.mem_iff.mpr (List.mem_append_right _ List.mem_cons_self))
        · rcases hsub b z with w | w
          · exact List.mem_append_left _ (pm.mem_iff.mpr (List.mem_append_right _ (List.mem_cons_of_mem _ w)))
          · exact List.mem_append_right _ w
theorem RTs.set {K : PySem.W.Frag} {J : Addr → Prop} {H : Hp} {w : V} {t : T} {g : List Addr} (r : RT K J H w t g) : ∀ {vs : List V} {ts : List T} {fp : List Addr} (j : Nat), RTs K J H vs ts fp → ∃ fp', RTs K J H (vs.set j w) (ts.set j t) fp' ∧ (∀ b ∈ fp', b ∈ fp ∨ b ∈ g) ∧ ((fp ++ g).Nodup → fp'.Nodup)
  | _, _, _, _, .nil => ⟨[], .nil, fun _ h => (nomatch h), fun _ => List.nodup_nil⟩
  | _, _, _, 0, .cons (f := f) (g := f2) q s => ⟨g ++ f2, .cons r s, fun b hb => by
      rcases List.mem_append.mp hb with z | z
      · exact .inr z
      · exact .inl (List.mem_append_right _ z), fun nd => by
      have h := List.nodup_append.mp nd
      have h1 := List.nodup_append.mp h.1
      exact List.nodup_append.mpr ⟨h.2.1, h1.2.1, fun x hx y hy z => h.2.2 y (List.mem_append_right _ hy) x hx z.symm⟩⟩
  | _, _, _, j + 1, .cons (f := f) (g := f2) q s => by
    obtain ⟨fp', h1, h2, h3⟩ := RTs.set r j s
    refine ⟨f ++ fp', .cons q h1, fun b hb => ?_, fun nd => ?_⟩
    · rcases List.mem_append.mp hb with z | z
      · exact .inl (List.mem_append_left _ z)
      · rcases h2 b z with w | w
        · exact .inl (List.mem_append_right _ w)
        · exact .inr w
    · have n0 := List.nodup_append.mp nd
      have n1 := List.nodup_append.mp n0.1
      refine List.nodup_append.mpr ⟨n1.1, h3 (List.nodup_append.mpr ⟨n1.2.1, n0.2.1, fun x hx y hy z => n0.2.2 x (List.mem_append_right _ hx) y hy z⟩), fun x hx y hy z => ?_⟩
      subst z
      rcases h2 x hy with w | w
      · exact n1.2.2 x hx x w rfl
      · exact n0.2.2 x (List.mem_append_left _ hx) x w rfl
/-- x.append(e) -/
def pushT (i : Nat) (t : T) : M Unit := fun e => match e[i]? with
  | some (some (.lst ts)) => if ts.length < most then .ok () (e.set i (some (.lst (ts ++ [t])))) else .bad
  | _ => .bad
def gPush (i : Nat) (f : M T) : M T := bnd (held i) fun _ => bnd (peek i fun t => match t with | .lst _ => some () | _ => none) fun _ => bnd f fun t => bnd (pushT i t) fun _ => ret (.leaf .none)
theorem ie_push {i : Nat} {f : M T} {apos : Pos} (ho : PE X a (tVar i)) (hn : nstar b = true) (ha : PE X b (rdE X.K pn f)) (hbase : attributeBase a "append" X.env (eval a X.env) = eval a X.env) (hline : (apos.endLine == pos.line) = true) :
    IE X pn (.Call (.Attribute a "append" apos) [b] [] pos) (gPush i f) := by
  have hs : starEach [b] X.env = (false, eval b X.env) :: starEach [] X.env := star_of hn [] X.env
  refine ie_mk (PE.weak (pe_bm PySem.F.plainAttrs_list PySem.F.slot_list_append PySem.F.type_list_append mt_append ho (pa_cons ha pa_nil hs) hbase (by rw [hs]; rfl) hline hs (by rfl)) fun σ H Q ⟨e, J, F, s, fl, e', h, q⟩ => ?_)
  obtain ⟨_, e0, h1, h2⟩ := bnd_ok h
  obtain ⟨rfl, t0, h0⟩ := held_ok h1
  obtain ⟨_, e1, h3, h4⟩ := bnd_ok h2
  obtain ⟨rfl, t1, h5, h6⟩ := peek_ok h3
  obtain ⟨t, e2, h7, h8⟩ := bnd_ok h4
  obtain ⟨_, e3, h9, h10⟩ := bnd_ok h8
  cases h10
  split at h6
  · rename_i ts0
    obtain ⟨v, fp, hv, rt⟩ := s.at h5
    cases rt with
    | lst hH rts =>
      refine ⟨_, hv, .inl ⟨rfl, _, .inl (.inl hH)⟩, e1, J, F, s, t, e2, h7, fun w H1 J1 F1 fpw s1 o1 tr1 => ?_⟩
      unfold pushT at h9
      split at h9
      · rename_i ts h11
        split at h9
        · rename_i hz
          cases h9
          obtain ⟨a', vs, hv', ha', fp', rts', go⟩ := s1.turn (ts' := ts ++ [t]) h11 o1.nd o1.jf
          rw [hv] at hv'
          cases hv'
          obtain ⟨F', s2, tr2⟩ := go (vs ++ [w]) (fp' ++ (fpw ++ [])) (rts'.append (.cons o1.rt .nil)) (fun b hb => by simpa using hb) (fun h => by simpa using h)
          refine ⟨_, vs, w, rfl, rfl, ha', by rw [rts'.length]; exact most_lt (Nat.le_of_lt hz), ?_⟩
          exact q _ _ J1 F' [] s2 ⟨.leaf .non, by simpa using s2.nd, fun _ z => nomatch z⟩ (by simpa using tr1.trans tr2)
        · cases h9
      · cases h9
  · cases h6
/-- x[k] = v -/
def setT (i : Nat) (k : D) (t : T) : M Unit := fun e => match e[i]?, k with
  | some (some (.lst ts)), .int z => (match ixN ts.length z with
    | some j => .ok () (e.set i (some (.lst (ts.set j t))))
    | none => .bad)
  | _, _ => .bad
def gPut (i : Nat) (f : M D) (d : D) : M Unit := bnd (held i) fun _ => bnd f fun k => setT i k (.leaf d)
theorem ig_sub {i : Nat} {f : M D} (ho : PE X a (tVar i)) (hi : PE X b (rdD X.K pn f))
    (ha : ∀ v, assign (.Subscript a b pos) X.env v = (do
      let ov ← holding [v] (eval a X.env)
      let iv ← holding [v, ov] (eval b X.env)
      standAt pos
      holding [v, ov, iv] (setItem ov iv v)
      release [v, ov, iv] []) := by intro _; rfl) : PG X (.Subscript a b pos) (rdG X.K pn [] (gPut i f)) :=
  PG.weak (pg_sub ho hi set_list ha) fun v σ H Q ⟨e, J, F, d, s, r, e', h, q⟩ => by
    obtain ⟨_, e0, h1, h2⟩ := bnd_ok h
    obtain ⟨rfl, t0, h0⟩ := held_ok h1
    obtain ⟨k, e1, h3, h4⟩ := bnd_ok h2
    obtain ⟨ov, fpo, hv, rt⟩ := s.at h0
    refine ⟨ov, hv, _, J, F, s, k, e1, h3, fun u H1 J1 F1 s1 r1 tr1 => ?_⟩
    unfold setT at h4
    split at h4
    · rename_i ts z h5
      split at h4
      · rename_i j hj
        cases h4
        have rd := r.step tr1 s.jf
        obtain ⟨a', vs, hv', ha', fp', rts', go⟩ := s1.turn (ts' := ts.set j (.leaf d)) (fx := []) h5 (by simpa using s1.nd) (fun _ z => nomatch z)
        rw [hv] at hv'
        cases hv'
        obtain ⟨fp2, k1, k2, k3⟩ := RTs.set (RT.leaf rd) j rts'
        obtain ⟨F', s2, tr2⟩ := go _ fp2 k1 k2 k3
        cases r1
        refine ⟨a', vs, z, j, rfl, rfl, ha', by rw [rts'.length]; exact hj, ?_⟩
        exact q σ _ J1 F' s2 (tr1.trans (by simpa using tr2)) .refl
      · cases h4
    · cases h4
/-- target = data -/
def gAsg (f : M D) (bd : D → M Unit) : M Fl := bnd f fun d => bnd (bd d) fun _ => ret .nx
theorem is_asg {ws : List Nat} {f : M D} {bd : D → M Unit} (h : PE X b (rdD X.K pn f)) (hg : PG X a (rdG X.K pn ws bd)) (hs : swapsWithSole [a] b pos.line X.env = pure false) (hw : swappedStores [a] b X.env = pure none) (h1 : (assignEach [a] X.env).map (·.2) = [assign a X.env]) :
    PS X (.Assign [a] b pos) (rdS X.K pn (gAsg f bd)) := PS.weak (ps_asg h hg hs hw h1) fun D σ H ⟨e, J, F, s, fl, e', h, q⟩ => by
  obtain ⟨d, e1, k1, k2⟩ := bnd_ok h
  obtain ⟨_, e2, k3, k4⟩ := bnd_ok k2
  cases k4
  exact ⟨e, J, F, s, d, e1, k1, fun v H1 J1 F1 s1 r1 tr1 => ⟨e1, J1, F1, d, s1, r1, _, k3, fun σ' H' J' F' s' tr' _ => q σ' H' J' F' s' (tr1.trans tr')⟩⟩
/-- name = own value -/
theorem is_set {i : Nat} {x : Str} {f : M T} {pos' : Pos} (hN : X.N.Nodup) (hi : X.N[i]? = some x) (hx : Loc X.env.scope x) (hp : ∀ p ∈ pn, p.1 ≠ i) (he : IE X pn b f) (hs : swapsWith b (some (.Name x pos')) pos.line X.env = pure false) (hf : X.fn x = true ∨ X.env.scope.names.lookup x = some .local) :
    PS X (.Assign [.Name x pos'] b pos) (rdS X.K pn (gSet i f)) := PS.weak (ps_set hN hi hx he.pe hs hf) fun D σ H ⟨e, J, F, s, fl, e', h, q⟩ => by
  obtain ⟨t, e1, k1, k2⟩ := bnd_ok h
  obtain ⟨_, e2, k3, k4⟩ := bnd_ok k2
  cases k4
  obtain ⟨k5, rfl⟩ := store_ok' k3
  refine ⟨e, J, F, s, t, e1, k1, fun v H1 J1 F1 fp s1 o1 tr1 => ?_⟩
  obtain ⟨F', s2, hF⟩ := s1.set k5 hp o1
  exact q _ H1 J1 F' s2 (tr1.trans (Tr.sub hF))
/-- x, y = e1, e2 -/
def gPar (i j : Nat) (f : M (List T)) : M Fl := bnd f fun ts => match ts with
  | [t, u] => bnd (store i t) fun _ => bnd (store j u) fun _ => ret .nx
  | _ => bad
theorem Owns.two {K : PySem.W.Frag} {J : Addr → Prop} {H : Hp} {F : List Addr} {vs : List V} {t u : T} {fp : List Addr} (o : Owns K J H F vs [t, u] fp) : ∃ v w f g, vs = [v, w] ∧ RT K J H v t f ∧ RT K J H w u g ∧ fp = f ++ g := by
  cases o.rt with
  | cons r s => cases s with
    | cons r2 s2 => cases s2; exact ⟨_, _, _, _, rfl, r, r2, by simp⟩
theorem is_par {i j : Nat} {x y : Str} {f : M (List T)} {px py pt : Pos} {kt k2 : Nat} {pt2 : Pos} (hc : X.calm = true) (hN : X.N.Nodup) (hi : X.N[i]? = some x) (hj : X.N[j]? = some y) (hij : i ≠ j)
    (hx : X.env.scope.names.lookup x = some .local) (hy : X.env.scope.names.lookup y = some .local) (hp : ∀ p ∈ pn, p.1 ≠ i) (hp' : ∀ p ∈ pn, p.1 ≠ j) (ha : PA X [a, b] (rdEs X.K pn f))
    (hw : swappedStores [.Tuple [.Name x px, .Name y py] kt pt] (.Tuple [a, b] k2 pt2) X.env = pure (some [x, y])) (hs : swapsWithSole [.Tuple [.Name x px, .Name y py] kt pt] (.Tuple [a, b] k2 pt2) pos.line X.env = pure false) :
    PS X (.Assign [.Tuple [.Name x px, .Name y py] kt pt] (.Tuple [a, b] k2 pt2) pos) (rdS X.K pn (gPar i j f)) :=
  PS.weak (ps_par hc hN hi hj hij hx hy ha hw hs) fun D σ H ⟨e, J, F, s, fl, e', h, q⟩ => by
    obtain ⟨ts, e1, k1, k2⟩ := bnd_ok h
    split at k2
    · rename_i t u
      obtain ⟨_, e2, k3, k4⟩ := bnd_ok k2
      obtain ⟨_, e3, k5, k6⟩ := bnd_ok k4
      cases k6
      obtain ⟨k7, rfl⟩ := store_ok' k3
      obtain ⟨k8, rfl⟩ := store_ok' k5
      refine ⟨e, J, F, s, _, e1, k1, fun vs H1 J1 F1 fp s1 o1 tr1 => ?_⟩
      obtain ⟨v, w, f1, g1, rfl, r1, r2, rfl⟩ := o1.two
      have nd := o1.nd
      have oa : Own X.K J1 H1 F1 v t f1 := ⟨r1, by
        have h := List.nodup_append.mp nd
        exact List.nodup_append.mpr ⟨h.1, (List.nodup_append.mp h.2.1).1, fun x hx y hy => h.2.2 x hx y (List.mem_append_left _ hy)⟩, fun b hb => o1.jf b (List.mem_append_left _ hb)⟩
      obtain ⟨F2, s2, hF2⟩ := s1.set k7 hp oa
      have ob : Own X.K J1 H1 F2 w u g1 := ⟨r2, by
        have h := List.nodup_append.mp nd
        have h2 := List.nodup_append.mp h.2.1
        refine List.nodup_append.mpr ⟨s2.nd, h2.2.1, fun x hx y hy z => ?_⟩
        rcases List.mem_append.mp (hF2 x hx) with q | q
        · exact h.2.2 x q y (List.mem_append_right _ hy) z
        · exact h2.2.2 x q y hy z, fun b hb => o1.jf b (List.mem_append_right _ hb)⟩
      obtain ⟨F3, s3, hF3⟩ := s2.set k8 hp' ob
      refine ⟨v, w, rfl, q _ H1 J1 F3 s3 (tr1.trans (Tr.sub fun b hb => ?_))⟩
      rcases List.mem_append.mp (hF3 b hb) with z | z
      · rcases List.mem_append.mp (hF2 b z) with z | z
        · exact List.mem_append_left _ z
        · exact List.mem_append_right _ (List.mem_append_left _ z)
      · exact List.mem_append_right _ (List.mem_append_right _ z)
    · cases k2

/-! ### while -/
def gWhile : Nat → M Bool → M Fl → M Fl
  | 0, _, _ => bad
  | n + 1, c, b => bnd c fun t => if t then bnd b fun fl => match fl with
    | .nx => gWhile n c b
    | .ct => gWhile n c b
    | .bk => ret .nx
    | .rt t => ret (.rt t) else ret .nx
theorem is_while {n : Nat} {f : M T} {g : M Fl} {body : List Stmt} (hp : PassesOwn (model X.prog X.w) X.A X.env X.xe) (hc : IE X pn c f) (hn : notIf c = true) (hb : PSs X body (rdS X.K pn g)) : PS X (.While c body [] pos) (rdS X.K pn (gWhile n (tst f) g)) :=
  PS.weak (ps_while hp (hc.pt hn) hb) fun D σ H ⟨e, J, F, s, fl, e', h, q⟩ => by
    refine ⟨fun m σ1 H1 => ∃ e1 J1 F1, SR X.K pn σ1 H1 e1 J1 F1 ∧ Tr J H F J1 H1 F1 ∧ gWhile m (tst f) g e1 = .ok fl e', ⟨n, e, J, F, s, .refl, h⟩, fun m σ1 H1 hW => ?_⟩
    obtain ⟨e1, J1, F1, s1, tr1, h1⟩ := hW
    cases m with
    | zero => cases h1
    | succ m =>
      obtain ⟨t, e2, k1, k2⟩ := bnd_ok h1
      refine ⟨e1, J1, F1, s1, t, e2, k1, fun H2 J2 F2 s2 tr2 => ?_⟩
      cases t with
      | false =>
        rw [if_neg Bool.false_ne_true] at k2 ⊢
        cases k2
        exact q σ1 H2 J2 F2 s2 (tr1.trans tr2)
      | true =>
        rw [if_pos rfl] at k2 ⊢
        obtain ⟨x, e3, k3, k4⟩ := bnd_ok k2
        refine ⟨fun σ' H' => ∃ m', m' < m + 1 ∧ ∃ e1 J1 F1, SR X.K pn σ' H' e1 J1 F1 ∧ Tr J H F J1 H' F1 ∧ gWhile m' (tst f) g e1 = .ok fl e', fun σ' H' ⟨m', hm, e4, J4, F4, s4, tr4, h4⟩ => ⟨m', hm, e4, J4, F4, s4, tr4, h4⟩, ?_⟩
        refine ⟨e2, J2, F2, s2, x, e3, k3, ?_⟩
        cases x with
        | nx => exact fun σ' H' J' F' s' tr' => ⟨m, Nat.lt_succ_self m, e3, J', F', s', (tr1.trans tr2).trans tr', k4⟩
        | ct => exact fun σ' H' J' F' s' tr' => ⟨m, Nat.lt_succ_self m, e3, J', F', s', (tr1.trans tr2).trans tr', k4⟩
        | bk => cases k4; exact fun σ' H' J' F' s' tr' => q σ' H' J' F' s' ((tr1.trans tr2).trans tr')
        | rt t => cases k4; exact fun v σ' H' J' F' fp s' o tr' => q v σ' H' J' F' fp s' o ((tr1.trans tr2).trans tr')

/-! ### what is walked -/
structure WD (K : PySem.W.Frag) (Jt : It) (ds : List D) (J0 : Addr → Prop) (H0 : Hp) : Prop where
  go : ∀ (i : Nat) (J : Addr → Prop) (H : Hp), (∀ b, J0 b → J b) → Kp J0 H0 H → i < ds.length → Jt.go i H
  stop : ∀ (J : Addr → Prop) (H : Hp), (∀ b, J0 b → J b) → Kp J0 H0 H → Jt.stop ds.length H
  yld : ∀ (i : Nat) (J : Addr → Prop) (H : Hp) (x : V) (H' : Hp), (∀ b, J0 b → J b) → Kp J0 H0 H → (∀ b, J b → H b ≠ none) → Jt.yld i H x H' → ∀ d, ds[i]? = some d → ∃ J', New K J H J' H' x (.leaf d) []
def rdI (K : PySem.W.Frag) (pn : List (Nat × V)) (f : M (List D)) : TI := fun σ H R => ∃ e J F, SR K pn σ H e J F ∧ ∃ ds e', f e = .ok ds e' ∧ ∀ Jt H' J' F', SR K pn σ H' e' J' F' → Tr J H F J' H' F' → WD K Jt ds J' H' → R Jt H'
theorem PI.weak {tg e : Expr} {t t' : TI} (h : PI X tg e t) (w : ∀ (σ : L2.St) (H : Hp) (R : It → Hp → Prop), t' σ H R → t σ H R) : PI X tg e t' := ⟨fun pins s σ H R I q => h.run pins s σ H R I (w σ H R q)⟩
theorem PI.or {tg e : Expr} {t t' : TI} (h : PI X tg e t) (h' : PI X tg e t') : PI X tg e (fun σ H R => t σ H R ∨ t' σ H R) := ⟨fun pins s σ H R I q => by
  rcases q with q | q
  · exact h.run pins s σ H R I q
  · exact h'.run pins s σ H R I q⟩
def gFor (bd : D → M Unit) (b : M Fl) : List D → M Fl
  | [] => ret .nx
  | d :: ds => bnd (bd d) fun _ => bnd b fun fl => match fl with
    | .nx => gFor bd b ds
    | .ct => gFor bd b ds
    | .bk => ret .nx
    | .rt t => ret (.rt t)
theorem Tr.later {J J' : Addr → Prop} {H H' : Hp} {F F' : List Addr} (tr : Tr J H F J' H' F') (jf : ∀ a ∈ F, ¬ J a) : (∀ b, J b → J' b) ∧ Kp J H H' := ⟨tr.jj, tr.kp jf⟩
theorem is_for {ws : List Nat} {tg iter : Expr} {body : List Stmt} {f : M (List D)} {bd : D → M Unit} {g : M Fl} (hp : PassesOwn (model X.prog X.w) X.A X.env X.xe) (hc : X.calm = true) (hi : PI X tg iter (rdI X.K pn f)) (hg : PG X tg (rdG X.K pn ws bd)) (hb : PSs X body (rdS X.K pn g))
    (hs : ∀ x, foldedSetIterable iter X.env x = pure x) : PS X (.For tg iter body [] pos) (rdS X.K pn (bnd f (gFor bd g))) :=
  PS.weak (ps_for hp hc hi hg hb hs) fun D σ H ⟨e, J, F, s, fl, e', h, q⟩ => by
    obtain ⟨ds, e1, h1, h2⟩ := bnd_ok h
    refine ⟨e, J, F, s, ds, e1, h1, fun Jt H1 J1 F1 s1 tr1 wd => ?_⟩
    refine ⟨fun i m σ2 H2 => m = ds.length - i ∧ i ≤ ds.length ∧ ∃ e2 J2 F2, SR X.K pn σ2 H2 e2 J2 F2 ∧ Tr J1 H1 F1 J2 H2 F2 ∧ gFor bd g (ds.drop i) e2 = .ok fl e', ⟨ds.length, by simp, Nat.zero_le _, e1, J1, F1, s1, .refl, by simpa using h2⟩, ?_⟩
    rintro i m σ2 H2 ⟨rfl, hle, e2, J2, F2, s2, tr2, h3⟩
    obtain ⟨l1, l2⟩ := tr2.later s1.jf
    by_cases hi : i < ds.length
    · refine .inr ⟨wd.go i J2 H2 l1 l2 hi, fun σ' H' => ∃ e2 J2 F2, SR X.K pn σ' H' e2 J2 F2 ∧ Tr J1 H1 F1 J2 H' F2 ∧ gFor bd g (ds.drop (i + 1)) e2 = .ok fl e', fun σ' H' hN => ⟨ds.length - (i + 1), by omega, rfl, hi, hN⟩, fun x H' hy => ?_⟩
      obtain ⟨J', n⟩ := wd.yld i J2 H2 x H' l1 l2 s2.jd hy ds[i] (by simp [hi])
      obtain ⟨s3, o3, tr3⟩ := n.sr s2
      have hd : ds.drop i = ds[i] :: ds.drop (i + 1) := List.drop_eq_getElem_cons hi
      rw [hd] at h3
      obtain ⟨_, e3, k1, k2⟩ := bnd_ok h3
      obtain ⟨y, e4, k3, k4⟩ := bnd_ok k2
      simp only [List.append_nil] at tr3
      have r3 : RD X.K J' H' x ds[i] := by
        cases o3.rt with
        | leaf r => exact r
      refine ⟨e2, J', F2, ds[i], s3, r3, e3, k1, fun σ4 H4 J4 F4 s4 tr4 _ => ?_⟩
      have tr24 := (tr2.trans tr3).trans tr4
      refine ⟨e3, J4, F4, s4, y, e4, k3, ?_⟩
      cases y with
      | nx => exact fun σ' H' J' F' s' tr' => ⟨e4, J', F', s', tr24.trans tr', k4⟩
      | ct => exact fun σ' H' J' F' s' tr' => ⟨e4, J', F', s', tr24.trans tr', k4⟩
      | bk => cases k4; exact fun σ' H' J' F' s' tr' => q σ' H' J' F' s' (tr1.trans (tr24.trans tr'))
      | rt t => cases k4; exact fun v σ' H' J' F' fp s' o tr' => q v σ' H' J' F' fp s' o (tr1.trans (tr24.trans tr'))
    · have e0 : i = ds.length := by omega
      subst e0
      rw [List.drop_length] at h3
      cases h3
      exact .inl ⟨wd.stop J2 H2 l1 l2, q σ2 H2 J2 F2 s2 (tr1.trans tr2)⟩
end
end IL

namespace IL
open PySem PySem.Spec PyProof.Rows L2
section
variable {K : PySem.W.Frag}
theorem new_pair {J : Addr → Prop} {H : Hp} {x y : V} {d1 d2 : D} {p : Addr} (r1 : RD K J H x d1) (r2 : RD K J H y d2) (jd : ∀ b, J b → H b ≠ none) (hp : H p = none) : ∃ J', New K J H J' (upd H p (.tup [x, y])) (.ref p) (.leaf (.tuple [d1, d2])) [] :=
  ⟨_, New.tuple (.cons r1 (.cons r2 .nil)) jd hp⟩
/-- what a Walk gives -/
theorem WD.of {Jt : It} {ds : List D} {J0 : Addr → Prop} {H0 : Hp} {G : Hp → Prop} {Y : Nat → Hp → V → Hp → Prop} (w : Walk Jt ds.length G Y)
    (hG : ∀ (J : Addr → Prop) (H : Hp), (∀ b, J0 b → J b) → Kp J0 H0 H → G H)
    (hY : ∀ (i : Nat) (J : Addr → Prop) (H : Hp) (x : V) (H' : Hp), (∀ b, J0 b → J b) → Kp J0 H0 H → (∀ b, J b → H b ≠ none) → Y i H x H' → ∀ d, ds[i]? = some d → ∃ J', New K J H J' H' x (.leaf d) []) : WD K Jt ds J0 H0 :=
  ⟨fun i J H h1 h2 hi => w.goes i H hi (hG J H h1 h2), fun J H h1 h2 => w.stops H (hG J H h1 h2), fun i J H x H' h1 h2 jd hy d hd => hY i J H x H' h1 h2 jd (w.yields i H x H' (List.getElem?_eq_some_iff.mp hd).1 (hG J H h1 h2) hy) d hd⟩
theorem wd_list {a : Addr} {xs : List V} {ds : List D} {J0 : Addr → Prop} {H0 : Hp} (j : J0 a) (p : H0 a = some (.lst xs)) (r : RDs K J0 H0 xs ds) : WD K (Itl K a) ds J0 H0 := by
  refine WD.of (G := fun H => SqL K H a xs) (Y := YAt xs) (by rw [← r.length]; exact walk_list) (fun J H h1 h2 => .inl (.inl (h2 _ _ (.inl j) p))) fun i J H x H' h1 h2 jd hy d hd => ?_
  obtain ⟨rfl, hx⟩ := hy
  obtain ⟨y, hy, ry⟩ := (r.mono h1 h2).get hd
  rw [hx] at hy
  cases hy
  exact ⟨J, New.same ry jd⟩
theorem wd_tup {a : Addr} {xs : List V} {ds : List D} {J0 : Addr → Prop} {H0 : Hp} (p : PT2 K H0 a xs) (r : RDs K J0 H0 xs ds) : WD K (Itt K a) ds J0 H0 := by
  refine WD.of (G := fun H => SqT K H a xs) (Y := YAt xs) (by rw [← r.length]; exact walk_tup) (fun J H h1 h2 => (p.mono h2).sq) fun i J H x H' h1 h2 jd hy d hd => ?_
  obtain ⟨rfl, hx⟩ := hy
  obtain ⟨y, hy, ry⟩ := (r.mono h1 h2).get hd
  rw [hx] at hy
  cases hy
  exact ⟨J, New.same ry jd⟩
def signs (z : Str) : List D := z.cps.toList.map fun c => .str ⟨#[c]⟩
theorem wd_str {z : Str} {J0 : Addr → Prop} {H0 : Hp} : WD K (Its z) (signs z) J0 H0 := by
  have hl : (signs z).length = z.cps.size := by simp [signs]
  refine WD.of (G := fun _ => True) (Y := fun i H v H' => H' = H ∧ ∃ c, z.cps[i]? = some c ∧ v = .str ⟨#[c]⟩) (by rw [hl]; exact walk_str) (fun _ _ _ _ => trivial) fun i J H x H' h1 h2 jd hy d hd => ?_
  obtain ⟨rfl, c, hc, rfl⟩ := hy
  have e : d = .str ⟨#[c]⟩ := by
    unfold signs at hd
    rw [List.getElem?_map, Array.getElem?_toList, hc] at hd
    exact (Option.some.inj hd).symm
  subst e
  exact ⟨J, New.same (.str _) jd⟩
def rangeL (lo : Int) (n : Nat) : List D := (List.range n).map fun i => .int (lo + (i : Nat))
theorem wd_range {lo : Int} {n : Nat} {J0 : Addr → Prop} {H0 : Hp} : WD K (Itr lo n) (rangeL lo n) J0 H0 := by
  have hl : (rangeL lo n).length = n := by simp [rangeL]
  refine WD.of (G := fun _ => True) (Y := YFn fun i => .int (lo + i)) (by rw [hl]; exact walk_range) (fun _ _ _ _ => trivial) fun i J H x H' h1 h2 jd hy d hd => ?_
  obtain ⟨rfl, rfl⟩ := hy
  have hi : i < n := by rw [← hl]; exact (List.getElem?_eq_some_iff.mp hd).1
  have e : d = .int (lo + (i : Nat)) := by
    unfold rangeL at hd
    rw [List.getElem?_map, List.getElem?_range hi] at hd
    exact (Option.some.inj hd).symm
  subst e
  exact ⟨J, New.same (.int _) jd⟩
def zipL : List D → List D → List D
  | x :: xs, y :: ys => .tuple [x, y] :: zipL xs ys
  | _, _ => []
theorem zipL_len : ∀ (xs ys : List D), (zipL xs ys).length = min xs.length ys.length
  | [], _ => by simp [zipL]
  | _ :: _, [] => by simp [zipL]
  | x :: xs, y :: ys => by simp [zipL, zipL_len xs ys]
theorem zipL_get : ∀ (xs ys : List D) (i : Nat) (d : D), (zipL xs ys)[i]? = some d → ∃ x y, xs[i]? = some x ∧ ys[i]? = some y ∧ d = .tuple [x, y]
  | [], _, _, _, h => by simp [zipL] at h
  | _ :: _, [], _, _, h => by simp [zipL] at h
  | x :: xs, y :: ys, 0, d, h => by simp [zipL] at h; exact ⟨x, y, by simp, by simp, h.symm⟩
  | x :: xs, y :: ys, i + 1, d, h => by
    obtain ⟨a, b, h1, h2, h3⟩ := zipL_get xs ys i d (by simpa [zipL] using h)
    exact ⟨a, b, by simpa using h1, by simpa using h2, h3⟩
theorem wd_zip {a b : Addr} {xs ys : List V} {ds es : List D} {J0 : Addr → Prop} {H0 : Hp} (j : J0 a) (p : H0 a = some (.lst xs)) (r : RDs K J0 H0 xs ds) (j' : J0 b) (p' : H0 b = some (.lst ys)) (r' : RDs K J0 H0 ys es) : WD K (Itz K a b) (zipL ds es) J0 H0 := by
  refine WD.of (G := fun H => SqL K H a xs ∧ SqL K H b ys) (Y := YPair (fun i => xs[i]?) (fun i => ys[i]?)) (walk_zip (by rw [zipL_len, r.length, r'.length])) (fun J H h1 h2 => ⟨.inl (.inl (h2 _ _ (.inl j) p)), .inl (.inl (h2 _ _ (.inl j') p'))⟩) fun i J H x H' h1 h2 jd hy d hd => ?_
  obtain ⟨T, x1, y1, rfl, nT, rfl, hx, hy⟩ := hy
  obtain ⟨d1, d2, e1, e2, rfl⟩ := zipL_get _ _ _ _ hd
  obtain ⟨v1, hv1, rv1⟩ := (r.mono h1 h2).get e1
  obtain ⟨v2, hv2, rv2⟩ := (r'.mono h1 h2).get e2
  cases (show xs[i]? = some x1 from hx).symm.trans hv1
  cases (show ys[i]? = some y1 from hy).symm.trans hv2
  exact new_pair rv1 rv2 jd nT
def enumL (n : Nat) : List D → List D
  | [] => []
  | x :: xs => .tuple [.int (n : Nat), x] :: enumL (n + 1) xs
theorem enumL_len : ∀ (xs : List D) (n : Nat), (enumL n xs).length = xs.length
  | [], _ => rfl
  | x :: xs, n => by simp [enumL, enumL_len xs]
theorem enumL_get : ∀ (xs : List D) (n i : Nat) (d : D), (enumL n xs)[i]? = some d → ∃ x, xs[i]? = some x ∧ d = .tuple [.int ((n + i : Nat)), x]
  | [], _, _, _, h => by simp [enumL] at h
  | x :: xs, n, 0, d, h => by simp [enumL] at h; exact ⟨x, by simp, h.symm⟩
  | x :: xs, n, i + 1, d, h => by
    obtain ⟨a, h1, h3⟩ := enumL_get xs (n + 1) i d (by simpa [enumL] using h)
    exact ⟨a, by simpa using h1, by rw [h3]; congr 3; omega⟩
theorem wd_enum {a : Addr} {xs : List V} {ds : List D} {J0 : Addr → Prop} {H0 : Hp} (j : J0 a) (p : H0 a = some (.lst xs)) (r : RDs K J0 H0 xs ds) : WD K (Ite K a) (enumL 0 ds) J0 H0 := by
  refine WD.of (G := fun H => SqL K H a xs) (Y := YPair (fun i => some (.int (i : Nat))) (fun i => xs[i]?)) (by rw [enumL_len, ← r.length]; exact walk_enum) (fun J H h1 h2 => .inl (.inl (h2 _ _ (.inl j) p))) fun i J H x H' h1 h2 jd hy d hd => ?_
  obtain ⟨T, x1, y1, rfl, nT, rfl, hx, hy⟩ := hy
  obtain ⟨d2, e2, rfl⟩ := enumL_get _ _ _ _ hd
  obtain ⟨v2, hv2, rv2⟩ := (r.mono h1 h2).get e2
  cases (show xs[i]? = some y1 from hy).symm.trans hv2
  cases hx
  rw [Nat.zero_add]
  exact new_pair (.int _) rv2 jd nT
end
section
variable {X : Cx} {pn : List (Nat × V)} {tg a b c : Expr} {p pos : Pos}
def seqD : D → Option (List D)
  | .list ds => some ds
  | .tuple ds => some ds
  | .str z => some (signs z)
  | _ => none
def gItr (f : M D) : M (List D) := bnd f fun d => opt (seqD d)
theorem ii_seq {f : M D} (h : PE X a (rdD X.K pn f)) : PI X tg a (rdI X.K pn (gItr f)) := by
  refine PI.weak (PI.or (pi_list h) (PI.or (pi_tup h) (pi_str h))) fun σ H R ⟨e, J, F, s, ds, e', h, q⟩ => ?_
  obtain ⟨d, e1, h1, h2⟩ := bnd_ok h
  obtain ⟨h3, rfl⟩ := opt_ok h2
  unfold seqD at h3
  split at h3
  · cases h3
    exact .inl ⟨e, J, F, s, _, _, h1, fun v H1 J1 F1 s1 r1 tr1 => by
      cases r1 with
      | lst j p r => exact ⟨_, rfl, ⟨_, .inl (.inl p)⟩, q _ H1 J1 F1 s1 tr1 (wd_list j p r)⟩⟩
  · cases h3
    exact .inr (.inl ⟨e, J, F, s, _, _, h1, fun v H1 J1 F1 s1 r1 tr1 => by
      cases r1 with
      | tup p r => exact ⟨_, rfl, ⟨_, p.sq⟩, q _ H1 J1 F1 s1 tr1 (wd_tup p r)⟩⟩)
  · cases h3
    exact .inr (.inr ⟨e, J, F, s, _, _, h1, fun v H1 J1 F1 s1 r1 tr1 => by
      cases r1
      exact ⟨_, rfl, q _ H1 J1 F1 s1 tr1 wd_str⟩⟩)
  · cases h3
def far (i : Int) : Bool := decide (-(2 ^ 62) ≤ i ∧ i < 2 ^ 62)
theorem far_of {i : Int} (h : far i = true) : -(2 ^ 62) ≤ i ∧ i < 2 ^ 62 := of_decide_eq_true (p := -(2 ^ 62) ≤ i ∧ i < 2 ^ 62) h
def rng1 : List D → Option (List D)
  | [.int j] => if far j then some (rangeL 0 j.toNat) else none
  | _ => none
def rng2 : List D → Option (List D)
  | [.int i, .int j] => if far i && far j then some (rangeL i (j - i).toNat) else none
  | _ => none
def gRng (g : List D → Option (List D)) (f : M (List D)) : M (List D) := bnd f fun ds => opt (g ds)
theorem ii_rng1 {f : M (List D)} (hg : Gl X "range") (hm : X.mg "range" = none) (h : PA X [a] (rdDs X.K pn f)) (hs : starEach [a] X.env = [(false, eval a X.env)]) : PI X tg (.Call (.Name "range" p) [a] [] pos) (rdI X.K pn (gRng rng1 f)) := by
  refine PI.weak (pi_range1 hg hm h hs) fun σ H R ⟨e, J, F, s, ds, e', h, q⟩ => ?_
  obtain ⟨d, e1, h1, h2⟩ := bnd_ok h
  obtain ⟨h3, rfl⟩ := opt_ok h2
  unfold rng1 at h3
  split at h3
  · split at h3
    · rename_i j hj
      cases h3
      refine ⟨e, J, F, s, _, _, h1, fun v H1 J1 F1 s1 r1 tr1 => ?_⟩
      obtain ⟨w, rfl, r⟩ := r1.one
      cases r
      exact ⟨j, rfl, (far_of hj).1, (far_of hj).2, q _ H1 J1 F1 s1 tr1 wd_range⟩
    · cases h3
  · cases h3
theorem ii_rng2 {f : M (List D)} (hg : Gl X "range") (hm : X.mg "range" = none) (h : PA X [a, b] (rdDs X.K pn f)) (hs : starEach [a, b] X.env = [(false, eval a X.env), (false, eval b X.env)]) (hs2 : starEach [b] X.env = [(false, eval b X.env)]) : PI X tg (.Call (.Name "range" p) [a, b] [] pos) (rdI X.K pn (gRng rng2 f)) := by
  refine PI.weak (pi_range2 hg hm h hs hs2) fun σ H R ⟨e, J, F, s, ds, e', h, q⟩ => ?_
  obtain ⟨d, e1, h1, h2⟩ := bnd_ok h
  obtain ⟨h3, rfl⟩ := opt_ok h2
  unfold rng2 at h3
  split at h3
  · split at h3
    · rename_i i j hj
      cases h3
      simp only [Bool.and_eq_true] at hj
      refine ⟨e, J, F, s, _, _, h1, fun v H1 J1 F1 s1 r1 tr1 => ?_⟩
      obtain ⟨w, w2, rfl, r, r2⟩ := r1.two
      cases r; cases r2
      exact ⟨i, j, rfl, ⟨(far_of hj.1).1, (far_of hj.1).2, (far_of hj.2).1, (far_of hj.2).2⟩, q _ H1 J1 F1 s1 tr1 wd_range⟩
    · cases h3
  · cases h3
def zip2 : List D → Option (List D)
  | [.list xs, .list ys] => some (zipL xs ys)
  | [.tuple xs, .tuple ys] => some (zipL xs ys)
  | _ => none
theorem wd_zipT {K : PySem.W.Frag} {a b : Addr} {xs ys : List V} {ds es : List D} {J0 : Addr → Prop} {H0 : Hp} (p : PT2 K H0 a xs) (r : RDs K J0 H0 xs ds) (p' : PT2 K H0 b ys) (r' : RDs K J0 H0 ys es) : WD K (RZ.ItzT K a b) (zipL ds es) J0 H0 := by
  refine ⟨fun i J H h1 h2 hi => ?_, fun J H h1 h2 => ?_, fun i J H x H' h1 h2 jd hy d hd => ?_⟩
  · rw [zipL_len, ← r.length, ← r'.length] at hi
    have ha : i < xs.length := by omega
    have hb : i < ys.length := by omega
    exact ⟨xs, ys, xs[i], ys[i], (p.mono h2).sq, (p'.mono h2).sq, by simp [ha], by simp [hb]⟩
  · refine ⟨xs, ys, (p.mono h2).sq, (p'.mono h2).sq, ?_⟩
    rw [zipL_len, ← r.length, ← r'.length]
    omega
  · obtain ⟨T, x1, y1, rfl, nT, rfl, hx, hy⟩ := hy
    obtain ⟨d1, d2, e1, e2, rfl⟩ := zipL_get _ _ _ _ hd
    obtain ⟨v1, hv1, rv1⟩ := (r.mono h1 h2).get e1
    obtain ⟨v2, hv2, rv2⟩ := (r'.mono h1 h2).get e2
    cases (hx _ (p.mono h2).sq).symm.trans hv1
    cases (hy _ (p'.mono h2).sq).symm.trans hv2
    exact new_pair rv1 rv2 jd nT
theorem ii_zip {f : M (List D)} {elts : List Expr} {kk : Nat} {tpos : Pos} (hg : Gl X "zip") (hm : X.mg "zip" = none) (h : PA X [a, b] (rdDs X.K pn f)) (hs : starEach [a, b] X.env = [(false, eval a X.env), (false, eval b X.env)]) (hs2 : starEach [b] X.env = [(false, eval b X.env)]) :
    PI X (.Tuple elts kk tpos) (.Call (.Name "zip" p) [a, b] [] pos) (rdI X.K pn (gRng zip2 f)) := by
  have hs1 : starEach [a, b] X.env = (false, eval a X.env) :: starEach [b] X.env := by rw [hs, hs2]
  refine PI.weak (RZ.pi_zipA hg hm h hs1 (by rw [hs2]; rfl)) fun σ H R ⟨e, J, F, s, ds, e', h, q⟩ => ?_
  obtain ⟨d, e1, h1, h2⟩ := bnd_ok h
  obtain ⟨h3, rfl⟩ := opt_ok h2
  unfold zip2 at h3
  split at h3
  · cases h3
    refine ⟨e, J, F, s, _, _, h1, fun v H1 J1 F1 s1 r1 tr1 => ?_⟩
    obtain ⟨w, w2, rfl, r, r2⟩ := r1.two
    cases r with
    | lst j p r => cases r2 with
      | lst j' p' r' => exact ⟨_, _, _, _, rfl, .inl ⟨.inl (.inl p), .inl (.inl p'), q _ H1 J1 F1 s1 tr1 (wd_zip j p r j' p' r')⟩⟩
  · cases h3
    refine ⟨e, J, F, s, _, _, h1, fun v H1 J1 F1 s1 r1 tr1 => ?_⟩
    obtain ⟨w, w2, rfl, r, r2⟩ := r1.two
    cases r with
    | tup p r => cases r2 with
      | tup p' r' => exact ⟨_, _, _, _, rfl, .inr ⟨p.sq, p'.sq, q _ H1 J1 F1 s1 tr1 (wd_zipT p r p' r')⟩⟩
  · cases h3
def enum1 : List D → Option (List D)
  | [.list xs] => some (enumL 0 xs)
  | _ => none
theorem ii_enum {f : M (List D)} {elts : List Expr} {kk : Nat} {tpos : Pos} (hg : Gl X "enumerate") (hm : X.mg "enumerate" = none) (h : PA X [a] (rdDs X.K pn f)) (hs : starEach [a] X.env = [(false, eval a X.env)]) :
    PI X (.Tuple elts kk tpos) (.Call (.Name "enumerate" p) [a] [] pos) (rdI X.K pn (gRng enum1 f)) := by
  refine PI.weak (pi_enum hg hm h hs) fun σ H R ⟨e, J, F, s, ds, e', h, q⟩ => ?_
  obtain ⟨d, e1, h1, h2⟩ := bnd_ok h
  obtain ⟨h3, rfl⟩ := opt_ok h2
  unfold enum1 at h3
  split at h3
  · cases h3
    refine ⟨e, J, F, s, _, _, h1, fun v H1 J1 F1 s1 r1 tr1 => ?_⟩
    obtain ⟨w, rfl, r⟩ := r1.one
    cases r with
    | lst j p r => exact ⟨_, _, rfl, .inl (.inl p), q _ H1 J1 F1 s1 tr1 (wd_enum j p r)⟩
  · cases h3

/-! ### comprehensions -/
def wipeE (e : En) : List Nat → En
  | [] => e
  | v :: vs => (wipeE e vs).set v none
theorem SR.wipe {K : PySem.W.Frag} {σ : L2.St} {H : Hp} {e : En} {J : Addr → Prop} {F : List Addr} (s : SR K pn σ H e J F) : ∀ (vs : List Nat), (∀ p ∈ pn, p.1 ∉ vs) → ∃ F', SR K pn (L2.wipe σ vs) H (wipeE e vs) J F' ∧ ∀ b ∈ F', b ∈ F
  | [], _ => ⟨F, s, fun _ h => h⟩
  | v :: vs, hp => by
    obtain ⟨F1, s1, h1⟩ := SR.wipe s vs fun p hpp z => hp p hpp (List.mem_cons_of_mem _ z)
    obtain ⟨F2, s2, h2⟩ := s1.clear v none fun p hpp z => hp p hpp (by rw [z]; exact List.mem_cons_self)
    exact ⟨F2, s2, fun b hb => h1 b (h2 b hb)⟩
theorem wipe_get {σ : L2.St} {i : Nat} : ∀ {vs : List Nat}, i ∉ vs → (L2.wipe σ vs)[i]? = σ[i]?
  | [], _ => rfl
  | v :: vs, h => by
    unfold L2.wipe
    rw [List.getElem?_set_ne (fun z => h (by simp [z])), wipe_get fun z => h (List.mem_cons_of_mem _ z)]
theorem wipe_in {σ : L2.St} {i : Nat} : ∀ {vs : List Nat}, i ∈ vs → i < σ.length → (L2.wipe σ vs)[i]? = some none
  | [], h, _ => by cases h
  | v :: vs, h, hl => by
    unfold L2.wipe
    by_cases e : v = i
    · subst e
      rw [List.getElem?_set_self (by rw [wipe_length]; exact hl)]
    · rw [List.getElem?_set_ne e]
      exact wipe_in ((List.mem_cons.mp h).resolve_left fun z => e z.symm) hl
theorem wipe_eq {σ σ' : L2.St} {ws vs : List Nat} (sm : Sm ws (L2.wipe σ vs) σ') (hw : ∀ i ∈ ws, i ∈ vs) : L2.wipe σ' vs = L2.wipe σ vs := by
  have hl : σ'.length = σ.length := by rw [sm.1, wipe_length]
  apply List.ext_getElem?
  intro i
  by_cases hi : i ∈ vs
  · by_cases hlt : i < σ.length
    · rw [wipe_in hi (by rw [hl]; exact hlt), wipe_in hi hlt]
    · rw [List.getElem?_eq_none (by rw [wipe_length]; omega), List.getElem?_eq_none (by rw [wipe_length]; omega)]
  · rw [wipe_get hi, sm.2 i fun z => hi (hw i z)]
theorem RE.unwipe {K : PySem.W.Frag} {J : Addr → Prop} {H : Hp} {F : List Addr} {σ σ' : L2.St} {e : En} (r : RE K J H σ e F) : σ'.length = σ.length → (∀ i : Nat, e[i]? ≠ some none → σ'[i]? = σ[i]?) → RE K J H σ' e F := by
  intro h1 h2
  induction r generalizing σ' with
  | nil =>
    cases σ' with
    | nil => exact .nil
    | cons a l => simp at h1
  | out r ih =>
    cases σ' with
    | nil => simp at h1
    | cons a l => exact .out (ih (by simpa using h1) fun i hi => by have := h2 (i + 1) (by simpa using hi); simpa using this)
  | held q r ih =>
    cases σ' with
    | nil => simp at h1
    | cons a l =>
      have h0 := h2 0 (by simp)
      simp at h0
      subst h0
      exact .held q (ih (by simpa using h1) fun i hi => by have := h2 (i + 1) (by simpa using hi); simpa using this)
theorem wipeE_len (e : En) : ∀ ws : List Nat, (wipeE e ws).length = e.length
  | [] => rfl
  | a :: l => by unfold wipeE; rw [List.length_set, wipeE_len e l]
theorem wipeE_get {e : En} {i : Nat} : ∀ {vs : List Nat}, i ∈ vs → i < e.length → (wipeE e vs)[i]? = some none
  | [], h, _ => by cases h
  | v :: vs, h, hl => by
    unfold wipeE
    by_cases q : v = i
    · subst q
      rw [List.getElem?_set_self (by rw [wipeE_len]; exact hl)]
    · rw [List.getElem?_set_ne q]
      exact wipeE_get ((List.mem_cons.mp h).resolve_left fun z => q z.symm) hl
theorem wipeE_out {e : En} {i : Nat} : ∀ {vs : List Nat}, i ∉ vs → (wipeE e vs)[i]? = e[i]?
  | [], _ => rfl
  | v :: vs, h => by
    unfold wipeE
    rw [List.getElem?_set_ne (fun z => h (by simp [z])), wipeE_out fun z => h (List.mem_cons_of_mem _ z)]
theorem wipeE_idem (e : En) (vs : List Nat) : wipeE (wipeE e vs) vs = wipeE e vs := by
  apply List.ext_getElem?
  intro i
  by_cases hi : i ∈ vs
  · by_cases hlt : i < e.length
    · rw [wipeE_get hi (by rw [wipeE_len]; exact hlt), wipeE_get hi hlt]
    · rw [List.getElem?_eq_none (by rw [wipeE_len, wipeE_len]; omega), List.getElem?_eq_none (by rw [wipeE_len]; omega)]
  · rw [wipeE_out hi]
/-- behind a block: the block's own slots are forgotten, the frame's stand as they did -/
theorem SR.unwipe {K : PySem.W.Frag} {σ : L2.St} {H : Hp} {e : En} {J : Addr → Prop} {F : List Addr} {vs : List Nat} (s : SR K pn (L2.wipe σ vs) H e J F) (hp : ∀ p ∈ pn, p.1 ∉ vs) : ∃ F', SR K pn σ H (wipeE e vs) J F' ∧ ∀ b ∈ F', b ∈ F := by
  obtain ⟨F', s', h⟩ := s.wipe vs hp
  have hl : σ.length = e.length := by
    have := s.re.length
    rw [wipe_length] at this
    exact this
  refine ⟨F', ⟨s'.re.unwipe (by rw [wipe_length, wipe_length]) fun i hi => ?_, s'.nd, s'.jf, s'.jd, fun p hpp => ?_⟩, h⟩
  · by_cases hv : i ∈ vs
    · by_cases hlt : i < e.length
      · exact absurd (wipeE_get hv hlt) hi
      · rw [List.getElem?_eq_none (by omega), List.getElem?_eq_none (by rw [wipe_length, wipe_length]; omega)]
    · rw [wipe_get hv, wipe_get hv]
  · have := s'.pin p hpp
    rwa [wipe_get (hp p hpp), wipe_get (hp p hpp)] at this
def wipeM (vs : List Nat) : M Unit := fun e => .ok () (wipeE e vs)
def gLc (vs : List Nat) (bd : D → M Unit) (tt : M Bool) (el : M D) : List D → List D → M T
  | [], acc => bnd (wipeM vs) fun _ => ret (.lst (acc.map .leaf))
  | d :: ds, acc => bnd (wipeM vs) fun _ => bnd (bd d) fun _ => bnd tt fun b => if b then bnd el fun x => if acc.length < most then gLc vs bd tt el ds (acc ++ [x]) else bad else gLc vs bd tt el ds acc
theorem gLc_wiped (vs : List Nat) (bd : D → M Unit) (tt : M Bool) (el : M D) (rest acc : List D) (e : En) : gLc vs bd tt el rest acc (wipeE e vs) = gLc vs bd tt el rest acc e := by
  cases rest with
  | nil =>
    show Res.ok _ (wipeE (wipeE e vs) vs) = Res.ok _ (wipeE e vs)
    rw [wipeE_idem]
  | cons d ds =>
    unfold gLc
    show bnd (bd d) _ (wipeE (wipeE e vs) vs) = bnd (bd d) _ (wipeE e vs)
    rw [wipeE_idem]
/-- a list aside gets a new item -/
theorem SR.asideSet {K : PySem.W.Frag} {σ : L2.St} {H : Hp} {e : En} {J : Addr → Prop} {F : List Addr} (s : SR K pn σ H e J F) {p : Addr} {u : HO} (hF : p ∉ F) (hJ : ¬ J p) (hd : ∃ l, H p = some (.lst l)) :
    SR K pn σ (upd H p u) e J F ∧ Tr J H (F ++ [p]) J (upd H p u) (F ++ [p]) := by
  have dm : ∀ b, H b ≠ none → upd H p u b ≠ none := fun b q => by
    by_cases hb : b = p
    · subst hb; rw [upd_same]; exact fun z => nomatch z
    · rw [upd_ne hb]; exact q
  have nt : ∀ b xs, H b = some (.tup xs) → upd H p u b = some (.tup xs) := fun b xs q => by
    obtain ⟨l, hl⟩ := hd
    rw [upd_ne (fun w => by subst w; rw [hl] at q; cases q)]; exact q
  refine ⟨s.step (fun _ j => j) (fun b o z q => ?_) (fun b z => dm b (s.jd b z)) s.jf, ⟨fun b o q hb => ?_, dm, fun _ j => j, fun b hb => .inl hb, fun b z => .inl z, fun b xs q => nt b xs q⟩⟩
  · rcases z with z | z | ⟨xs, rfl⟩
    · rw [upd_ne (fun w => by subst w; exact hJ z)]; exact q
    · rw [upd_ne (fun w => by subst w; exact hF z)]; exact q
    · exact nt b xs q
  · rw [upd_ne (fun w => hb (by rw [w]; exact List.mem_append_right _ (List.mem_singleton.mpr rfl)))]; exact q
theorem tLc_rd {K : PySem.W.Frag} {ws vs : List Nat} {f : M (List D)} {bd : D → M Unit} {tt : M Bool} {el : M D} (hp : ∀ p ∈ pn, p.1 ∉ vs) (hw : ∀ i ∈ ws, i ∈ vs) {σ : L2.St} {H : Hp} {Q : VK}
    (h : rdE K pn (bnd f fun ds => gLc vs bd tt el ds []) σ H Q) : tLc (rdI K pn f) (rdG K pn ws bd) (rdT K pn tt) (rdD K pn el) vs σ H Q := by
  obtain ⟨e, J, F, s, t, e', h, q⟩ := h
  obtain ⟨ds, e1, h1, h2⟩ := bnd_ok h
  refine ⟨e, J, F, s, ds, e1, h1, fun Jt H1 J1 F1 s1 tr1 wd P hP => ?_⟩
  obtain ⟨s1', trP, nF, nJ⟩ := s1.laid (o := .lst []) hP
  have ndP : ∀ {F2 : List Addr}, F2.Nodup → P ∉ F2 → (F2 ++ [P]).Nodup := fun h1 h2 => List.nodup_append.mpr ⟨h1, by simp, fun x hx y hy z => by simp at hy; subst hy; subst z; exact h2 hx⟩
  obtain ⟨Fw, sw, hFw⟩ := s1'.wipe vs hp
  -- the state between two turns: the frame's slots as they were, but for those of the block
  refine ⟨fun i m H2 => m = ds.length - i ∧ i ≤ ds.length ∧ ∃ e2 J2 F2 acc xs, SR K pn (L2.wipe σ vs) H2 e2 J2 F2 ∧ Tr J1 H1 F1 J2 H2 (F2 ++ [P]) ∧ P ∉ F2 ∧ ¬ J2 P ∧ H2 P = some (.lst xs) ∧ RDs K J2 H2 xs acc ∧ gLc vs bd tt el (ds.drop i) acc e2 = .ok t e',
    ⟨ds.length, by simp, Nat.zero_le _, wipeE e1 vs, J1, Fw, [], [], sw, trP.trans (Tr.sub fun b hb => by
      rcases List.mem_append.mp hb with z | z
      · exact List.mem_append_left _ (hFw b z)
      · exact List.mem_append_right _ z), fun z => nF (hFw _ z), nJ, upd_same, .nil, ?_⟩, ?_⟩
  · rw [gLc_wiped]
    simpa using h2
  · rintro i m H2 ⟨rfl, hle, e2, J2, F2, acc, xs, s2, tr2, nF2, nJ2, hH, rds, h3⟩
    have later : (∀ b, J1 b → J2 b) ∧ Kp J1 H1 H2 := tr2.later s1.jf
    by_cases hi : i < ds.length
    · refine .inr ⟨wd.go i J2 H2 later.1 later.2 hi, fun H' => ∃ e2 J2 F2 acc xs, SR K pn (L2.wipe σ vs) H' e2 J2 F2 ∧ Tr J1 H1 F1 J2 H' (F2 ++ [P]) ∧ P ∉ F2 ∧ ¬ J2 P ∧ H' P = some (.lst xs) ∧ RDs K J2 H' xs acc ∧ gLc vs bd tt el (ds.drop (i + 1)) acc e2 = .ok t e',
        fun H' hN => ⟨ds.length - (i + 1), by omega, rfl, hi, hN⟩, fun x H' hy => ?_⟩
      obtain ⟨J', n⟩ := wd.yld i J2 H2 x H' later.1 later.2 s2.jd hy ds[i] (by simp [hi])
      obtain ⟨s3, o3, tr3⟩ := n.sr s2
      simp only [List.append_nil] at tr3
      have hd : ds.drop i = ds[i] :: ds.drop (i + 1) := List.drop_eq_getElem_cons hi
      rw [hd] at h3
      unfold gLc at h3
      obtain ⟨_, e3, k1, k2⟩ := bnd_ok h3
      cases k1
      obtain ⟨_, e4, k3, k4⟩ := bnd_ok k2
      obtain ⟨b, e5, k5, k6⟩ := bnd_ok k4
      have r3 : RD K J' H' x ds[i] := by
        cases o3.rt with
        | leaf r => exact r
      -- the list aside, carried along
      have oP : Own K J2 H2 F2 (.ref P) (.lst (acc.map .leaf)) [P] := ⟨.lst hH (RTs.leaves rds), ndP s2.nd nF2, fun a ha => by simp at ha; subst ha; exact nJ2⟩
      obtain ⟨Fw3, sw3, hw3⟩ := s3.wipe vs hp
      have ww2 : L2.wipe (L2.wipe σ vs) vs = L2.wipe σ vs := wipe_eq (ws := []) .refl (fun _ h => nomatch h)
      rw [ww2] at sw3
      have trw : Tr J2 H2 F2 J' H' Fw3 := tr3.trans (Tr.sub hw3)
      refine ⟨wipeE e2 vs, J', Fw3, ds[i], sw3, r3, e4, k3, fun σ4 H4 J4 F4 s4 tr4 sm4 => ⟨wipe_eq sm4 hw, ?_⟩⟩
      refine ⟨e4, J4, F4, s4, b, e5, k5, fun H5 J5 F5 s5 tr5 => ?_⟩
      have back : ∀ {H6 : Hp} {J6 : Addr → Prop} {F6 : List Addr} {e6 : En}, SR K pn σ4 H6 e6 J6 F6 → ∃ F7, SR K pn (L2.wipe σ vs) H6 (wipeE e6 vs) J6 F7 ∧ ∀ b ∈ F7, b ∈ F6 := fun s6 => by
        obtain ⟨F7, s7, h7⟩ := s6.wipe vs hp
        rw [wipe_eq sm4 hw] at s7
        exact ⟨F7, s7, h7⟩
      have tr25 : Tr J2 H2 F2 J5 H5 F5 := (trw.trans tr4).trans tr5
      cases b with
      | false =>
        simp only [Bool.false_eq_true, if_false] at k6 ⊢
        obtain ⟨F7, s7, h7⟩ := back s5
        have o5 := oP.step tr25 s2.jf s5.nd
        obtain ⟨hP5, nP5, nJ5⟩ : H5 P = some (.lst xs) ∧ P ∉ F5 ∧ ¬ J5 P := ⟨tr25.keep P _ hH nF2, not_both o5.nd (List.mem_singleton.mpr rfl), o5.jf _ (List.mem_singleton.mpr rfl)⟩
        refine ⟨wipeE e5 vs, J5, F7, acc, xs, s7, (tr2.trans tr25.aside).trans (Tr.sub fun b hb => ?_), fun z => nP5 (h7 _ z), nJ5, hP5, rds.step tr25 s2.jf, by rw [gLc_wiped]; exact k6⟩
        rcases List.mem_append.mp hb with z | z
        · exact List.mem_append_left _ (h7 b z)
        · exact List.mem_append_right _ z
      | true =>
        simp only [if_true] at k6 ⊢
        obtain ⟨y, e6, k7, k8⟩ := bnd_ok k6
        split at k8
        · rename_i hz
          refine ⟨e5, J5, F5, s5, y, e6, k7, fun w H6 J6 F6 s6 r6 tr6 => ?_⟩
          have tr26 := tr25.trans tr6
          have o6 := oP.step tr26 s2.jf s6.nd
          obtain ⟨hP6, nP6, nJ6⟩ : H6 P = some (.lst xs) ∧ P ∉ F6 ∧ ¬ J6 P := ⟨tr26.keep P _ hH nF2, not_both o6.nd (List.mem_singleton.mpr rfl), o6.jf _ (List.mem_singleton.mpr rfl)⟩
          have rds6 := rds.step tr26 s2.jf
          refine ⟨xs, hP6, by rw [rds6.length]; exact most_lt (Nat.le_of_lt hz), ?_⟩
          obtain ⟨s7, tr7⟩ := s6.asideSet (u := .lst (xs ++ [w])) nP6 nJ6 ⟨_, hP6⟩
          obtain ⟨F8, s8, h8⟩ := back s7
          have mv : ∀ b o, J6 b → H6 b = some o → upd H6 P (.lst (xs ++ [w])) b = some o := fun b o j q => by rw [upd_ne (show b ≠ P from fun z => by subst z; exact nJ6 j)]; exact q
          refine ⟨wipeE e6 vs, J6, F8, acc ++ [y], xs ++ [w], s8, ((tr2.trans tr26.aside).trans tr7).trans (Tr.sub fun b hb => ?_), fun z => nP6 (h8 _ z), nJ6, upd_same, (rds6.append (.cons r6 .nil)).mono (fun _ j => j) fun b o z q => z.elim (fun j => mv b o j q) fun ⟨_, z⟩ => by subst z; exact tr7.tups b _ q, by rw [gLc_wiped]; exact k8⟩
          rcases List.mem_append.mp hb with z | z
          · exact List.mem_append_left _ (h8 b z)
          · exact List.mem_append_right _ z
        · cases k8
    · have e0 : i = ds.length := by omega
      subst e0
      rw [List.drop_length] at h3
      unfold gLc at h3
      obtain ⟨_, e3, k1, k2⟩ := bnd_ok h3
      cases k1
      cases k2
      obtain ⟨F7, s7, h7⟩ := s2.unwipe hp
      refine .inl ⟨wd.stop J2 H2 later.1 later.2, q _ H2 J2 F7 [P] s7 ⟨.lst hH (RTs.leaves rds), ndP s7.nd fun z => nF2 (h7 _ z), fun a ha => by simp at ha; subst ha; exact nJ2⟩ ?_⟩
      refine (tr1.trans tr2).trans (Tr.sub fun b hb => ?_)
      rcases List.mem_append.mp hb with z | z
      · exact List.mem_append_left _ (h7 b z)
      · exact List.mem_append_right _ z
end
end IL

namespace IL
open PySem PySem.Spec PyProof.Rows L2

/-! ### a def's promise where no repr is under way -/
structure FnG (P : Program) (w : World) (K : PySem.W.Frag) (mg : Str → Option Value) (base : Heap) (CX : CXT) (k : Nat) (f : Addr) (fd : FuncData) (ps : List Str) (sp : Sp) : Prop where
  len : ∀ vs H Q E, sp vs H Q E → vs.length = ps.length
  run : ∀ (B : Around) (around : List PySem.Env) (s : Shared) (H : Hp) (args : Args) (us : List Value) (vs : List V) (Q : VK) (E : XK), Room k B → B.guards = some [] → Env0 P w K mg base B around s H → BindsTo s fd args (ps.zip us) → Vals vs us → sp vs H Q E →
    codeAny (model P w) B (.call (.ref f) args) (CR CX around P w H s Q E) s
theorem FnG.mono {P : Program} {w : World} {K : PySem.W.Frag} {mg : Str → Option Value} {base : Heap} {CX : CXT} {j k : Nat} {f : Addr} {fd : FuncData} {ps : List Str} {sp : Sp} (G : FnG P w K mg base CX j f fd ps sp) (h : j ≤ k) :
    FnG P w K mg base CX k f fd ps sp := ⟨G.len, fun B o s H args us vs Q E hr => G.run B o s H args us vs Q E (hr.mono h)⟩
theorem FnG.imp {P : Program} {w : World} {K : PySem.W.Frag} {mg : Str → Option Value} {base : Heap} {CX : CXT} {k : Nat} {f : Addr} {fd : FuncData} {ps : List Str} {sp sp' : Sp} (G : FnG P w K mg base CX k f fd ps sp)
    (h : ∀ vs H Q E, sp' vs H Q E → sp vs H Q E) : FnG P w K mg base CX k f fd ps sp' :=
  ⟨fun vs H Q E q => G.len vs H Q E (h _ _ _ _ q), fun B o s H args us vs Q E hr hg he hb hv hs => G.run B o s H args us vs Q E hr hg he hb hv (h _ _ _ _ hs)⟩
section
variable {X : Cx} {CX : CXT} {k : Nat} {f : Addr} {fd : FuncData} {ps : List Str} {sp : Sp} {dvs : List V} {ds : List Value} {E : XK} {x : Str} {p pos : Pos} {e : Expr} {es : List Expr} {t : TA}
theorem runG {pins : List (Addr × Obj)} {σ : L2.St} {H : Hp} {s : Shared} {Q : VK} {us : List Value} {vs : List V} (G : FnG X.prog X.w X.K X.mg X.base CX k f fd ps sp) (hr : Room k X.A) (hgd : X.A.guards = some []) (hb : Binds X.K fd ps ds) (hd : Vals dvs ds) (hx : Passes CX X E)
    (I : Inv X pins σ H s) (r : Vals vs us) (h : sp (vs ++ dvs) H Q E) : wpAny (model X.prog X.w) X.A (call (.ref f) us) (EP X pins σ Q) X.xe s := by
  have rv : Vals (vs ++ dvs) (us ++ ds) := r.append hd
  have hlen : (us ++ ds).length = ps.length := rv.length.symm.trans (G.len _ _ _ _ h)
  have hc := G.run X.A X.stack s H ⟨us, []⟩ (us ++ ds) (vs ++ dvs) Q E hr hgd I.env0 (hb s us I.kIn hlen) rv h
  refine wpAny_call (codeAny_mono hc fun res s' hq => ?_)
  match res, hq with
  | .error er, hq => exact hx pins σ H s er s' I hq
  | .ok (.ret u), hq => exact I.after hq
  | .ok .next, hq => exact hq.elim
  | .ok .brk, hq => exact hq.elim
  | .ok .cont, hq => exact hq.elim
theorem pe_callG (G : FnG X.prog X.w X.K X.mg X.base CX k f fd ps sp) (hr : Room k X.A) (hgd : X.A.guards = some []) (hg : Gl X x) (hm : X.mg x = some (.ref f)) (hk : PySem.W.keepIn X.K (.ref f) = true) (hb : Binds X.K fd ps ds) (hd : Vals dvs ds) (hx : Passes CX X E)
    (ha : PA X (e :: es) t) (hdb : (x == ("__debug__" : Str)) = false) (he : starEach (e :: es) X.env = (false, eval e X.env) :: starEach es X.env) (hpl : (backTo pos (starEach es X.env)).any (·.1) = false) :
    PE X (.Call (.Name x p) (e :: es) [] pos) (tCall sp dvs E t) := by
  refine ⟨fun pins s σ H Q I h => wpAny_Call_Name_kw (ld_glob I hg hm ?_ hdb)⟩
  refine PySem.W.callWith_K (h₀ := X.base) I.ok.mod.kin hk ?_ he hpl
  refine thn (ha.run pos pins s σ H _ I h) ?_
  rintro us s1 ⟨vs, H1, I1, r, q⟩
  exact ⟨I1.kIn, runG G hr hgd hb hd hx I1 r q⟩
theorem pe_callG0 (G : FnG X.prog X.w X.K X.mg X.base CX k f fd ps sp) (hr : Room k X.A) (hgd : X.A.guards = some []) (hg : Gl X x) (hm : X.mg x = some (.ref f)) (hk : PySem.W.keepIn X.K (.ref f) = true) (hb : Binds X.K fd ps ds) (hd : Vals dvs ds) (hx : Passes CX X E)
    (hdb : (x == ("__debug__" : Str)) = false) : PE X (.Call (.Name x p) [] [] pos) (tCall sp dvs E tNil) := by
  refine ⟨fun pins s σ H Q I h => wpAny_Call_Name_kw (ld_glob I hg hm ?_ hdb)⟩
  exact PySem.W.callWith_K0 I.kIn hk (runG (us := []) G hr hgd hb hd hx I .nil h)
end
/-- a def as it stands, defaults or none -/
structure FunQ (K : PySem.W.Frag) (x qual : Str) (st : Stmt) (f : Addr) (fd : FuncData) : Prop where
  ex : ∃ (oc : Value) (od : Option Addr) (dV kV doc pm : Value) (an : Option Addr) (cdv ct : Value) (osl : Array (Option Value)),
    fd = PySem.W.fnOf x qual (defArgs st) (defBody st) (defScope st) dV kV doc pm an cdv ct ∧ K.lookup f = some ⟨oc, od, .func fd, osl⟩ ∧ PySem.W.codeIn K cdv qual = true
  kp : PySem.W.keepIn K (.ref f) = true
theorem FunQ.of {K : PySem.W.Frag} {x qual : Str} {st : Stmt} {f : Addr} {fd : FuncData} (F : L2.Fun K x qual st f fd) : FunQ K x qual st f fd := by
  obtain ⟨oc, od, kV, doc, pm, an, cdv, ct, osl, h1, h2, h3⟩ := F.ex
  exact ⟨⟨oc, od, _, kV, doc, pm, an, cdv, ct, osl, h1, h2, h3⟩, F.kp⟩
/-- a def by its body -/
theorem fnG_of {CX : CXT} {P : Program} {w : World} {K : PySem.W.Frag} {mg : Str → Option Value} {base : Heap} {k : Nat} {f : Addr} {x qual : Str} {st : Stmt} {fd : FuncData} {N ps : List Str} {sp : Sp}
    (F : FunQ K x qual st f fd) (S : FnScope N ps (defScope st)) (len : ∀ vs H Q E, sp vs H Q E → vs.length = ps.length)
    (hbody : ∀ (cdv : Value) (B : Around) (around : List PySem.Env) (s : Shared) (H : Hp) (vs : List V) (Q : VK) (E : XK), Room k (B.deeper (envOfC qual (defScope st) s.heap.objs.size f cdv)) → (B.deeper (envOfC qual (defScope st) s.heap.objs.size f cdv)).guards = some [] → sp vs H Q E →
      ∃ t, PSs (cxOf CX P w K mg base N qual (defScope st) f cdv B around s H E) (defBody st) t ∧ t { nx := fun _ H' => Q .non H', rt := Q } (start N vs) H) : FnG P w K mg base CX (k + 1) f fd ps sp := by
  obtain ⟨oc, od, dV, kV, doc, pm, an, cdv, ct, osl, hfd, lk, hcd⟩ := F.ex
  subst hfd
  refine ⟨len, ?_⟩
  intro B around s H args us vs Q E room gd e0 bd rv want
  have hlen := len _ _ _ _ want
  have KX : K.In s.heap := e0.mod.kin.keeps fun b o e => (e0.bs b o e).1
  have lim : s.heap.NoLimit := e0.mod.nolimit.keeps fun b o e => (e0.bs b o e).1
  have kinds : ∀ y ∈ ps.zip us, (defScope st).names.lookup y.1 = some .local ∨ ((defScope st).names.lookup y.1 = some .cell ∧ ((cellsFrom (s.heap.objs.size + 1) (defScope st).names []).lookup y.1).isSome = true) := by
    rintro ⟨n, v⟩ hy
    rcases S.par n (List.of_mem_zip hy).1 with q | q
    · exact Or.inl q
    · exact Or.inr ⟨q, PySem.W.cellsFrom_some _ _ _ (Or.inl q)⟩
  refine codeAny_call_function room.depth (KX _ _ lk) rfl S.co S.gen rfl (PySem.W.codeRec_of KX hcd) (bd _ _ _ _ ?_)
  refine wpAny_newFunctionEnv_cells S.kind kinds ?_
  rintro env rfl s1 entered
  refine ⟨lim.keeps entered.toInCall.keep, codeAny_func ?_⟩
  obtain ⟨t, ht, hq⟩ := hbody cdv B around s H vs Q E (room.deeper _) gd want
  have I0 : Inv (cxOf CX P w K mg base N qual (defScope st) f cdv B around s H E) [] (start N vs) H s1 := inv_start S room.hd e0 hlen rv entered
  have leave : ∀ {s' : Shared} {σ' : L2.St} {H' : Hp} {v : V} {u : Value}, Inv (cxOf CX P w K mg base N qual (defScope st) f cdv B around s H E) [] σ' H' s' → RelV v u → Q v H' → CE around P w H s Q u s' :=
    fun {s' σ' H' v u} J ru q => ⟨v, H', J.os, J.bare, J.base, J.hok, ru, q⟩
  refine wpAny_mono (ht.run [] s1 (start N vs) H _ I0 hq) ?_ fun er s' hs => hs
  rintro fl s' hs
  match fl, hs with
  | .ret u, ⟨v, σ', H', J, ru, q⟩ => exact leave J ru q
  | .next, ⟨σ', H', J, q⟩ => exact leave (v := V.non) (u := Value.none) J rfl q
  | .brk, ⟨_, _, _, q⟩ => exact q.elim
  | .cont, ⟨_, _, _, q⟩ => exact q.elim

/-! ### what a def tells, as a function of trees -/
abbrev FSem := List T → Option (T × List (Option T))
def maskN (L : List Nat) : Nat → List (Option T) → List (Option T)
  | _, [] => []
  | k, o :: r => (if k ∈ L then o else none) :: maskN L (k + 1) r
def spG (K : PySem.W.Frag) (n : Nat) (L : List Nat) (F : FSem) : Sp := fun vs H Q _ => vs.length = n ∧ ∃ J fp ts, SR K [] (vs.map some) H (ts.map some) J fp ∧ ∃ t outs, F ts = some (t, outs) ∧
  ∀ v H' J' fp' fpv, SR K [] (vs.map some) H' (maskN L 0 outs) J' fp' → Own K J' H' fp' v t fpv → Tr J H fp J' H' (fp' ++ fpv) → Q v H'
/-- weaker: another function that tells the same where it tells -/
theorem spG.imp {K : PySem.W.Frag} {n : Nat} {L : List Nat} {F F' : FSem} (h : ∀ ts r, ts.length = n → F' ts = some r → F ts = some r) : ∀ vs H Q E, spG K n L F' vs H Q E → spG K n L F vs H Q E := by
  rintro vs H Q E ⟨hl, J, fp, ts, s, t, outs, hF, q⟩
  refine ⟨hl, J, fp, ts, s, t, outs, h ts _ ?_ hF, q⟩
  have := s.re.length
  simp at this
  omega
/-! ### arguments: lent or given -/
def rdAs (K : PySem.W.Frag) (pn : List (Nat × V)) (ls : List (Option Nat)) (f : M (List T)) : TA := fun σ H Q => ∃ e J F, SR K pn σ H e J F ∧ ∃ t e', f e = .ok t e' ∧ ∀ v H' J' F' fp, SR K pn σ H' e' J' F' → Owns K J' H' F' v t fp → Tr J H F J' H' (F' ++ fp) →
  (∀ (j i : Nat), ls[j]? = some (some i) → ∃ w, v[j]? = some w ∧ σ[i]? = some (some w)) → Q v H'
def gTake (i : Nat) : M T := fun e => match e[i]? with
  | some (some t) => .ok t (e.set i none)
  | _ => .bad
section
variable {X : Cx} {pn : List (Nat × V)} {a b c : Expr} {pos : Pos} {es : List Expr}
theorem al_nil : PA X [] (rdAs X.K pn [] (ret [])) := PA.weak pa_nil' fun σ H Q ⟨e, J, F, s, t, e', h, q⟩ => ⟨e, J, F, s, t, e', h, fun v H' J' F' fp s' o tr => q v H' J' F' fp s' o tr fun j i h => by simp at h⟩
/-- two own things beside F -/
theorem own_join {K : PySem.W.Frag} {J J1 : Addr → Prop} {H H1 : Hp} {F F1 : List Addr} {v : V} {vs : List V} {t : T} {ts : List T} {f g : List Addr} (o1 : Own K J H F v t f) (jf : ∀ a ∈ F, ¬ J a) (tr : Tr J H F J1 H1 (F1 ++ g)) (o2 : Owns K J1 H1 F1 vs ts g) (nd : F1.Nodup) : Owns K J1 H1 F1 (v :: vs) (t :: ts) (f ++ g) := by
  have o1' := o1.step (F' := F1) ⟨tr.keep, tr.dom, tr.jj, fun b hb => tr.fnew b (List.mem_append_left _ hb), tr.jnew, tr.tups⟩ jf nd
  refine ⟨.cons o1'.rt o2.rt, ?_, fun b hb => ?_⟩
  · have n1 := o1'.nd
    have n2 := o2.nd
    rw [List.nodup_append] at n1 n2 ⊢
    refine ⟨n2.1, List.nodup_append.mpr ⟨n1.2.1, n2.2.1, fun x hx y hy z => ?_⟩, fun x hx y hy z => ?_⟩
    · subst z
      rcases tr.fnew x (List.mem_append_right _ hy) with z | z
      · exact not_both o1.nd hx z
      · exact RT.dom o1.rt x hx z
    · rcases List.mem_append.mp hy with hy | hy
      · exact n1.2.2 x hx y hy z
      · exact n2.2.2 x hx y hy z
  · rcases List.mem_append.mp hb with hb | hb
    · exact o1'.jf b hb
    · exact o2.jf b hb
theorem tr_join {J J1 J2 : Addr → Prop} {H H1 H2 : Hp} {F F1 F2 f g : List Addr} (a : Tr J H F J1 H1 (F1 ++ f)) (b : Tr J1 H1 F1 J2 H2 (F2 ++ g)) : Tr J H F J2 H2 (F2 ++ (f ++ g)) := by
  have h := a.trans (b.aside (G := f))
  refine h.trans (Tr.sub fun c hc => ?_)
  simp only [List.mem_append] at hc ⊢
  rcases hc with z | z | z
  · exact .inl (.inl z)
  · exact .inr z
  · exact .inl (.inr z)
theorem al_val {ls : List (Option Nat)} {f : M T} {g : M (List T)} (ha : PE X a (rdE X.K pn f)) (hn : nstar a = true) (hb : PA X es (rdAs X.K pn ls g)) : PA X (a :: es) (rdAs X.K pn (none :: ls) (consM f g)) :=
  PA.weak (pa_cons ha hb (star_of hn es X.env)) fun σ H Q ⟨e, J, F, s, t, e', h, q⟩ => by
    obtain ⟨x, e1, h1, h2⟩ := bnd_ok h
    obtain ⟨xs, e2, h3, h4⟩ := bnd_ok h2
    cases h4
    refine ⟨e, J, F, s, x, e1, h1, fun v H1 J1 F1 fp1 s1 o1 tr1 => ?_⟩
    refine ⟨e1, J1, F1, s1, xs, _, h3, fun vs H2 J2 F2 fp2 s2 o2 tr2 hl => ?_⟩
    refine q (v :: vs) H2 J2 F2 (fp1 ++ fp2) s2 (own_join o1 s1.jf tr2 o2 s2.nd) (tr_join tr1 tr2) fun j i hj => ?_
    cases j with
    | zero => simp at hj
    | succ j =>
      obtain ⟨w, k1, k2⟩ := hl j i (by simpa using hj)
      exact ⟨w, by simpa using k1, k2⟩
theorem al_lend {ls : List (Option Nat)} {i : Nat} {g : M (List T)} (ha : PE X a (tVar i)) (hn : nstar a = true) (hb : PA X es (rdAs X.K pn ls g)) : PA X (a :: es) (rdAs X.K pn (some i :: ls) (consM (gTake i) g)) :=
  PA.weak (pa_cons ha hb (star_of hn es X.env)) fun σ H Q ⟨e, J, F, s, t, e', h, q⟩ => by
    obtain ⟨x, e1, h1, h2⟩ := bnd_ok h
    obtain ⟨xs, e2, h3, h4⟩ := bnd_ok h2
    cases h4
    unfold gTake at h1
    split at h1
    · rename_i t0 h0
      cases h1
      obtain ⟨v, fp1, F1, hv, o1, s1, pm⟩ := s.take h0
      have tr1 : Tr J H F J H (F1 ++ fp1) := Tr.sub fun b hb => pm.mem_iff.mpr hb
      refine ⟨v, hv, _, J, F1, s1, xs, _, h3, fun vs H2 J2 F2 fp2 s2 o2 tr2 hl => ?_⟩
      refine q (v :: vs) H2 J2 F2 (fp1 ++ fp2) s2 (own_join o1 s1.jf tr2 o2 s2.nd) (tr_join tr1 tr2) fun j k hj => ?_
      cases j with
      | zero =>
        simp at hj
        subst hj
        exact ⟨v, by simp, hv⟩
      | succ j =>
        obtain ⟨w, k1, k2⟩ := hl j k (by simpa using hj)
        exact ⟨w, by simpa using k1, k2⟩
    · cases h1
theorem pa_lend {i : Nat} {g : M (List T)} (ha : PE X a (tVar i)) (hn : nstar a = true) (hb : PA X es (rdEs X.K pn g)) : PA X (a :: es) (rdEs X.K pn (consM (gTake i) g)) :=
  PA.weak (pa_cons ha hb (star_of hn es X.env)) fun σ H Q ⟨e, J, F, s, t, e', h, q⟩ => by
    obtain ⟨x, e1, h1, h2⟩ := bnd_ok h
    obtain ⟨xs, e2, h3, h4⟩ := bnd_ok h2
    cases h4
    unfold gTake at h1
    split at h1
    · rename_i t0 h0
      cases h1
      obtain ⟨v, fp1, F1, hv, o1, s1, pm⟩ := s.take h0
      have tr1 : Tr J H F J H (F1 ++ fp1) := Tr.sub fun b hb => pm.mem_iff.mpr hb
      refine ⟨v, hv, _, J, F1, s1, xs, _, h3, fun vs H2 J2 F2 fp2 s2 o2 tr2 => ?_⟩
      exact q (v :: vs) H2 J2 F2 (fp1 ++ fp2) s2 (own_join o1 s1.jf tr2 o2 s2.nd) (tr_join tr1 tr2)
    · cases h1
/-- what was lent comes back -/
def putBack : List (Option Nat) → List (Option T) → En → En
  | some i :: ls, some t :: outs, e => putBack ls outs (match e[i]? with
    | some none => e.set i (some t)
    | _ => e)
  | _ :: ls, _ :: outs, e => putBack ls outs e
  | _, _, e => e
theorem putBack_ok {K : PySem.W.Frag} {σ : L2.St} {H : Hp} {J : Addr → Prop} : ∀ (ls : List (Option Nat)) (vs : List V) (outs : List (Option T)) (e : En) (F fp : List Addr), SR K pn σ H e J F → RE K J H (vs.map some) outs fp → (F ++ fp).Nodup → (∀ a ∈ fp, ¬ J a) →
    (∀ (j i : Nat), ls[j]? = some (some i) → ∃ w, vs[j]? = some w ∧ σ[i]? = some (some w)) → ∃ F', SR K pn σ H (putBack ls outs e) J F' ∧ ∀ b ∈ F', b ∈ F ++ fp
  | [], vs, outs, e, F, fp, s, r, nd, jf, hl => by
    refine ⟨F, ?_, fun b hb => List.mem_append_left _ hb⟩
    cases outs <;> exact s
  | l :: ls, vs, [], e, F, fp, s, r, nd, jf, hl => by
    refine ⟨F, ?_, fun b hb => List.mem_append_left _ hb⟩
    cases l <;> exact s
  | l :: ls, [], o :: outs, e, F, fp, s, r, nd, jf, hl => by cases r
  | l :: ls, v :: vs, o :: outs, e, F, fp, s, r, nd, jf, hl => by
    have hl' : ∀ (j i : Nat), ls[j]? = some (some i) → ∃ w, vs[j]? = some w ∧ σ[i]? = some (some w) := fun j i h => by
      obtain ⟨w, k1, k2⟩ := hl (j + 1) i (by simpa using h)
      exact ⟨w, by simpa using k1, k2⟩
    cases r with
    | out r =>
      have go := putBack_ok ls vs outs e F fp s r nd jf hl'
      cases l <;> exact go
    | held q r =>
      rename_i t f g
      have nd' : (F ++ g).Nodup := by
        rw [List.nodup_append] at nd ⊢
        exact ⟨nd.1, (List.nodup_append.mp nd.2.1).2.1, fun x hx y hy => nd.2.2 x hx y (List.mem_append_right _ hy)⟩
      have jf' : ∀ a ∈ g, ¬ J a := fun a ha => jf a (List.mem_append_right _ ha)
      have skip : ∃ F', SR K pn σ H (putBack ls outs e) J F' ∧ ∀ b ∈ F', b ∈ F ++ (f ++ g) := by
        obtain ⟨F', s', h'⟩ := putBack_ok ls vs outs e F g s r nd' jf' hl'
        refine ⟨F', s', fun b hb => ?_⟩
        rcases List.mem_append.mp (h' b hb) with z | z
        · exact List.mem_append_left _ z
        · exact List.mem_append_right _ (List.mem_append_right _ z)
      cases l with
      | none => exact skip
      | some i =>
        show ∃ F', SR K pn σ H (putBack ls outs (match e[i]? with
          | some none => e.set i (some t)
          | _ => e)) J F' ∧ _
        split
        · rename_i h0
          obtain ⟨w, k1, k2⟩ := hl 0 i rfl
          have hw : v = w := by simpa using k1
          subst hw
          have ov : Own K J H F v t f := ⟨q, by
            rw [List.nodup_append] at nd ⊢
            exact ⟨nd.1, (List.nodup_append.mp nd.2.1).1, fun x hx y hy => nd.2.2 x hx y (List.mem_append_left _ hy)⟩, fun a ha => jf a (List.mem_append_left _ ha)⟩
          obtain ⟨F1, s1, pm⟩ := s.put h0 k2 ov
          have nd1 : (F1 ++ g).Nodup := by
            refine ((List.Perm.append_right g pm).nodup_iff).mpr ?_
            rw [List.append_assoc]
            exact nd
          obtain ⟨F', s', h'⟩ := putBack_ok ls vs outs _ F1 g s1 r nd1 jf' hl'
          refine ⟨F', s', fun b hb => ?_⟩
          rcases List.mem_append.mp (h' b hb) with z | z
          · rcases List.mem_append.mp (pm.mem_iff.mp z) with z | z
            · exact List.mem_append_left _ z
            · exact List.mem_append_right _ (List.mem_append_left _ z)
          · exact List.mem_append_right _ (List.mem_append_right _ z)
        · exact skip
def gCallF (F : FSem) (L : List Nat) (ls : List (Option Nat)) (fa : M (List T)) : M T := bnd fa fun ts => fun e => match F ts with
  | some (t, outs) => .ok t (putBack ls (maskN L 0 outs) e)
  | none => .bad
theorem RTs.re {K : PySem.W.Frag} {J : Addr → Prop} {H : Hp} : ∀ {vs : List V} {ts : List T} {fp : List Addr}, RTs K J H vs ts fp → RE K J H (vs.map some) (ts.map some) fp
  | _, _, _, .nil => .nil
  | _, _, _, .cons r s => .held r (RTs.re s)
theorem call_rd {F : FSem} {L : List Nat} {ls : List (Option Nat)} {n : Nat} {fa : M (List T)} {E : XK} {σ : L2.St} {H : Hp} {Q : VK} (hn : ∀ e ts e', fa e = .ok ts e' → ts.length = n) (h : rdE X.K pn (gCallF F L ls fa) σ H Q) :
    tCall (spG X.K n L F) [] E (rdAs X.K pn ls fa) σ H Q := by
  obtain ⟨e, J, F0, s, t, e', h, q⟩ := h
  obtain ⟨ts, e1, h1, h2⟩ := bnd_ok h
  refine ⟨e, J, F0, s, ts, e1, h1, fun vs H1 J1 F1 fp s1 o1 tr1 hl => ?_⟩
  cases hF : F ts with
  | none => simp only [hF] at h2; cases h2
  | some r =>
    obtain ⟨t', outs⟩ := r
    simp only [hF] at h2
    cases h2
    rw [List.append_nil]
    have ndf : fp.Nodup := (List.nodup_append.mp o1.nd).2.1
    refine ⟨by rw [o1.rt.length]; exact hn _ _ _ h1, J1, fp, ts, ⟨o1.rt.re, ndf, o1.jf, s1.jd, fun p hp => (nomatch hp)⟩, _, outs, hF, fun v H' J' fp' fpv s' ov tr => ?_⟩
    -- the caller's own things stand
    have ndc : (fp ++ F1).Nodup := (List.perm_append_comm.nodup_iff).mp o1.nd
    have dF1 : ∀ b ∈ F1, H1 b ≠ none := s1.re.dom
    have sep : ∀ b ∈ F1, b ∉ fp' ++ fpv := fun b hb z => by
      rcases tr.fnew b z with z | z
      · exact not_both ndc hb z
      · exact dF1 b hb z
    have s2 : SR X.K pn σ H' e1 J' F1 := s1.step tr.jj (fun b o z eq => by
      rcases z with z | z | ⟨_, rfl⟩
      · exact tr.keep b o eq fun w => o1.jf b w z
      · exact tr.keep b o eq fun w => not_both ndc z w
      · exact tr.tups b _ eq) s'.jd fun a ha z => by
        rcases tr.jnew a z with z | z | z
        · exact s1.jf a ha z
        · exact not_both ndc ha z
        · exact dF1 a ha z
    have nd2 : (F1 ++ fp').Nodup := List.nodup_append.mpr ⟨s1.nd, s'.nd, fun x hx y hy z => sep x hx (z ▸ List.mem_append_left _ hy)⟩
    obtain ⟨F3, s3, h3⟩ := putBack_ok ls vs _ e1 F1 fp' s2 s'.re nd2 s'.jf hl
    refine q v H' J' F3 fpv s3 ⟨ov.rt, ?_, ov.jf⟩ ?_
    · refine List.nodup_append.mpr ⟨s3.nd, (List.nodup_append.mp ov.nd).2.1, fun x hx y hy z => ?_⟩
      subst z
      rcases List.mem_append.mp (h3 x hx) with w | w
      · exact sep x w (List.mem_append_right _ hy)
      · exact not_both ov.nd hy w
    · have t2 : Tr J1 H1 (F1 ++ fp) J' H' (F1 ++ (fp' ++ fpv)) := by
        refine ⟨fun b o e n => tr.keep b o e fun z => n (List.mem_append_right _ z), tr.dom, tr.jj, fun b z => ?_, fun b z => (tr.jnew b z).imp id (Or.imp (List.mem_append_right _) id), tr.tups⟩
        rcases List.mem_append.mp z with z | z
        · exact .inl (List.mem_append_left _ z)
        · exact (tr.fnew b z).imp (List.mem_append_right _) id
      refine (tr1.trans t2).trans (Tr.sub fun b hb => ?_)
      rcases List.mem_append.mp hb with z | z
      · rcases List.mem_append.mp (h3 b z) with z | z
        · exact List.mem_append_left _ z
        · exact List.mem_append_right _ (List.mem_append_left _ z)
      · exact List.mem_append_right _ (List.mem_append_right _ z)
end
end IL

namespace IL
open PySem PySem.Spec PyProof.Rows L2
/-- a thing lent, the arguments behind it told first -/
def consL (i : Nat) (g : M (List T)) : M (List T) := bnd (held i) fun _ => bnd g fun ts => bnd (gTake i) fun t => ret (t :: ts)
section
variable {X : Cx} {pn : List (Nat × V)} {a b c : Expr} {pos : Pos} {es : List Expr}
theorem owns_take {K : PySem.W.Frag} {J : Addr → Prop} {H : Hp} {F F1 fp1 fp2 : List Addr} {v : V} {vs : List V} {t : T} {ts : List T} (o1 : Own K J H F1 v t fp1) (o2 : Owns K J H F vs ts fp2) (pm : F.Perm (F1 ++ fp1)) : Owns K J H F1 (v :: vs) (t :: ts) (fp1 ++ fp2) := by
  refine ⟨.cons o1.rt o2.rt, ?_, fun b hb => ?_⟩
  · rw [← List.append_assoc]
    exact (pm.append_right fp2).nodup_iff.mp o2.nd
  · rcases List.mem_append.mp hb with hb | hb
    · exact o1.jf b hb
    · exact o2.jf b hb
theorem tr_take {J J2 : Addr → Prop} {H H2 : Hp} {F F2 F1 fp1 fp2 : List Addr} (tr : Tr J H F J2 H2 (F2 ++ fp2)) (pm : F2.Perm (F1 ++ fp1)) : Tr J H F J2 H2 (F1 ++ (fp1 ++ fp2)) := by
  refine tr.trans (Tr.sub fun b hb => ?_)
  rw [← List.append_assoc] at hb
  exact (pm.append_right fp2).mem_iff.mpr hb
theorem al_lendL {ls : List (Option Nat)} {i : Nat} {g : M (List T)} (ha : PE X a (tVar i)) (hn : nstar a = true) (hb : PA X es (rdAs X.K pn ls g)) : PA X (a :: es) (rdAs X.K pn (some i :: ls) (consL i g)) :=
  PA.weak (pa_cons ha hb (star_of hn es X.env)) fun σ H Q ⟨e, J, F, s, t, e', h, q⟩ => by
    obtain ⟨_, e0, h0, h1⟩ := bnd_ok h
    obtain ⟨rfl, t0, k0⟩ := held_ok h0
    obtain ⟨xs, e2, h3, h4⟩ := bnd_ok h1
    obtain ⟨x, e3, h5, h6⟩ := bnd_ok h4
    cases h6
    obtain ⟨v, fp0, hv, _⟩ := s.at k0
    refine ⟨v, hv, _, J, F, s, xs, _, h3, fun vs H2 J2 F2 fp2 s2 o2 tr2 hl => ?_⟩
    unfold gTake at h5
    split at h5
    · rename_i t1 k1
      cases h5
      obtain ⟨v', fp1, F1, hv', o1, s3, pm⟩ := s2.take k1
      rw [hv] at hv'
      cases hv'
      refine q (v :: vs) H2 J2 F1 (fp1 ++ fp2) s3 (owns_take o1 o2 pm) (tr_take tr2 pm) fun j k hj => ?_
      cases j with
      | zero =>
        simp at hj
        subst hj
        exact ⟨v, by simp, hv⟩
      | succ j =>
        obtain ⟨w, k1, k2⟩ := hl j k (by simpa using hj)
        exact ⟨w, by simpa using k1, k2⟩
    · cases h5
theorem pa_lendL {i : Nat} {g : M (List T)} (ha : PE X a (tVar i)) (hn : nstar a = true) (hb : PA X es (rdEs X.K pn g)) : PA X (a :: es) (rdEs X.K pn (consL i g)) :=
  PA.weak (pa_cons ha hb (star_of hn es X.env)) fun σ H Q ⟨e, J, F, s, t, e', h, q⟩ => by
    obtain ⟨_, e0, h0, h1⟩ := bnd_ok h
    obtain ⟨rfl, t0, k0⟩ := held_ok h0
    obtain ⟨xs, e2, h3, h4⟩ := bnd_ok h1
    obtain ⟨x, e3, h5, h6⟩ := bnd_ok h4
    cases h6
    obtain ⟨v, fp0, hv, _⟩ := s.at k0
    refine ⟨v, hv, _, J, F, s, xs, _, h3, fun vs H2 J2 F2 fp2 s2 o2 tr2 => ?_⟩
    unfold gTake at h5
    split at h5
    · rename_i t1 k1
      cases h5
      obtain ⟨v', fp1, F1, hv', o1, s3, pm⟩ := s2.take k1
      rw [hv] at hv'
      cases hv'
      exact q (v :: vs) H2 J2 F1 (fp1 ++ fp2) s3 (owns_take o1 o2 pm) (tr_take tr2 pm)
    · cases h5
end
end IL

namespace IL
open PySem PySem.Spec PyProof.Rows L2

/-! ### a def by its body's run -/
def runF (nN n : Nat) (g : M Fl) : FSem := fun ts => match g (ts.map some ++ List.replicate (nN - n) none) with
  | .ok (.rt t) e => some (t, (e ++ List.replicate n none).take n)
  | .ok .nx e => some (.leaf .none, (e ++ List.replicate n none).take n)
  | _ => none
section
variable {K : PySem.W.Frag} {J : Addr → Prop} {H : Hp}
theorem RE.takeN {σ : L2.St} {e : En} {F : List Addr} (r : RE K J H σ e F) : ∀ n, ∃ F', RE K J H (σ.take n) (e.take n) F' ∧ F'.Sublist F := by
  induction r with
  | nil => intro n; exact ⟨[], by simpa using RE.nil, .slnil⟩
  | out r ih =>
    intro n
    cases n with
    | zero => exact ⟨[], by simpa using RE.nil, List.nil_sublist _⟩
    | succ n =>
      obtain ⟨F', h1, h2⟩ := ih n
      exact ⟨F', .out h1, h2⟩
  | held q r ih =>
    intro n
    cases n with
    | zero => exact ⟨[], by simpa using RE.nil, List.nil_sublist _⟩
    | succ n =>
      obtain ⟨F', h1, h2⟩ := ih n
      exact ⟨_, .held q h1, List.Sublist.append_left h2 _⟩
theorem RE.mask {σ : L2.St} {e : En} {F : List Addr} (L : List Nat) (r : RE K J H σ e F) : ∀ k, ∃ F', RE K J H σ (maskN L k e) F' ∧ F'.Sublist F := by
  induction r with
  | nil => intro k; exact ⟨[], .nil, .slnil⟩
  | out r ih =>
    intro k
    obtain ⟨F', h1, h2⟩ := ih (k + 1)
    refine ⟨F', ?_, h2⟩
    unfold maskN
    split <;> exact .out h1
  | held q r ih =>
    intro k
    obtain ⟨F', h1, h2⟩ := ih (k + 1)
    unfold maskN
    split
    · exact ⟨_, .held q h1, List.Sublist.append_left h2 _⟩
    · exact ⟨F', .out h1, h2.trans (List.sublist_append_right _ _)⟩
theorem maskN_none {L : List Nat} : ∀ {e : List (Option T)} {k i : Nat} {t : T}, (maskN L k e)[i]? = some (some t) → k + i ∈ L
  | [], _, _, _, h => by simp [maskN] at h
  | o :: r, k, 0, t, h => by
    unfold maskN at h
    split at h
    · simpa using ‹k ∈ L›
    · simp at h
  | o :: r, k, i + 1, t, h => by
    unfold maskN at h
    have := maskN_none (L := L) (e := r) (k := k + 1) (i := i) (t := t) (by simpa using h)
    have e : k + 1 + i = k + (i + 1) := by omega
    rw [← e]; exact this
theorem maskN_len (L : List Nat) : ∀ (e : List (Option T)) (k : Nat), (maskN L k e).length = e.length
  | [], _ => rfl
  | o :: r, k => by simp [maskN, maskN_len L r]
end
theorem RE.pad {K : PySem.W.Frag} {J : Addr → Prop} {H : Hp} {σ : L2.St} {e : En} {F0 : List Addr} (m : Nat) (r : RE K J H σ e F0) : RE K J H (σ ++ List.replicate m none) (e ++ List.replicate m none) F0 := by
  induction r with
  | nil =>
    induction m with
    | zero => exact .nil
    | succ m ih => exact .out ih
  | out _ ih => exact .out ih
  | held q _ ih => exact .held q ih
theorem maskN_twice (L : List Nat) : ∀ (e : List (Option T)) (k : Nat), maskN L k (maskN L k e) = maskN L k e
  | [], _ => rfl
  | o :: r, k => by
    simp only [maskN, maskN_twice L r (k + 1)]
    split <;> rfl
/-- the same, but for what is lent nothing is told of the arguments -/
def runM (nN n : Nat) (L : List Nat) (g : M Fl) : FSem := fun ts => match runF nN n g ts with
  | some (t, o) => some (t, maskN L 0 o)
  | none => none
theorem runM_sp {K : PySem.W.Frag} {nN n : Nat} {L : List Nat} {g : M Fl} : ∀ vs H Q E, spG K n L (runM nN n L g) vs H Q E → spG K n L (runF nN n g) vs H Q E := by
  rintro vs H Q E ⟨hl, J, fp, ts, s, t, outs, hF, q⟩
  unfold runM at hF
  split at hF
  · rename_i t' o' h'
    cases hF
    rw [maskN_twice] at q
    exact ⟨hl, J, fp, ts, s, t, o', h', q⟩
  · cases hF
def pinsOf (L : List Nat) (vs : List V) : List (Nat × V) := L.filterMap fun i => vs[i]?.map fun v => (i, v)
theorem mem_pinsOf {L : List Nat} {vs : List V} {p : Nat × V} : p ∈ pinsOf L vs ↔ p.1 ∈ L ∧ vs[p.1]? = some p.2 := by
  unfold pinsOf
  rw [List.mem_filterMap]
  constructor
  · rintro ⟨i, hi, h⟩
    cases hv : vs[i]? with
    | none => rw [hv] at h; cases h
    | some v => rw [hv] at h; cases h; exact ⟨hi, hv⟩
  · rintro ⟨h1, h2⟩
    exact ⟨p.1, h1, by rw [h2]; rfl⟩
section
variable {P : Program} {w : World} {K : PySem.W.Frag} {mg : Str → Option Value} {base : Heap}
/-- a def keeps to its body's run -/
theorem fnG_body {k : Nat} {f : Addr} {x qual : Str} {st : Stmt} {fd : FuncData} {N ps : List Str} {L : List Nat} {g : M Fl}
    (F : FunQ K x qual st f fd) (S : FnScope N ps (defScope st))
    (hbody : ∀ (X : Cx) (pn : List (Nat × V)), X.prog = P → X.w = w → X.K = K → X.mg = mg → X.base = base → X.N = N → X.env.scope = defScope st → X.calm = true → (X.xe = fun _ _ => False) → Room k X.A → X.A.guards = some [] → (∀ y, X.fn y = true) → (∀ p ∈ pn, p.1 ∈ L) →
      PSs X (defBody st) (rdS X.K pn g)) : FnG P w K mg base CX0 (k + 1) f fd ps (spG K ps.length L (runF N.length ps.length g)) := by
  refine fnG_of F S (fun vs H Q E h => h.1) fun cdv B around s H vs Q E hr hg h => ?_
  obtain ⟨hl, J, fp, ts, sr, t, outs, hF, q⟩ := h
  have hps : ps.length ≤ N.length := by have := congrArg List.length S.pre; rw [List.length_take] at this; omega
  have hb := hbody (cxOf CX0 P w K mg base N qual (defScope st) f cdv B around s H E).nox (pinsOf L vs) rfl rfl rfl rfl rfl rfl rfl rfl rfl hr hg (fun _ => rfl) fun p hp => (mem_pinsOf.mp hp).1
  refine ⟨_, PSs.nox hb, ?_⟩
  have hlen : ts.length = ps.length := by
    have := sr.re.length
    simp at this
    omega
  -- the slots at the entry
  have re0 : RE K J H (L2.start N vs) (ts.map some ++ List.replicate (N.length - ps.length) none) fp := by
    have := sr.re.pad (N.length - ps.length)
    unfold L2.start
    rw [hl]
    exact this
  have s0 : SR K (pinsOf L vs) (L2.start N vs) H (ts.map some ++ List.replicate (N.length - ps.length) none) J fp := by
    refine ⟨re0, sr.nd, sr.jf, sr.jd, fun p hp => ?_⟩
    obtain ⟨h1, h2⟩ := mem_pinsOf.mp hp
    have hlt : p.1 < vs.length := (List.getElem?_eq_some_iff.mp h2).1
    unfold L2.start
    rw [List.getElem?_append_left (by simpa using hlt), List.getElem?_map, h2]
    rfl
  -- what the def's end leaves of the arguments
  have fin : ∀ {σ' : L2.St} {H' : Hp} {J' : Addr → Prop} {e' : En} {F' : List Addr}, SR K (pinsOf L vs) σ' H' e' J' F' → ∃ fp', SR K [] (vs.map some) H' (maskN L 0 ((e' ++ List.replicate ps.length none).take ps.length)) J' fp' ∧ fp'.Sublist F' := by
    intro σ' H' J' e' F' s'
    obtain ⟨F1, h1, l1⟩ := (s'.re.pad ps.length).takeN ps.length
    obtain ⟨F2, h2, l2⟩ := h1.mask L 0
    have l3 := l2.trans l1
    refine ⟨F2, ⟨h2.unwipe ?_ fun i hi => ?_, s'.nd.sublist l3, fun a ha => s'.jf a (l3.mem ha), s'.jd, fun p hp => (nomatch hp)⟩, l3⟩
    · simp [hl]
    · cases hm : (maskN L 0 ((e' ++ List.replicate ps.length none).take ps.length))[i]? with
      | none =>
        have hge := List.getElem?_eq_none_iff.mp hm
        rw [maskN_len] at hge
        simp at hge
        rw [List.getElem?_eq_none (by simp [hl]; omega), List.getElem?_eq_none (by simp; omega)]
      | some o =>
        cases o with
        | none => exact absurd hm hi
        | some tt =>
          have hiL := maskN_none hm
          rw [Nat.zero_add] at hiL
          have hlt : i < ps.length := by
            have := (List.getElem?_eq_some_iff.mp hm).1
            rw [maskN_len] at this
            simp at this
            omega
          have hv : vs[i]? = some (vs[i]'(by omega)) := List.getElem?_eq_getElem (by omega)
          have hp := s'.pin (i, vs[i]'(by omega)) (mem_pinsOf.mpr ⟨hiL, hv⟩)
          have hlt2 : i < σ'.length := (List.getElem?_eq_some_iff.mp hp).1
          rw [List.getElem?_take_of_lt hlt, List.getElem?_append_left hlt2, hp, List.getElem?_map, hv]
          rfl
  unfold runF at hF
  split at hF
  · rename_i t' e' hg'
    cases hF
    refine ⟨_, J, fp, s0, _, e', hg', fun v σ' H' J' F' fpv s' o' tr => ?_⟩
    obtain ⟨fp', s2, l2⟩ := fin s'
    exact q v H' J' fp' fpv s2 ⟨o'.rt, o'.nd.sublist (List.Sublist.append_right l2 _), o'.jf⟩ (tr.trans (Tr.sub fun b hb => (List.Sublist.append_right l2 fpv).mem hb))
  · rename_i e' hg'
    cases hF
    refine ⟨_, J, fp, s0, _, e', hg', fun σ' H' J' F' s' tr => ?_⟩
    obtain ⟨fp', s2, l2⟩ := fin s'
    exact q .non H' J' fp' [] s2 ⟨.leaf .non, by simpa using s2.nd, fun _ z => (nomatch z)⟩ (by
      rw [List.append_nil]
      exact tr.trans (Tr.sub fun b hb => l2.mem hb))
  · cases hF
end
end IL

namespace IL
open PySem PySem.Spec PyProof.Rows L2
section
variable {X : Cx}
/-! ### repr, isinstance, a text of a number -/
theorem hasDict_no {d : D} (h : d.canLay0 = true) : d.hasDict = true → ∀ {P : Prop}, P := fun z => by
  have := PyData.hasDict_of_canLay d h
  rw [this] at z
  cases z
theorem call_reprD (hu : X.A.units + 66 < cLine) (hg : X.A.guards = some []) : CallR X (.builtin "repr") (fun xs H Q => ∃ v d, xs = [v] ∧ Dp X.K H v d ∧ d.canLay0 = true ∧ d.showable = true ∧ d.depth ≤ 64 ∧ d.shown.length ≤ sizeLine ∧ Q (.str d.shown) H) := by
  intro pins s σ H xs us Q I r h
  obtain ⟨v, d, rfl, hd, h1, h2, h3, h4, q⟩ := h
  obtain ⟨u, rfl, ru⟩ : ∃ u, us = [u] ∧ RelV v u := by
    cases r with
    | cons r t => cases t; exact ⟨_, rfl, r⟩
  cases hd with
  | non =>
    cases ru
    simp only [PyData.shown] at q
    exact PySem.P.repr_of_none ⟨.str _, H, I.tok _, ⟨_, rfl⟩, q⟩
  | bl b =>
    cases ru
    simp only [PyData.shown] at q
    exact PySem.P.repr_of_bool ⟨.str _, H, I.tok _, ⟨_, rfl⟩, q⟩
  | int i =>
    obtain ⟨t, rfl⟩ := ru
    simp only [PyData.shown] at q
    exact PySem.P.repr_of_int (by simpa [PyData.showable] using h2) ⟨.str _, H, I.tok _, ⟨_, rfl⟩, q⟩
  | str x =>
    obtain ⟨t, rfl⟩ := ru
    simp only [PyData.shown] at q h4
    exact PySem.P.repr_of_str (hsz := h4) ⟨.str _, H, I.tok _, ⟨_, rfl⟩, q⟩
  | lst hs ha =>
    rename_i a xs ds
    have ru' : u = Value.ref a := ru
    subst ru'
    obtain ⟨as, rd⟩ := Dp.reads I _ _ _ (.lst hs ha) (show RelV (.ref a) (.ref a) from rfl)
    refine repr_of_reads' rd h2 (fun z => hasDict_no h1 z) hg (by omega) (fun b o e => e) (fun h' u tk hk => ?_) h4
    exact ⟨.str _, H, I.kept (t' := tk) hk, ⟨_, rfl⟩, q⟩
  | tup hs ha =>
    rename_i a xs ds
    have ru' : u = Value.ref a := ru
    subst ru'
    obtain ⟨as, rd⟩ := Dp.reads I _ _ _ (.tup hs ha) (show RelV (.ref a) (.ref a) from rfl)
    refine repr_of_reads' rd h2 (fun z => hasDict_no h1 z) hg (by omega) (fun b o e => e) (fun h' u tk hk => ?_) h4
    exact ⟨.str _, H, I.kept (t' := tk) hk, ⟨_, rfl⟩, q⟩
theorem cs_repr (hu : X.A.units + 66 < cLine) (hg : X.A.guards = some []) : CallS X (.builtin "repr") reprD := by
  refine .mk (call_reprD hu hg) fun xs t h J H vs jd rx Q q => ?_
  unfold reprD at h
  split at h
  · split at h
    · rename_i d hz
      cases h
      simp only [reprOk, Bool.and_eq_true, decide_eq_true_eq] at hz
      obtain ⟨v, rfl, r⟩ := rx.one
      exact ⟨v, d, rfl, r.dp hz.1.1.1, hz.1.1.1, hz.1.1.2, hz.1.2, hz.2, q _ _ _ _ (New.same (.str _) jd)⟩
    · cases h
  · cases h
inductive Ty where
  | int | bool | str | list | tuple | dict
  deriving DecidableEq
def Ty.nm : Ty → String
  | .int => "int" | .bool => "bool" | .str => "str" | .list => "list" | .tuple => "tuple" | .dict => "dict"
def Ty.nmS : Ty → Str
  | .int => "int" | .bool => "bool" | .str => "str" | .list => "list" | .tuple => "tuple" | .dict => "dict"
def isiB : Ty → D → Bool
  | .int, .int _ => true
  | .int, .bool _ => true
  | .bool, .bool _ => true
  | .str, .str _ => true
  | .list, .list _ => true
  | .tuple, .tuple _ => true
  | .dict, .dict ds => !isObj (.dict ds)
  | _, _ => false
def tyD : D → String
  | .none => "NoneType" | .bool _ => "bool" | .int _ => "int" | .str _ => "str" | .list _ => "list" | .tuple _ => "tuple" | .dict _ => "dict"
theorem rdk_no {K : PySem.W.Frag} {J : Addr → Prop} {H : Hp} {kvs : List (Key × V)} {ds : List (D × D)} (r : RDk K J H kvs ds) : isObj (.dict ds) = false := by
  cases r with
  | nil => rfl
  | @cons k _ _ _ _ _ _ => cases k <;> rfl
theorem tyX_of {K : PySem.W.Frag} {J : Addr → Prop} {H : Hp} {v : V} {d : D} (r : RD K J H v d) (hn : isObj d = false) : TyX K H v (.type (tyD d)) := by
  cases r with
  | non => exact .base .non
  | bl b => exact .base (.bl b)
  | int i => exact .base (.int i)
  | str x => exact .base (.str x)
  | lst j p r => exact .base (.lst p)
  | tup p r =>
    rcases p with p | p
    · exact .base (.tup p)
    · rcases p with (h | ⟨_, h⟩) | ⟨o, its, n, h1, h2, _⟩
      · cases h
      · cases h
      · exact .kTuple h1 h2
  | dct j p r => exact .base (.dK p)
  | obj _ _ _ _ => cases hn
theorem kit_of (t : Ty) (d : D) {K : PySem.W.Frag} (hn : isObj d = false) : PySem.W.kitOne K (.type (tyD d)) (.type t.nm) = some (isiB t d) := by
  refine kit_ty ?_
  cases t <;> cases d <;> (simp only [tyD, Ty.nm, isiB, hn]; decide +kernel)
/-- a value's type, and what isinstance tells of it -/
theorem ty_kit {K : PySem.W.Frag} {J : Addr → Prop} {H : Hp} {v : V} {d : D} (r : RD K J H v d) (t : Ty) : ∃ ty, TyX K H v ty ∧ PySem.W.kitOne K ty (.type t.nm) = some (isiB t d) := by
  cases hn : isObj d with
  | false => exact ⟨_, tyX_of r hn, kit_of t d hn⟩
  | true =>
    cases r with
    | obj oc j p q =>
      refine ⟨_, .base (.ins p oc.cl oc.cls oc.gtc oc.tks oc.mro), ?_⟩
      have h := oc.no t.nm (by cases t <;> simp [Ty.nm])
      rw [h]
      cases t <;> rfl
    | dct j p q => rw [rdk_no q] at hn; cases hn
    | _ => cases hn
def isiG (t : Ty) (f : M D) : M T := bnd f fun d => ret (.leaf (.bool (isiB t d)))
theorem ie_isi {pn : List (Nat × V)} {a : Expr} {p p2 pos : Pos} {t : Ty} {f : M T} (hg : Gl X "isinstance") (hm : X.mg "isinstance" = none) (ha : IE X pn a f) (hg2 : Gl X t.nmS) (hm2 : X.mg t.nmS = none) :
    IE X pn (.Call (.Name "isinstance" p) [a, .Name t.nmS p2] [] pos) (isiG t (fz f)) := by
  have hT : PE X (.Name t.nmS p2) (tC (.ty t.nm)) := by
    cases t <;> exact pe_bltn hg2 hm2 (by decide +kernel) rfl
  have h1 : starEach [a, .Name t.nmS p2] X.env = (false, eval a X.env) :: starEach [.Name t.nmS p2] X.env := star_of ha.ns _ X.env
  refine ie_mk (PE.weak (pe_callB call_isi hg hm (by decide +kernel) (pa_cons (pe_fz ha.pe) (pa_cons hT pa_nil) h1) (he := h1)) fun σ H Q ⟨e, J, F, s, r, e', h, q⟩ => ?_)
  obtain ⟨d, e1, k1, k2⟩ := bnd_ok h
  cases k2
  refine ⟨e, J, F, s, d, _, k1, fun v H1 J1 F1 s1 r1 tr1 => ?_⟩
  obtain ⟨ty, y1, y2⟩ := ty_kit r1 t
  exact ⟨v, _, _, _, _, rfl, .ty _, y1, y2, q _ H1 J1 F1 [] s1 (own_leaf_bl s1.nd) (by simpa using tr1)⟩
def strD : List D → Option T
  | [.int i] => if decide (i.natAbs.log2 < 1920) then some (.leaf (.str (toString i))) else none
  | [.str x] => some (.leaf (.str x))
  | _ => none
end
end IL

namespace IL
open PySem PySem.Spec PyProof.Rows L2
def eqb (k : Bool) (v : Value) : Bool := match v with
  | .bool n => n == k
  | _ => false
theorem vals_bools : ∀ {bs : List Bool} {us : List Value}, Vals (bs.map V.bl) us → us = bs.map Value.bool
  | [], us, r => by cases r; rfl
  | b :: bs, us, r => by
    rw [List.map_cons] at r
    cases r with
    | cons r1 r2 =>
      have e : _ = Value.bool b := r1
      rw [e, vals_bools r2]
      rfl
theorem eqb_count {k : Bool} : ∀ bs : List Bool, (bs.map Value.bool).countP (eqb k) = bs.count k
  | [] => rfl
  | b :: bs => by
    rw [List.map_cons, List.countP_cons, List.count_cons, eqb_count bs]
    rfl
section
variable {X : Cx}
def rCntB (K : PySem.W.Frag) : V → List V → Hp → VK → Prop := fun x xs H Q => ∃ (p : Addr) (bs : List Bool) (k : Bool), x = .ref p ∧ xs = [.bl k] ∧ SqL K H p (bs.map V.bl) ∧ Q (.int (bs.count k : Nat)) H
theorem mt_countB : MtR X "list.count" (rCntB X.K) := by
  intro pins s σ H x xs v us Q I rx rxs h
  obtain ⟨p, bs, k, rfl, rfl, hs, q⟩ := h
  cases rx
  obtain ⟨u, rfl, ru⟩ := rxs.one
  have hu : u = Value.bool k := ru
  subst hu
  obtain ⟨its, rv, ⟨⟨cls, dd, data, sl⟩, n, ho, hc, hdn, hd⟩, hlen⟩ := I.list hs
  simp only at hc hd
  subst hc hd
  have hi := vals_bools rv
  refine call_meets PySem.F.slot_list_count ⟨_, ho, rfl⟩ PySem.F.entry_list_count (PySem.F.args_list_count_2 _ _)
    (SeqAt.list_countAt p its.toArray n dd sl (.bool k) (eqb k)) ⟨ho, fun y hy => ?_, ?_⟩
  · have hy2 : y ∈ bs.map Value.bool := by rw [← hi]; simpa using hy
    obtain ⟨b, _, rfl⟩ := List.mem_map.mp hy2
    exact SeqAt.EqAt.bool_bool b k
  · have ec : its.toArray.toList.countP (eqb k) = bs.count k := by
      rw [show its.toArray.toList = its from rfl, hi]
      exact eqb_count bs
    refine ⟨.int (bs.count k : Nat), H, I.tok _, ⟨s.toks, ?_⟩, q⟩
    show Value.int ((its.toArray.toList.countP (eqb k) : Nat) : Int) s.toks = Value.int ((bs.count k : Nat) : Int) s.toks
    rw [ec]
end
end IL

namespace IL
open PySem PySem.Spec PyProof.Rows L2
section
variable {X : Cx} {pn : List (Nat × V)} {a b : Expr} {pos : Pos}
/-- xs.count(k), of bools -/
def cntD : D → D → Option T
  | .list ds, .bool k => (boolsD ds).map fun bs => .leaf (.int (bs.count k : Nat))
  | _, _ => none
theorem ie_cnt {fa fb : M D} {apos : Pos} (ho : PE X a (rdD X.K pn fa)) (hn : nstar b = true) (hb : PE X b (rdD X.K pn fb)) (hbase : attributeBase a "count" X.env (eval a X.env) = eval a X.env) (hline : (apos.endLine == pos.line) = true) :
    IE X pn (.Call (.Attribute a "count" apos) [b] [] pos) (gBin cntD fa fb) := by
  have hs : starEach [b] X.env = (false, eval b X.env) :: starEach [] X.env := star_of hn [] X.env
  refine ie_mk (PE.weak (pe_bm PySem.F.plainAttrs_list PySem.F.slot_list_count PySem.F.type_list_count mt_countB ho (pa_cons hb pa_nil hs) hbase (by rw [hs]; rfl) hline hs (by rfl)) fun σ H Q ⟨e, J, F, s, t, e', h, q⟩ => ?_)
  obtain ⟨x, e1, h1, h2⟩ := bnd_ok h
  obtain ⟨y, e2, h3, h4⟩ := bnd_ok h2
  obtain ⟨h5, rfl⟩ := opt_ok h4
  unfold cntD at h5
  split at h5
  · rename_i ds k
    cases hbs : boolsD ds with
    | none => rw [hbs] at h5; cases h5
    | some bs =>
      rw [hbs] at h5
      cases h5
      refine ⟨e, J, F, s, _, e1, h1, fun v H1 J1 F1 s1 r1 tr1 => ?_⟩
      cases r1 with
      | lst j p r =>
        refine ⟨.inl ⟨rfl, _, .inl (.inl p)⟩, e1, J1, F1, s1, _, e', h3, fun w H2 J2 F2 s2 r2 tr2 => ?_⟩
        cases r2
        have r3 := (RD.lst j p r).step tr2 s1.jf
        cases r3 with
        | lst j' p' r' =>
          obtain ⟨s3, o3, tr3⟩ := (New.same (K := X.K) (H := H2) (v := .int (bs.count k : Nat)) (d := .int (bs.count k : Nat)) (.int _) s2.jd).sr s2
          exact ⟨_, bs, k, rfl, rfl, by rw [← bools_rule hbs r']; exact .inl (.inl p'), q _ _ _ _ _ s3 o3 ((tr1.trans tr2).trans tr3)⟩
  · cases h5
end
end IL

namespace IL
open PySem PySem.Spec PyProof.Rows L2
section
variable {X : Cx}
/-- a list times an int -/
def lstRep : D → D → Option T
  | .list a, .int k => if 0 ≤ k ∧ k ≤ 1000 ∧ a.length ≤ 1000 then some (.lst ((List.replicate k.toNat a).flatten.map .leaf)) else none
  | _, _ => none
theorem os_lstRep : OpS X (binaryOp .Mult) lstRep := by
  refine .mk op_rep fun x y t h J H v u jd rx ry Q q => ?_
  unfold lstRep at h
  split at h
  · split at h
    · rename_i a k hz
      cases h
      cases ry
      cases rx with
      | lst j p r =>
        refine ⟨_, _, _, rfl, rfl, p, by omega, by omega, ?_, fun z hz => q _ _ _ _ (New.list (r.flat _) jd hz)⟩
        rw [r.length, sizeLine_eq]
        have h1 : k.toNat ≤ 1000 := by omega
        have := Nat.mul_le_mul hz.2.2 h1
        omega
    · cases h
  · cases h
/-- a text times an int -/
def strTimes (a : Str) (k : Nat) : Str := ⟨(List.replicate k a.cps).foldl (· ++ ·) #[]⟩
theorem size_times {α : Type} (c : Array α) : ∀ (k : Nat) (i : Array α), (List.foldl (fun x1 x2 => x1 ++ x2) i (List.replicate k c)).size = i.size + k * c.size
  | 0, i => by simp
  | k + 1, i => by
    rw [List.replicate_succ, List.foldl_cons, size_times c k, Array.size_append, Nat.succ_mul]
    omega
def strRep : D → D → Option T
  | .str a, .int k => if 2 ≤ k ∧ k ≤ 1000 ∧ a.length ≤ 1000 ∧ (a.length == 0) = false then some (.leaf (.str (strTimes a k.toNat))) else none
  | _, _ => none
theorem op_strRep : OpR X (binaryOp .Mult) (fun x y H Q => ∃ a k, x = .str a ∧ y = .int k ∧ (2 ≤ k ∧ k ≤ 1000 ∧ a.length ≤ 1000 ∧ (a.length == 0) = false) ∧ Q (.str (strTimes a k.toNat)) H) := by
  intro pins s σ H x y v u Q I rx ry h
  obtain ⟨a, k, rfl, rfl, ⟨h1, h2, h3, h4⟩, q⟩ := h
  obtain ⟨t, rfl⟩ := rx
  obtain ⟨t', rfl⟩ := ry
  have hn : ¬ k < 1 := by omega
  have hk : (k == 1 || a.length == 0) = false := by
    rw [h4, Bool.or_false]
    have : k ≠ 1 := by omega
    simpa using this
  refine PySem.P.mul_str ?_ (fun _ _ => ?_) (fun _ _ => ?_) ?_
  · have e1 : ¬ k < -(2 ^ 63 : Int) := by omega
    have e2 : ¬ k ≥ 2 ^ 63 := by omega
    rw [decide_eq_false e1, decide_eq_false e2]
    rfl
  · have h5 : (2 ^ 63 - 1) / 1000 ≤ ((2 ^ 63 - 1) / k : Int) := by
      rw [Int.le_ediv_iff_mul_le (by omega)]
      omega
    have h6 : ((2 : Int) ^ 63 - 1) / 1000 = 9223372036854775 := by decide
    omega
  · unfold Builtin.Str.tooLong
    have := Nat.mul_le_mul h3 (show k.toNat ≤ 1000 by omega)
    simp only [decide_eq_false_iff_not]
    rw [sizeLine_eq]
    omega
  · rw [if_neg hn, if_neg (by rw [hk]; exact Bool.false_ne_true)]
    show (PySem.Made.str _).post _ _
    unfold PySem.Made.post
    refine ⟨?_, ⟨.str _, H, I.tok _, ⟨_, rfl⟩, q⟩⟩
    show (List.foldl (fun x1 x2 => x1 ++ x2) #[] (List.replicate k.toNat a.cps)).size ≤ sizeLine
    rw [size_times, sizeLine_eq]
    have := Nat.mul_le_mul h3 (show k.toNat ≤ 1000 by omega)
    have e : a.cps.size = a.length := rfl
    rw [e, Nat.mul_comm]
    simp
    omega
theorem os_strRep : OpS X (binaryOp .Mult) strRep := by
  refine .mk op_strRep fun x y t h J H v u jd rx ry Q q => ?_
  unfold strRep at h
  split at h
  · split at h
    · rename_i a k hz
      cases h
      cases ry
      cases rx
      exact ⟨_, _, rfl, rfl, hz, q _ _ _ _ (New.same (.str _) jd)⟩
    · cases h
  · cases h
/-- max, min of a list of ints -/
def maxLD : List D → Option T
  | [.list ds] => (intsD ds).bind fun ns => ns.max?.map fun m => .leaf (.int m)
  | _ => none
def minLD : List D → Option T
  | [.list ds] => (intsD ds).bind fun ns => ns.min?.map fun m => .leaf (.int m)
  | _ => none
theorem cs_maxL (hc : X.calm = true) : CallS X (.builtin "max") maxLD := by
  refine .mk (cr_max hc) fun xs t h J H vs jd rx Q q => ?_
  unfold maxLD at h
  split at h
  · rename_i ds
    obtain ⟨ns, hb, h2⟩ := Option.bind_eq_some_iff.mp h
    obtain ⟨m, hm, e⟩ := Option.map_eq_some_iff.mp h2
    subst e
    obtain ⟨h3, h4⟩ := List.max?_eq_some_iff.mp hm
    obtain ⟨v, rfl, r⟩ := rx.one
    cases r with
    | lst j p r =>
      refine ⟨_, ns, rfl, by rw [← ints_rule hb r]; exact .inl (.inl p), List.length_pos_of_mem h3, fun m' h5 h6 => ?_⟩
      have : m' = m := by have := h4 m' h5; have := h6 m h3; omega
      subst this
      exact q _ _ _ _ (New.same (.int _) jd)
  · cases h
theorem cs_minL (hc : X.calm = true) : CallS X (.builtin "min") minLD := by
  refine .mk (cr_min hc) fun xs t h J H vs jd rx Q q => ?_
  unfold minLD at h
  split at h
  · rename_i ds
    obtain ⟨ns, hb, h2⟩ := Option.bind_eq_some_iff.mp h
    obtain ⟨m, hm, e⟩ := Option.map_eq_some_iff.mp h2
    subst e
    obtain ⟨h3, h4⟩ := List.min?_eq_some_iff.mp hm
    obtain ⟨v, rfl, r⟩ := rx.one
    cases r with
    | lst j p r =>
      refine ⟨_, ns, rfl, by rw [← ints_rule hb r]; exact .inl (.inl p), List.length_pos_of_mem h3, fun m' h5 h6 => ?_⟩
      have : m' = m := by have := h4 m' h5; have := h6 m h3; omega
      subst this
      exact q _ _ _ _ (New.same (.int _) jd)
  · cases h
/-- str(int), int(bool), int(int) -/
def strOfD : List D → Option T
  | [.int i] => if i.natAbs.log2 < 1920 then some (.leaf (.str (toString i))) else none
  | _ => none
def intOfD : List D → Option T
  | [.int i] => some (.leaf (.int i))
  | [.bool b] => some (.leaf (.int (if b then 1 else 0)))
  | _ => none
theorem cs_str : CallS X (.type "str") strOfD := by
  refine .mk call_str_int fun xs t h J H vs jd rx Q q => ?_
  unfold strOfD at h
  split at h
  · split at h
    · rename_i i hz
      cases h
      obtain ⟨v, rfl, r⟩ := rx.one
      cases r
      exact ⟨_, rfl, hz, q _ _ _ _ (New.same (.str _) jd)⟩
    · cases h
  · cases h
theorem cs_int : CallS X (.type "int") intOfD := by
  refine .mk call_int1 fun xs t h J H vs jd rx Q q => ?_
  unfold intOfD at h
  split at h
  · cases h
    obtain ⟨v, rfl, r⟩ := rx.one
    cases r
    exact .inl ⟨_, rfl, q _ _ _ _ (New.same (.int _) jd)⟩
  · cases h
    obtain ⟨v, rfl, r⟩ := rx.one
    cases r
    exact .inr ⟨_, rfl, q _ _ _ _ (New.same (.int _) jd)⟩
  · cases h
end
end IL

namespace IL
open PySem PySem.Spec PyProof.Rows L2
theorem tuple_mul1 (l : Addr) (items : Array Value) (n : Nat) (dd : Option Addr) (sl : Array (Option Value)) (u : Tok) :
    Meets (Builtin.«tuple.__mul__» ⟨[.ref l, .int 1 u], []⟩) (fun _ R s => s.heap.get? l = some { cls := .type "tuple", dict := dd, data := .seq items n, slots := sl } ∧
      R (.ok (.ret (.ref l))) s) :=
  .of_wp fun prog w A R s h => by
    obtain ⟨hp, g, d, tk, os⟩ := s
    obtain ⟨hl, h⟩ := h
    have f1 := AutoSeq1.idx_int
    have c0 : (decide ((1 : Int) < -(2 ^ 63)) || decide ((1 : Int) ≥ 2 ^ 63)) = false := by decide
    wp_walk using wpAny_loadPart' hl
    exact ⟨_, rfl, h⟩
section
variable {X : Cx}
/-- a tuple times 1: itself -/
def tupRep1 : D → D → Option T
  | .tuple a, .int k => if k = 1 then some (.leaf (.tuple a)) else none
  | _, _ => none
theorem op_rep1 : OpR X (binaryOp .Mult) (fun x y H Q => ∃ l xs, x = .ref l ∧ y = .int 1 ∧ SqT X.K H l xs ∧ Q (.ref l) H) := by
  intro pins s σ H x y v u Q I rx ry h
  obtain ⟨l, xs, rfl, rfl, hT, q⟩ := h
  cases rx
  obtain ⟨t, rfl⟩ := ry
  obtain ⟨its, r, ⟨⟨cls, dd, data, sl⟩, ho, hc, n, hd⟩, hs⟩ := I.tuple hT
  simp only at hc hd
  subst hc hd
  exact wpAny_binaryOp_repeat_ref (T := "tuple") (U := "int") (by decide) ⟨_, ho, rfl⟩ (fun s' => typeIs_int s' 1 t) noFill_tuple_mul F.fills_int_mul F.slot_int_rmul repeat_tuple F.slot_int_index.lookup
    (call_meets F.slot_int_rmul (typeIs_int s 1 t) F.entry_int_rmul (F.args_int_rmul_2 _ _) (int_rmul_tuple 1 t l its.toArray n dd sl)
      ⟨ho, rfl, ⟨_, ho, rfl⟩, call_meets F.slot_tuple_mul ⟨_, ho, rfl⟩ F.entry_tuple_mul (F.args_tuple_mul_2 _ _) (tuple_mul1 l its.toArray n dd sl t) ⟨ho, ⟨.ref l, H, I, rfl, q⟩⟩⟩)
theorem os_rep1 : OpS X (binaryOp .Mult) tupRep1 := by
  refine .mk op_rep1 fun x y t h J H v u jd rx ry Q q => ?_
  unfold tupRep1 at h
  split at h
  · split at h
    · rename_i a k hz
      subst hz
      cases h
      cases ry
      cases rx with
      | tup p r => exact ⟨_, _, rfl, rfl, p.sq, q _ _ _ _ (New.same (.tup p r) jd)⟩
    · cases h
  · cases h
/-- a sequence times an int -/
def repD (x y : D) : Option T := orr (lstRep x y) (orr (strRep x y) (orr (tupRep x y) (tupRep1 x y)))
theorem os_rep : OpS X (binaryOp .Mult) repD := .or os_lstRep (.or os_strRep (.or os_tupRep os_rep1))
end
end IL

namespace IL
open PySem PySem.Spec PyProof.Rows L2
section
variable {X : Cx} {pn : List (Nat × V)} {a b : Expr} {pos : Pos}
/-- list(range(a, b)) -/
def lrgD : D → D → Option T
  | .int i, .int j => if -(2 ^ 40) ≤ i ∧ i ≤ 2 ^ 40 ∧ -(2 ^ 40) ≤ j ∧ j ≤ 2 ^ 40 ∧ (j - i).toNat ≤ 100000 then some (.lst ((rangeL i (j - i).toNat).map .leaf)) else none
  | _, _ => none
theorem rds_rg {K : PySem.W.Frag} {J : Addr → Prop} {H : Hp} (i j : Int) : RDs K J H (rgV i j) (rangeL i (j - i).toNat) := by
  unfold rgV rangeL
  have go : ∀ l : List Nat, RDs K J H (l.map fun k : Nat => V.int (i + (k : Int))) (l.map fun k : Nat => PyData.int (i + (k : Int))) := by
    intro l
    induction l with
    | nil => exact .nil
    | cons k l ih => exact .cons (.int _) ih
  exact go _
theorem ie_lrg {fa fb : M D} {p p2 pos2 : Pos} (hc : X.calm = true) (hg : Gl X "list") (hm : X.mg "list" = none) (hg2 : Gl X "range") (hm2 : X.mg "range" = none) (ha : PE X a (rdD X.K pn fa)) (hb : PE X b (rdD X.K pn fb)) (na : nstar a = true) (nb : nstar b = true) :
    IE X pn (.Call (.Name "list" p) [.Call (.Name "range" p2) [a, b] [] pos2] [] pos) (gBin lrgD fa fb) := by
  refine ie_mk (PE.weak (pe_listRg hc hg hm (prg_2 hg2 hm2 ha hb (star_of na [b] X.env) (star_of nb [] X.env) (by rw [star_of nb [] X.env]; rfl))) fun σ H Q q => ?_)
  have h2 : RuleD X (fun x y H Q => ∃ i j, x = V.int i ∧ y = V.int j ∧ RgOk i j ∧ ∀ q, H q = none → Q (.ref q) (upd H q (.lst (rgV i j)))) lrgD := by
    intro x y t h J H v u jd rx ry Q q
    unfold lrgD at h
    split at h
    · split at h
      · rename_i i j hz
        cases h
        cases rx
        cases ry
        exact ⟨_, _, rfl, rfl, ⟨by omega, by omega, by omega, by omega, by omega⟩, fun z hz => q _ _ _ _ (New.list (rds_rg i j) jd hz)⟩
      · cases h
    · cases h
  exact tOp_rd h2 q
/-- a in range(n) -/
def inrD : D → D → Option T
  | .int i, .int n => if far n then some (.leaf (.bool (decide (0 ≤ i ∧ i < n)))) else none
  | _, _ => none
theorem New.junk {K : PySem.W.Frag} {J : Addr → Prop} {H : Hp} {v : V} {d : D} {p : Addr} {o : HO} (r : RD K J H v d) (jd : ∀ b, J b → H b ≠ none) (hp : H p = none) : New K J H J (upd H p o) v (.leaf d) [] := by
  have keep : ∀ b o', H b = some o' → upd H p o b = some o' := fun b o' e => by rw [upd_ne (ne_of_none e hp)]; exact e
  refine ⟨.leaf (r.mono (fun _ e => e) fun b o' _ e => keep b o' e), .nil, fun _ h => (nomatch h), keep, fun _ e => e, fun _ e => .inl e, fun b z => ?_⟩
  cases q : H b with
  | none => exact absurd q (jd b z)
  | some o' => rw [keep b o' q]; exact fun z => nomatch z
theorem cr_range1 : CallR X (.type "range") (fun vs H Q => ∃ n, vs = [V.int n] ∧ ∀ p, H p = none → Q (.ref p) (upd H p (.rng 0 n))) := by
  intro pins s σ H vs us Q I r h
  obtain ⟨n, rfl, q⟩ := h
  obtain ⟨u1, rfl, ri⟩ := vals1 r
  obtain ⟨t, rfl⟩ := ri
  refine call_range_1 ⟨.ref s.heap.objs.size, upd H s.heap.objs.size (.rng 0 n), I.laid (t' := s.toks + 1 + 1) (fun b o e => Heap.get?_push_of_some _ e) (Nat.le_refl _) ?_, rfl, q _ (I.hok.fresh (Nat.le_refl _))⟩
  exact ⟨_, _, _, Heap.get?_push_size _ rfl⟩
theorem ie_inr {fa fb : M D} {p pos2 : Pos} (hg2 : Gl X "range") (hm2 : X.mg "range" = none) (ha : PE X a (rdD X.K pn fa)) (hb : PE X b (rdD X.K pn fb)) (nb : nstar b = true) (hmk : behindInMarks .In (.Call (.Name "range" p) [b] [] pos2) = false) :
    IE X pn (.Compare a [.In] [.Call (.Name "range" p) [b] [] pos2] pos) (gBin inrD fa fb) := by
  have hs : starEach [b] X.env = (false, eval b X.env) :: starEach [] X.env := star_of nb [] X.env
  have h1 := pe_callTy (p := p) (pos := pos2) cr_range1 hg2 hm2 (by decide +kernel) (pa_cons hb pa_nil hs) (by decide) (by decide) hs (by rfl)
  have key : ∀ σ H Q, rdE X.K pn (gBin inrD fa fb) σ H Q → tOp (fun x y H Q => ∃ i a lo hi, x = V.int i ∧ y = V.ref a ∧ H a = some (.rng lo hi) ∧ Q (.bl (decide (lo ≤ i ∧ i < hi))) H) (rdD X.K pn fa) (tCB (fun vs H Q => ∃ n, vs = [V.int n] ∧ ∀ p, H p = none → Q (.ref p) (upd H p (.rng 0 n))) (tCons (rdD X.K pn fb) tNil)) σ H Q := by
    intro σ H Q h
    obtain ⟨e, J, F, s, t, e', h, q⟩ := h
    obtain ⟨x, e1, h1, h⟩ := bnd_ok h
    obtain ⟨y, e2, h2, h⟩ := bnd_ok h
    obtain ⟨h3, rfl⟩ := opt_ok h
    refine ⟨e, J, F, s, x, e1, h1, fun v H1 J1 F1 s1 r1 tr1 => ?_⟩
    refine ⟨e1, J1, F1, s1, y, _, h2, fun u H2 J2 F2 s2 r2 tr2 => ?_⟩
    unfold inrD at h3
    split at h3
    · split at h3
      · rename_i n i hx hy hz
        cases h3
        cases r1
        cases r2
        refine ⟨_, rfl, fun p hp => ⟨_, p, 0, _, rfl, rfl, upd_same, ?_⟩⟩
        obtain ⟨s3, o3, tr3⟩ := (New.junk (o := .rng 0 _) (.bl _) s2.jd hp).sr s2
        exact q _ _ _ _ _ s3 o3 ((tr1.trans tr2).trans tr3)
      · cases h3
    · cases h3
  exact ⟨PE.weak (pe_cmpR op_in_rng ha h1 hmk) key, fun _ => PT.weak (pt_cmpR op_in_rng ha h1 hmk) fun σ H Q q => key _ _ _ (rdT_of q), rfl⟩
/-- s.join(texts) -/
def strsD : List D → Option (List Str)
  | [] => some []
  | .str b :: r => (strsD r).map (b :: ·)
  | _ => none
theorem strs_rule {K : PySem.W.Frag} {J : Addr → Prop} {H : Hp} : ∀ {ds : List D} {bs : List Str} {vs : List V}, strsD ds = some bs → RDs K J H vs ds → vs = bs.map V.str
  | [], _, _, h, .nil => by cases h; rfl
  | d :: ds, bs, _, h, .cons r s => by
    cases d with
    | str b =>
      unfold strsD at h
      cases hb : strsD ds with
      | none => rw [hb] at h; cases h
      | some bs' =>
        rw [hb] at h
        cases h
        cases r
        rw [strs_rule hb s]
        rfl
    | _ => cases h
def joinD : D → D → Option T
  | .str a, .list ds => (strsD ds).bind fun ys => if (ys.map (·.length)).sum + ys.length * a.length ≤ 100000 then some (.leaf (.str (Txt.join a ys))) else none
  | _, _ => none
theorem ie_join {fa fb : M D} {apos : Pos} (ho : PE X a (rdD X.K pn fa)) (hs : ∀ e x e', fa e = .ok x e' → ∃ z, x = .str z) (hb : PE X b (rdD X.K pn fb)) (nb : nstar b = true) (hbase : attributeBase a "join" X.env (eval a X.env) = eval a X.env) (hline : (apos.endLine == pos.line) = true) :
    IE X pn (.Call (.Attribute a "join" apos) [b] [] pos) (gBin joinD fa fb) := by
  refine ie_mk (PE.weak (pe_join ho hb (star_of nb [] X.env) hbase hline) fun σ H Q h => ?_)
  obtain ⟨e, J, F, s, t, e', h, q⟩ := h
  obtain ⟨x, e1, h1, h⟩ := bnd_ok h
  obtain ⟨y, e2, h2, h⟩ := bnd_ok h
  obtain ⟨h3, rfl⟩ := opt_ok h
  obtain ⟨z, rfl⟩ := hs _ _ _ h1
  refine ⟨e, J, F, s, _, e1, h1, fun v H1 J1 F1 s1 r1 tr1 => ?_⟩
  cases r1
  refine ⟨⟨_, rfl⟩, e1, J1, F1, s1, y, _, h2, fun u H2 J2 F2 s2 r2 tr2 => ?_⟩
  unfold joinD at h3
  split at h3
  · rename_i a1 ds hx
    obtain ⟨ys, hy, h4⟩ := Option.bind_eq_some_iff.mp h3
    split at h4
    · cases hx
      cases h4
      cases r2 with
      | lst j p r =>
        obtain ⟨s3, o3, tr3⟩ := (New.same (K := X.K) (H := H2) (v := .str (Txt.join z ys)) (d := .str (Txt.join z ys)) (.str _) s2.jd).sr s2
        exact ⟨_, _, ys, rfl, rfl, .inl (by rw [← strs_rule hy r]; exact .inl (.inl p)), by omega, q _ _ _ _ _ s3 o3 ((tr1.trans tr2).trans tr3)⟩
    · cases h4
  · cases h3
end
end IL

namespace IL
open PySem PySem.Spec PyProof.Rows L2
theorem adjust_rev (n : Nat) : Builtin.Slice.sliceAdjust none none (-1) (n : Int) = ((n : Int) - 1, -1) := by
  unfold Builtin.Slice.sliceAdjust
  simp
theorem places_rev (n : Nat) : Builtin.Slice.slicePlaces ((n : Int) - 1) (-1) (-1) = n := by
  unfold Builtin.Slice.slicePlaces
  rw [if_neg (by decide)]
  by_cases h : (n : Int) - 1 > -1
  · rw [if_pos h, show (- -1 : Int) = 1 by decide, Int.ediv_one]
    omega
  · rw [if_neg h]
    omega
theorem pick_rev (xs : Array Value) : ((List.range xs.size).filterMap fun (m : Nat) => xs[(((xs.size : Int) - 1) + (m : Int) * (-1)).toNat]?).toArray = xs.toList.reverse.toArray := by
  congr 1
  have e : ∀ (l : List Value), ((List.range l.length).filterMap fun (m : Nat) => l[(((l.length : Int) - 1) + (m : Int) * (-1)).toNat]?) = l.reverse := by
    intro l
    apply List.ext_getElem?
    intro i
    have key : ((List.range l.length).filterMap fun (m : Nat) => l[(((l.length : Int) - 1) + (m : Int) * (-1)).toNat]?) = (List.range l.length).map fun m => l.reverse.getD m Value.none := by
      have : ∀ ms : List Nat, (∀ m ∈ ms, m < l.length) → (ms.filterMap fun (m : Nat) => l[(((l.length : Int) - 1) + (m : Int) * (-1)).toNat]?) = ms.map fun m => l.reverse.getD m Value.none := by
        intro ms
        induction ms with
        | nil => intro _; rfl
        | cons m ms ih =>
          intro h
          have hm := h m List.mem_cons_self
          have e1 : (((l.length : Int) - 1) + (m : Int) * (-1)).toNat = l.length - 1 - m := by omega
          have e2 : l[l.length - 1 - m]? = some (l.reverse.getD m Value.none) := by
            rw [List.getD_eq_getElem?_getD, List.getElem?_reverse hm]
            have : l.length - 1 - m < l.length := by omega
            simp [this]
          rw [List.filterMap_cons, e1, e2, List.map_cons, ih fun x hx => h x (List.mem_cons_of_mem _ hx)]
      exact this _ fun m hm => List.mem_range.mp hm
    rw [key]
    by_cases hi : i < l.length
    · rw [List.getElem?_map, List.getElem?_range hi]
      have : i < l.reverse.length := by simpa using hi
      simp [List.getD_eq_getElem?_getD, List.getElem?_eq_getElem this]
    · have h1 : (List.range l.length).length ≤ i := by simp; omega
      rw [List.getElem?_map, List.getElem?_eq_none h1]
      have h2 : l.reverse.length ≤ i := by simp; omega
      rw [List.getElem?_eq_none h2]
      rfl
  have := e xs.toList
  simpa using this
section
variable {prog : Program} {w : World} {A : Around} {E : Value → Shared → Prop} {s : Shared}
theorem sliceApplied_rev {sl : Addr} {vs : Value} {n : Nat} {Q : Int × Int × Nat → Shared → Prop} (hs : s.heap.IsSliceOf sl .none .none vs) (ps : IsPart vs (some (-1)))
    (h : Q ((n : Int) - 1, -1, n) s) : wpAny (model prog w) A (Builtin.Slice.sliceApplied (.ref sl) (pure (n : Int))) Q E s := by
  obtain ⟨os, hos, hcs, hds⟩ := id hs
  unfold Builtin.Slice.sliceApplied Builtin.Slice.sliceFields
  refine wpAny_bind (wpAny_bind (wpAny_field hos hds (x := .none) rfl (wpAny_bind (wpAny_field hos hds (x := .none) rfl (wpAny_bind (wpAny_field hos hds (x := vs) rfl (wpAny_pure ?_)))))))
  refine wpAny_bind (HT.slicePart_ ps ?_)
  show wpAny _ _ (if ((-1 : Int) == 0) = true then _ else _) _ _ s
  rw [if_neg (by decide)]
  refine wpAny_bind (HT.slicePart_ .none (wpAny_bind (HT.slicePart_ .none (wpAny_bind (wpAny_pure ?_)))))
  show wpAny _ _ (match Builtin.Slice.sliceAdjust none none (-1) (n : Int) with | (lo, hi) => pure (lo, (-1 : Int), Builtin.Slice.slicePlaces lo hi (-1))) _ _ s
  rw [adjust_rev n]
  show wpAny _ _ (pure ((n : Int) - 1, (-1 : Int), Builtin.Slice.slicePlaces ((n : Int) - 1) (-1) (-1))) _ _ s
  rw [places_rev]
  exact wpAny_pure h
theorem getItem_tuple_rev {t sl : Addr} {items : Array Value} {vs : Value} {Q : Value → Shared → Prop} (ht : IsTup s.heap t items) (hs : s.heap.IsSliceOf sl .none .none vs) (ps : IsPart vs (some (-1)))
    (h : Q (.ref s.heap.objs.size) { s with heap := s.heap.push { cls := .type "tuple", data := .seq items.toList.reverse.toArray } })
    (hsz : items.size ≤ sizeLine) : wpAny (model prog w) A (getItem (.ref t) (.ref sl)) Q E s := by
  have htake : sizeOk (.seq items.toList.reverse.toArray) := by
    show items.toList.reverse.toArray.size ≤ sizeLine
    rw [List.size_toArray, List.length_reverse, Array.length_toList]
    omega
  obtain ⟨os, hos, hcs, hds⟩ := id hs
  have hTs : s.TypeIs (.ref sl) "slice" := ⟨os, hos, hcs⟩
  unfold getItem
  try with_reducible refine wpAny_holding ?_
  first | refine wpAny_bind (wpAny_pure ?_) | skip
  refine wpAny_bind (wpAny_sequenceKey ht.typeIs (by decide) ?_)
  refine wpAny_bind (wpAny_callSpecial?_slot (name := Str.ofString "__getitem__") ht.typeIs PyProof.Rows.slot_tuple_getitem
    (wpAny_call_entry PyProof.Rows.slot_tuple_getitem ht.typeIs entry_tuple_getitem ?_ (args_tuple_getitem _ _)))
  show wpAny _ _ (Builtin.Tuple.tupleItemsOf (.ref t) >>= _) _ _ s
  refine wpAny_bind (tupleItemsOf_ ht ?_)
  refine wpAny_bind (wpAny_typeOf hTs ?_)
  rw [if_pos (by decide)]
  refine wpAny_bind (sliceApplied_rev hs ps ?_)
  have hno : ¬ ((((items.size : Int) - 1) == 0 && (-1 : Int) == 1 && items.size == items.size) = true) := by
    intro q
    rw [Bool.and_eq_true, Bool.and_eq_true] at q
    exact absurd q.1.2 (by decide)
  show wpAny _ _ (if (((items.size : Int) - 1) == 0 && (-1 : Int) == 1 && items.size == items.size) = true then _ else _) _ _ s
  rw [if_neg hno, pick_rev]
  first
    | exact wpAny_bind (m := Builtin.Tuple.tupleExact _) (wpAny_newObj_type (wpAny_pure ⟨_, rfl, wpAny_pure h⟩) htake)
    | exact wpAny_bind (m := Builtin.Tuple.tupleExact _) (wpAny_newObj_type (wpAny_bind (wpAny_pure (wpAny_pure ⟨_, rfl, wpAny_pure h⟩))) htake)
    | exact wpAny_bind (wpAny_bind (m := Builtin.Tuple.tupleExact _) (wpAny_newObj_type (wpAny_pure (wpAny_pure ⟨_, rfl, wpAny_pure h⟩)) htake))
    | exact wpAny_bind (wpAny_bind (m := Builtin.Tuple.tupleExact _) (wpAny_newObj_type (wpAny_pure ⟨_, rfl, wpAny_pure h⟩) htake))
end
section
variable {X : Cx}
def tRevS (K : PySem.W.Frag) (te : TE) : TE := fun σ H Q => te σ H fun x H1 => ∃ a xs, x = .ref a ∧ ((SqL K H1 a xs ∧ ∀ p, H1 p = none → Q (.ref p) (upd H1 p (.lst xs.reverse))) ∨ (SqT K H1 a xs ∧ ∀ p, H1 p = none → Q (.ref p) (upd H1 p (.tup xs.reverse))))
theorem pe_revS {e : Expr} {te : TE} {k : Nat} {p1 p2 p3 pos : Pos} (he : PE X e te) : PE X (.Subscript e (.Slice none none (some (.UnaryOp .USub (.Constant (.int 1) k p1) p2)) p3) pos) (tRevS X.K te) := by
  refine ⟨fun pins s σ H Q I h => ?_⟩
  refine Subscript_ (thn (he.run pins s σ H _ I h) fun v s1 ⟨x, H1, I1, r1, q1⟩ => ?_)
  obtain ⟨a, xs, ex, hx⟩ := q1
  subst ex
  cases r1
  have hst : PO X (some (.UnaryOp .USub (.Constant (.int 1) k p1) p2)) (tPart (tUn (rU fun i => .int (-i)) (tC (.int 1)))) := po_some (pe_un un_neg pe_int)
  refine wpAny_Slice (thn (po_none.run pins s1 σ H1 (fun o H2 => o = none ∧ H2 = H1) I1 ⟨rfl, rfl⟩) fun vl s2 ⟨l, H2, I2, pl, el, e2⟩ => ?_)
  subst el e2
  refine thn (po_none.run pins s2 σ H2 (fun o H3 => o = none ∧ H3 = H2) I2 ⟨rfl, rfl⟩) fun vu s3 ⟨u, H3, I3, pu, eu, e3⟩ => ?_
  subst eu e3
  refine thn (hst.run pins s3 σ H3 (fun o H4 => o = some (-1) ∧ H4 = H3) I3 ⟨1, rfl, -1, rfl, rfl, rfl⟩) fun vs s4 ⟨o, H4, I4, ps, eo, e4⟩ => ?_
  subst eo e4
  have I5 : Inv X pins σ H4 { s4 with heap := s4.heap.push { cls := .type "slice", data := .fields #[vl, vu, vs] } } := I4.kept (t' := s4.toks) fun b ob q => Heap.get?_push_of_some _ q
  show wpAny (model X.prog X.w) X.A (subscriptTail e (.Slice none none (some (.UnaryOp .USub (.Constant (.int 1) k p1) p2)) p3) (.ref a) (.ref s4.heap.objs.size)) (EP X pins σ Q) X.xe { s4 with heap := s4.heap.push { cls := .type "slice", data := .fields #[vl, vu, vs] } }
  rcases hx with ⟨hx, q⟩ | ⟨hx, q⟩
  · obtain ⟨its, r, ht, hz⟩ := I5.list hx
    have hlen := r.length
    refine tail_any (ops := [.ref a, .ref s4.heap.objs.size]) ht.isList.typeIs (PySem.slot_list_getitem.lookup) ?_ (by with_unfolding_all rfl)
    refine wpAny_getItem_list_slice ht.isList (Heap.IsSliceOf.new _ vl vu vs) pl pu ps (by decide) ?_ (by rw [List.size_toArray]; omega)
    rw [PySem.W.krv_pick]
    refine ⟨.ref _, _, I5.laid (t' := s4.toks) (o := .lst xs.reverse) (fun b ob q => Heap.get?_push_of_some _ q) (Nat.le_refl _) ?_, rfl, q _ (I5.hok.fresh (Nat.le_refl _))⟩
    exact ⟨by rw [List.length_reverse]; exact hz, _, 0, r.reverse, Heap.get?_push_size _ rfl⟩
  · obtain ⟨its, r, ht, hz⟩ := I5.tuple hx
    have hlen := r.length
    cases pl
    cases pu
    refine tail_any (ops := [.ref a, .ref s4.heap.objs.size]) ht.typeIs PyProof.Rows.slot_tuple_getitem.lookup ?_ (by with_unfolding_all rfl)
    refine getItem_tuple_rev ht (Heap.IsSliceOf.new _ .none .none vs) ps ?_ (by rw [List.size_toArray]; omega)
    refine ⟨.ref _, _, I5.laid (t' := s4.toks) (o := .tup xs.reverse) (fun b ob q => Heap.get?_push_of_some _ q) (Nat.le_refl _) ?_, rfl, q _ (I5.hok.fresh (Nat.le_refl _))⟩
    exact ⟨by rw [List.length_reverse]; exact hz, _, r.reverse, IsTup.new _ _⟩
variable {pn : List (Nat × V)}
/-- xs[::-1] -/
def revD : D → Option T
  | .list ds => some (.lst (ds.reverse.map .leaf))
  | .tuple ds => some (.leaf (.tuple ds.reverse))
  | _ => none
def gRev (f : M D) : M T := bnd f fun d => opt (revD d)
theorem ie_rev {e : Expr} {f : M D} {k : Nat} {p1 p2 p3 pos : Pos} (he : PE X e (rdD X.K pn f)) : IE X pn (.Subscript e (.Slice none none (some (.UnaryOp .USub (.Constant (.int 1) k p1) p2)) p3) pos) (gRev f) := by
  refine ie_mk (PE.weak (pe_revS he) fun σ H Q ⟨e, J, F, s, t, e', h, q⟩ => ?_)
  obtain ⟨x, e1, h1, h⟩ := bnd_ok h
  obtain ⟨h3, rfl⟩ := opt_ok h
  refine ⟨e, J, F, s, x, _, h1, fun v H1 J1 F1 s1 r1 tr1 => ?_⟩
  unfold revD at h3
  split at h3
  · cases h3
    cases r1 with
    | lst j p r =>
      refine ⟨_, _, rfl, .inl ⟨.inl (.inl p), fun z hz => ?_⟩⟩
      obtain ⟨s3, o3, tr3⟩ := (New.list r.rev s1.jd hz).sr s1
      exact q _ _ _ _ _ s3 o3 (tr1.trans tr3)
  · cases h3
    cases r1 with
    | tup p r =>
      refine ⟨_, _, rfl, .inr ⟨p.sq, fun z hz => ?_⟩⟩
      obtain ⟨s3, o3, tr3⟩ := (New.tuple r.rev s1.jd hz).sr s1
      exact q _ _ _ _ _ s3 o3 (tr1.trans tr3)
  · cases h3
end
end IL

namespace IL
open PySem PySem.Spec PyProof.Rows L2
/-! x.pop(k) of an own list whose item there is data -/
theorem RTs.erase {K : PySem.W.Frag} {J : Addr → Prop} {H : Hp} : ∀ {vs : List V} {ts : List T} {fp : List Addr} (j : Nat), RTs K J H vs ts fp → ∃ fp', RTs K J H (vs.eraseIdx j) (ts.eraseIdx j) fp' ∧ (∀ b ∈ fp', b ∈ fp) ∧ (fp.Nodup → fp'.Nodup)
  | _, _, _, _, .nil => ⟨[], .nil, fun _ h => h, fun h => h⟩
  | _, _, _, 0, .cons (f := f) (g := f2) q s => ⟨f2, s, fun b hb => List.mem_append_right _ hb, fun nd => (List.nodup_append.mp nd).2.1⟩
  | _, _, _, j + 1, .cons (f := f) (g := f2) q s => by
    obtain ⟨fp', h1, h2, h3⟩ := RTs.erase j s
    refine ⟨f ++ fp', .cons q h1, fun b hb => ?_, fun nd => ?_⟩
    · rcases List.mem_append.mp hb with z | z
      · exact List.mem_append_left _ z
      · exact List.mem_append_right _ (h2 b z)
    · have n0 := List.nodup_append.mp nd
      exact List.nodup_append.mpr ⟨n0.1, h3 n0.2.1, fun x hx y hy z => n0.2.2 x hx y (h2 y hy) z⟩
def popT (i : Nat) (k : D) : M T := fun e => match e[i]?, k with
  | some (some (.lst ts)), .int z => if ts.length ≤ most then (match ixN ts.length z with
    | some j => (match ts[j]? with
      | some (.leaf d) => .ok (.leaf d) (e.set i (some (.lst (ts.eraseIdx j))))
      | _ => .bad)
    | none => .bad) else .bad
  | _, _ => .bad
def gPop (i : Nat) (f : M D) : M T := bnd (held i) fun _ => bnd (peek i fun t => match t with | .lst _ => some () | _ => none) fun _ => bnd f fun k => popT i k
section
variable {X : Cx} {pn : List (Nat × V)} {a b c : Expr} {pos : Pos} {es : List Expr}
theorem RTs.at? {K : PySem.W.Frag} {J : Addr → Prop} {H : Hp} : ∀ {vs : List V} {ts : List T} {fp : List Addr} {j : Nat} {t : T}, RTs K J H vs ts fp → ts[j]? = some t → ∃ v g, vs[j]? = some v ∧ RT K J H v t g
  | _, _, _, _, _, .nil, h => by simp at h
  | _, _, _, 0, _, .cons q s, h => by cases h; exact ⟨_, _, rfl, q⟩
  | _, _, _, j + 1, _, .cons q s, h => RTs.at? s (j := j) h
theorem ie_pop {i : Nat} {f : M D} {apos : Pos} (ho : PE X a (tVar i)) (hn : nstar b = true) (ha : PE X b (rdD X.K pn f)) (hbase : attributeBase a "pop" X.env (eval a X.env) = eval a X.env) (hline : (apos.endLine == pos.line) = true) :
    IE X pn (.Call (.Attribute a "pop" apos) [b] [] pos) (gPop i f) := by
  have hs : starEach [b] X.env = (false, eval b X.env) :: starEach [] X.env := star_of hn [] X.env
  refine ie_mk (PE.weak (pe_bm PySem.F.plainAttrs_list PySem.F.slot_list_pop PySem.F.type_list_pop mt_popAt ho (pa_cons ha pa_nil hs) hbase (by rw [hs]; rfl) hline hs (by rfl)) fun σ H Q ⟨e, J, F, s, fl, e', h, q⟩ => ?_)
  obtain ⟨_, e0, h1, h2⟩ := bnd_ok h
  obtain ⟨rfl, t0, h0⟩ := held_ok h1
  obtain ⟨_, e1, h3, h4⟩ := bnd_ok h2
  obtain ⟨rfl, t1, h5, h6⟩ := peek_ok h3
  obtain ⟨t, e2, h7, h9⟩ := bnd_ok h4
  split at h6
  · rename_i ts0
    obtain ⟨v, fp, hv, rt⟩ := s.at h5
    cases rt with
    | lst hH rts =>
      refine ⟨_, hv, .inl ⟨rfl, _, .inl (.inl hH)⟩, e1, J, F, s, t, e2, h7, fun w H1 J1 F1 s1 r1 tr1 => ?_⟩
      unfold popT at h9
      split at h9
      · rename_i ts z h11
        split at h9
        · rename_i hmost
          split at h9
          · rename_i j hj
            split at h9
            · rename_i d hd
              cases h9
              obtain ⟨a', vs, hv', ha', fp', rts', go⟩ := s1.turn (ts' := ts.eraseIdx j) (fx := []) h11 (by simpa using s1.nd) (fun _ z => nomatch z)
              rw [hv] at hv'
              cases hv'
              cases r1
              obtain ⟨fp2, k1, k2, k3⟩ := rts'.erase j
              obtain ⟨F', s2, tr2⟩ := go _ fp2 k1 (fun b hb => .inl (k2 b hb)) (fun h => k3 (by simpa using h))
              obtain ⟨w, g, hw, rw'⟩ := rts'.at? hd
              obtain ⟨q1, q2, q3, q4⟩ := ixN_seq hj
              have hml : ts.length ≤ 100000 := hmost
              have tr3 := tr1.trans (by simpa using tr2)
              refine ⟨_, vs, z, j, w, rfl, rfl, ha', by omega, by omega, by rw [rts'.length]; exact q1, hw, ?_⟩
              refine q w _ J1 F' [] s2 ?_ (by simpa using tr3)
              cases rw' with
              | leaf rd => exact ⟨.leaf (rd.step (by simpa using tr2) s1.jf), by simpa using s2.nd, fun _ z => nomatch z⟩
            · cases h9
          · cases h9
        · cases h9
      · cases h9
  · cases h6
/-- x.extend(e) -/
def extT (i : Nat) (ds : List D) : M Unit := fun e => match e[i]? with
  | some (some (.lst ts)) => if ts.length + ds.length ≤ most then .ok () (e.set i (some (.lst (ts ++ ds.map .leaf)))) else .bad
  | _ => .bad
def lstO : D → Option (List D)
  | .list ds => some ds
  | _ => none
def gExt (i : Nat) (f : M D) : M T := bnd (held i) fun _ => bnd (peek i fun t => match t with | .lst _ => some () | _ => none) fun _ => bnd f fun k => bnd (opt (lstO k)) fun ds => bnd (extT i ds) fun _ => ret (.leaf .none)
theorem RDs.own {K : PySem.W.Frag} {J : Addr → Prop} {H : Hp} : ∀ {vs : List V} {ds : List D}, RDs K J H vs ds → RTs K J H vs (ds.map .leaf) []
  | _, _, .nil => .nil
  | _, _, .cons r s => .cons (f := []) (g := []) (.leaf r) (RDs.own s)
theorem ie_ext {i : Nat} {f : M D} {apos : Pos} (ho : PE X a (tVar i)) (hn : nstar b = true) (ha : PE X b (rdD X.K pn f)) (hbase : attributeBase a "extend" X.env (eval a X.env) = eval a X.env) (hline : (apos.endLine == pos.line) = true) :
    IE X pn (.Call (.Attribute a "extend" apos) [b] [] pos) (gExt i f) := by
  have hs : starEach [b] X.env = (false, eval b X.env) :: starEach [] X.env := star_of hn [] X.env
  refine ie_mk (PE.weak (pe_bm PySem.F.plainAttrs_list PySem.F.slot_list_extend PySem.F.type_list_extend mt_extend ho (pa_cons ha pa_nil hs) hbase (by rw [hs]; rfl) hline hs (by rfl)) fun σ H Q ⟨e, J, F, s, fl, e', h, q⟩ => ?_)
  obtain ⟨_, e0, h1, h2⟩ := bnd_ok h
  obtain ⟨rfl, t0, h0⟩ := held_ok h1
  obtain ⟨_, e1, h3, h4⟩ := bnd_ok h2
  obtain ⟨rfl, t1, h5, h6⟩ := peek_ok h3
  obtain ⟨t, e2, h7, h9⟩ := bnd_ok h4
  obtain ⟨ds, e3, h8, h10⟩ := bnd_ok h9
  obtain ⟨h8, rfl⟩ := opt_ok h8
  obtain ⟨_, e4, h11, h12⟩ := bnd_ok h10
  cases h12
  split at h6
  · rename_i ts0
    obtain ⟨v, fp, hv, rt⟩ := s.at h5
    cases rt with
    | lst hH rts =>
      refine ⟨_, hv, .inl ⟨rfl, _, .inl (.inl hH)⟩, e1, J, F, s, t, _, h7, fun w H1 J1 F1 s1 r1 tr1 => ?_⟩
      unfold lstO at h8
      split at h8
      · cases h8
        cases r1 with
        | lst jb hb rb =>
          unfold extT at h11
          split at h11
          · rename_i ts hts
            split at h11
            · rename_i hl
              cases h11
              obtain ⟨a', vs, hv', ha', fp', rts', go⟩ := s1.turn (ts' := ts ++ ds.map .leaf) (fx := []) hts (by simpa using s1.nd) (fun _ z => nomatch z)
              rw [hv] at hv'
              cases hv'
              obtain ⟨F', s2, tr2⟩ := go _ (fp' ++ []) (rts'.append rb.own) (fun b hb => .inl (by simpa using hb)) (fun h => by simpa using h)
              have e1 := rts'.length
              have e2 := rb.length
              have hml : ts.length + ds.length ≤ 100000 := hl
              have z : (100000 : Nat) ≤ sizeLine := by decide
              refine ⟨_, _, vs, _, rfl, rfl, ha', hb, by omega, ?_⟩
              exact q _ _ J1 F' [] s2 ⟨.leaf .non, by simpa using s2.nd, fun _ z => nomatch z⟩ (by simpa using tr1.trans (by simpa using tr2))
            · cases h11
          · cases h11
      · cases h8
  · cases h6
end
end IL

namespace IL
open PySem PySem.Spec PyProof.Rows L2
/-! a starred last target -/
theorem walksFrom {prog : Program} {w : World} {A : Around} (hh : A.handled = none) (I ax : Addr) (hne : ax ≠ I) (items : Array Value) (i : Nat) (hi : i ≤ items.size) :
    Walks prog w A I [I, ax] [I] (items.size - i) (fun j v => items[i + j]? = some v) (fun j h => h.IsTupleIter I ax (i + j) ∧ h.IsTuple ax items) where
  sub := fun b hb => by simp at hb; simp [hb]
  frame := fun _ _ _ st hk => ⟨st.1.at fun o e => hk I (by simp) o e, st.2.at fun o e => hk ax (by simp) o e⟩
  item := fun j s Q E hj st hQ => by
    refine wpAny_pyNext_tuple_item st.1 st.2 (x := items[i + j]'(by omega)) (by simp) fun h' hit' hs' => ?_
    exact hQ _ h' s.toks (by simp) ⟨hit', st.2.extBut hs'.extBut hne⟩ fun b o hb e => hs'.extBut b o (fun h => hb (by simp [h])) e
  done := fun s Q E st hQ => wpAny_pyNext_tuple_end hh st.1 st.2 (by simp; omega) fun h' he' => hQ h' s.toks fun b o hb e => he' b o (fun h => hb (by simp [h])) e
  self := fun _ _ _ _ st hQ => wpAny_pyIter_tupleiter st.1 hQ
section
variable {prog : Program} {w : World} {A : Around} {E : Value → Shared → Prop} {s : Shared}
theorem items_from {items : Array Value} {i : Nat} {acc : Array Value} (hi : i ≤ items.size) (h : ItemsOf (fun j v => items[i + j]? = some v) acc (items.size - i)) : acc.toList = items.toList.drop i := by
  refine List.ext_getElem? fun j => ?_
  rw [List.getElem?_drop, Array.getElem?_toList, Array.getElem?_toList]
  by_cases hj : j < acc.size
  · have := h.2 j acc[j] (by simp [hj])
    rw [this]
    simp [hj]
  · have h1 : acc[j]? = none := by simp; omega
    have h2 : items[i + j]? = none := by have := h.1; simp; omega
    rw [h1, h2]
theorem unpackItems_star {t : Addr} {items : Array Value} {n : Nat} {Q : List Value → Shared → Prop} (hh : A.handled = none) (ht : IsTup s.heap t items) (hn : n ≤ items.size) (hsz : items.size ≤ sizeLine)
    (hQ : ∀ (h' : Heap) (tk : Nat), (∀ b u, s.heap.get? b = some u → h'.get? b = some u) → Q (items.toList.take n ++ [.ref h'.objs.size]) { s with heap := h'.push { cls := .type "list", data := .seq (items.toList.drop n).toArray }, toks := tk }) :
    wpAny (model prog w) A (unpackItems (.ref t) (n + 1) (some n)) Q E s := by
  have hlt : t ≠ s.heap.objs.size := by obtain ⟨o, ho, _⟩ := ht; exact Nat.ne_of_lt (Heap.lt_size ho)
  unfold unpackItems
  refine wpAny_bind ?_
  unfold notIterableAtAll
  refine wpAny_bind (wpAny_specialOf ht.typeIs slot_tuple_iter.lookup ?_)
  refine wpAny_pure ?_
  simp only [Bool.false_eq_true, if_false]
  refine wpAny_bind (wpAny_holding (iter_tuple ht ?_))
  refine wpAny_bind (wpAny_holding (draw_tuple hlt n 0 _ _ ⟨_, Heap.get?_push_size _ rfl, rfl, rfl⟩ (ht.push _) (by omega) fun h₁ hit₁ hs₁ => ?_))
  rw [List.drop_zero]
  have hlen : (items.toList.take n).length = n := by simp; omega
  rw [if_neg (by omega)]
  have ht₁ : IsTup h₁ t items := (ht.push _).extBut hs₁.extBut hlt
  rw [Nat.zero_add] at hit₁
  refine wpAny_bind (wpAny_holding (wpAny_collect_iter (.inr (.inr (.inr rfl))) (walksFrom (A := A.in1) hh s.heap.objs.size t hlt items n hn).toS (fun _ _ st => st.1.typeIs) ⟨hit₁, ht₁⟩ ?_ (by simp) (fun s' acc hm hacc => ?_) (by omega)))
  · intro b hb
    simp only [List.mem_cons, List.not_mem_nil, or_false] at hb
    rcases hb with rfl | rfl
    · obtain ⟨o, ho, _⟩ := hit₁; exact Heap.lt_size ho
    · obtain ⟨o, ho, _⟩ := ht₁; exact Heap.lt_size ho
  · have e := items_from hn hacc
    have m := Moved.eq_with hm
    have kp : ∀ b u, s.heap.get? b = some u → s'.heap.get? b = some u := fun b u q => by
      have hb : b ≠ s.heap.objs.size := Nat.ne_of_lt (Heap.lt_size q)
      exact hm.heap b u (by simpa using hb) (hs₁.extBut b u hb (Heap.get?_push_of_some _ q))
    rw [e]
    have z : n + 1 - 1 - n = 0 := by omega
    simp only [z]
    rw [if_neg (by omega)]
    simp only [Nat.sub_zero, List.take_length, List.drop_length, List.append_nil]
    refine wpAny_bind (wpAny_newObj_type ?_ (by simp [sizeOk]; omega))
    refine wpAny_pure ?_
    rw [m]
    exact hQ s'.heap s'.toks kp
end
section
variable {X : Cx} {pn : List (Nat × V)} {a b c : Expr} {pos : Pos} {es : List Expr}
def gStar (K : PySem.W.Frag) (n : Nat) (t : TGs) : TG := fun v σ H Q => ∃ a xs, v = .ref a ∧ SqT K H a xs ∧ n ≤ xs.length ∧ xs.length ≤ sizeLine ∧ ∀ p, H p = none → t (xs.take n ++ [.ref p]) σ (upd H p (.lst (xs.drop n))) Q
theorem pg_star {k : Nat} {t : TGs} {n : Nat} (hc : X.calm = true) (h : PGs X es t) (hn : (assignEach es X.env).length = n + 1) (hst : (assignEach es X.env).findIdx? (·.1) = some n) : PG X (.Tuple es k pos) (gStar X.K n t) := by
  refine ⟨fun pins s σ H v u Q I r hw => ?_⟩
  obtain ⟨a, xs, e1, hq, hl, hz, hw⟩ := hw
  subst e1
  cases r
  obtain ⟨its, rv, ht, hzz⟩ := I.tuple hq
  have hsz : its.toArray.size = xs.length := by rw [rv.length]; simp
  rw [assign_Tuple]
  refine wpAny_bind (wpAny_standAt ?_)
  unfold unpack
  rw [hn, hst]
  refine wpAny_bind (wpAny_holding (unpackItems_star (I.ok.hd hc) ht (by omega) (by omega) fun h' tk kp => ?_))
  have et : its.toArray.toList = its := rfl
  rw [et]
  have I1 : Inv X pins σ H { s with heap := h', toks := tk } := I.kept kp
  have hf : H h'.objs.size = none := I1.hok.fresh (Nat.le_refl _)
  have rd : Vals (xs.drop n) (its.drop n) := rv.drop n
  have I2 := I1.laid (a := h'.objs.size) (o := .lst (xs.drop n)) (h' := h'.push { cls := .type "list", data := .seq (its.drop n).toArray }) (t' := tk) (fun b u e => Heap.get?_push_of_some _ e) (Nat.le_refl _) ⟨by rw [List.length_drop]; omega, its.drop n, 0, rd, Heap.get?_push_size _ rfl⟩
  exact h.run pins _ σ _ (xs.take n ++ [.ref h'.objs.size]) _ Q I2 ((rv.take n).append (Paired.cons (show L2.RelV (.ref h'.objs.size) (.ref h'.objs.size) from rfl) .nil)) (hw _ hf)
def unS (n : Nat) (g : List D → M Unit) : D → M Unit
  | .tuple ds => if n ≤ ds.length ∧ ds.length ≤ most then g (ds.take n ++ [.list (ds.drop n)]) else bad
  | _ => bad
theorem ig_star {ws : List Nat} {g : List D → M Unit} {k n : Nat} (hc : X.calm = true) (h : PGs X es (rdGs X.K pn ws g)) (hn : (assignEach es X.env).length = n + 1) (hst : (assignEach es X.env).findIdx? (·.1) = some n) : PG X (.Tuple es k pos) (rdG X.K pn ws (unS n g)) :=
  PG.weak (pg_star hc h hn hst) fun v σ H Q ⟨e, J, F, d, s, r, e', h, q⟩ => by
    unfold unS at h
    split at h
    · split at h
      · rename_i ds hl
        cases r with
        | tup p r =>
          rename_i av xs _
          have hlen := r.length
          refine ⟨_, _, rfl, p.sq, by omega, by have := most_lt hl.2; omega, fun c hcn => ?_⟩
          have hne : ∀ b o, H b = some o → upd H c (.lst (xs.drop n)) b = some o := fun b o q => by
            rw [upd_ne (fun z => by subst z; rw [hcn] at q; cases q)]; exact q
          have dm : ∀ b, H b ≠ none → upd H c (.lst (xs.drop n)) b ≠ none := fun b q => by
            cases hb : H b with
            | none => exact absurd hb q
            | some o => rw [hne b o hb]; exact fun z => nomatch z
          have tr0 : Tr J H F (fun b => J b ∨ b = c) (upd H c (.lst (xs.drop n))) F := ⟨fun b o q _ => hne b o q, dm, fun _ j => .inl j, fun b hb => .inl hb, fun b z => z.elim .inl fun e => .inr (.inr (e ▸ hcn)), fun b xs q => hne b _ q⟩
          have s2 := s.step (J' := fun b => J b ∨ b = c) (H' := upd H c (.lst (xs.drop n))) (fun _ j => .inl j) (fun b o _ q => hne b o q) (fun b z => by
            rcases z with z | z
            · exact dm b (s.jd b z)
            · subst z; rw [upd_same]; exact fun z => nomatch z) (fun b hb z => by
            rcases z with z | z
            · exact s.jf b hb z
            · subst z; exact RE.dom s.re b hb hcn)
          have r2 := r.mono (J' := fun b => J b ∨ b = c) (H' := upd H c (.lst (xs.drop n))) (fun _ j => .inl j) (fun b o _ q => hne b o q)
          have r3 : RDs X.K (fun b => J b ∨ b = c) (upd H c (.lst (xs.drop n))) [V.ref c] [.list (ds.drop n)] := .cons (.lst (.inr rfl) upd_same (r2.drop n)) .nil
          exact ⟨e, _, F, _, s2, (r2.take n).append r3, e', h, fun σ' H' J2 F2 s3 tr sm => q σ' H' J2 F2 s3 (tr0.trans tr) sm⟩
      · cases h
    · cases h
/-- the last of the targets, starred -/
theorem igs_star {x : Str} {p p2 : Pos} {w : List Nat} {f : D → M Unit} (h : PG X (.Name x p) (rdG X.K pn w f)) : PGs X [.Starred (.Name x p) p2] (rdGs X.K pn (w ++ []) (consG f fun ds => match ds with | [] => ret () | _ => bad)) := by
  have k := igs_cons (es := []) h igs_nil rfl
  exact ⟨fun pins s σ H vs us Q I r hw => k.run pins s σ H vs us Q I r hw⟩
end
end IL

namespace IL
open PySem PySem.Spec PyProof.Rows L2
/-! dicts by ints and texts -/
def keyO : D → Option Key
  | .int i => some (.inl i)
  | .str x => some (.inr x)
  | _ => none
theorem keyO_kD (k : Key) : keyO (kD k) = some k := by cases k <;> rfl
theorem keyO_rd {K : PySem.W.Frag} {J : Addr → Prop} {H : Hp} {v : V} {d : D} {k : Key} (h : keyO d = some k) (r : RD K J H v d) : v = kV k := by
  cases r <;> simp [keyO] at h <;> subst h <;> rfl
def valT (kvs : List (Key × T)) (k : Key) : Option T := (kvs.find? fun kv => decide (kv.1 = k)).map (·.2)
def valD (kvs : List (D × D)) (k : Key) : Option D := (kvs.find? fun kv => decide (keyO kv.1 = some k)).map (·.2)
def putT (kvs : List (Key × T)) (k : Key) (t : T) : List (Key × T) :=
  if (kvs.any fun kv => decide (kv.1 = k)) = true then kvs.map (fun kv => if kv.1 = k then (kv.1, t) else kv) else kvs ++ [(k, t)]
section
variable {K : PySem.W.Frag} {J : Addr → Prop} {H : Hp}
theorem RTk.length : ∀ {vs : List (Key × V)} {ts : List (Key × T)} {fp : List Addr}, RTk K J H vs ts fp → vs.length = ts.length
  | _, _, _, .nil => rfl
  | _, _, _, .cons _ s => by simp [RTk.length s]
theorem RTk.val : ∀ {vs : List (Key × V)} {ts : List (Key × T)} {fp : List Addr} (k : Key), RTk K J H vs ts fp → (valV vs k).isSome = (valT ts k).isSome ∧ ∀ t, valT ts k = some t → ∃ v g, valV vs k = some v ∧ RT K J H v t g
  | _, _, _, k, .nil => ⟨rfl, fun t h => by simp [valT] at h⟩
  | _, _, _, k, .cons (k := j) (v := v) (vs := vs) (t := t) (ts := ts) r s => by
    obtain ⟨h1, h2⟩ := RTk.val k s
    by_cases hj : j = k
    · subst hj
      refine ⟨by simp [valV, valT], fun u hu => ?_⟩
      simp [valT] at hu
      subst hu
      exact ⟨v, _, by simp [valV], r⟩
    · have e1 : valV ((j, v) :: vs) k = valV vs k := valV_neg hj
      have e2 : valT ((j, t) :: ts) k = valT ts k := by simp [valT, List.find?_cons, hj]
      rw [e1, e2]
      exact ⟨h1, h2⟩
theorem RDk.val : ∀ {vs : List (Key × V)} {ds : List (D × D)} (k : Key), RDk K J H vs ds → (valV vs k).isSome = (valD ds k).isSome ∧ ∀ t, valD ds k = some t → ∃ v, valV vs k = some v ∧ RD K J H v t
  | _, _, k, .nil => ⟨rfl, fun t h => by simp [valD] at h⟩
  | _, _, k, .cons (k := j) (v := v) (vs := vs) (d := t) (ds := ts) r s => by
    obtain ⟨h1, h2⟩ := RDk.val k s
    by_cases hj : j = k
    · subst hj
      refine ⟨by simp [valV, valD, keyO_kD], fun u hu => ?_⟩
      simp [valD, keyO_kD] at hu
      subst hu
      exact ⟨v, by simp [valV], r⟩
    · have e1 : valV ((j, v) :: vs) k = valV vs k := valV_neg hj
      have e2 : valD ((kD j, t) :: ts) k = valD ts k := by simp [valD, List.find?_cons, keyO_kD, hj]
      rw [e1, e2]
      exact ⟨h1, h2⟩
theorem RTk.any : ∀ {vs : List (Key × V)} {ts : List (Key × T)} {fp : List Addr} (k : Key), RTk K J H vs ts fp → (vs.any fun kv => decide (kv.1 = k)) = (ts.any fun kv => decide (kv.1 = k))
  | _, _, _, k, .nil => rfl
  | _, _, _, k, .cons r s => by simp only [List.any_cons]; rw [RTk.any k s]
theorem RTk.app : ∀ {vs : List (Key × V)} {ts : List (Key × T)} {fp : List Addr} {k : Key} {w : V} {t : T} {g : List Addr}, RTk K J H vs ts fp → RT K J H w t g → RTk K J H (vs ++ [(k, w)]) (ts ++ [(k, t)]) (fp ++ g)
  | _, _, _, k, w, t, g, .nil, r => by simpa using RTk.cons r .nil
  | _, _, _, k, w, t, g, .cons q s, r => by
    have := RTk.app (k := k) s r
    rw [List.append_assoc]
    exact .cons q this
/-- data put in -/
theorem RTk.repl {w : V} {d : D} (r : RD K J H w d) (k : Key) : ∀ {vs : List (Key × V)} {ts : List (Key × T)} {fp : List Addr}, RTk K J H vs ts fp → ∃ fp', RTk K J H (vs.map fun kv => if kv.1 = k then (kv.1, w) else kv) (ts.map fun kv => if kv.1 = k then (kv.1, .leaf d) else kv) fp' ∧ (∀ b ∈ fp', b ∈ fp) ∧ (fp.Nodup → fp'.Nodup)
  | _, _, _, .nil => ⟨[], .nil, fun _ h => h, fun h => h⟩
  | _, _, _, .cons (k := j) (f := f) (g := f2) q s => by
    obtain ⟨fp', h1, h2, h3⟩ := RTk.repl r k s
    by_cases hj : j = k
    · refine ⟨[] ++ fp', by simpa [hj] using RTk.cons (k := k) (RT.leaf r) h1, fun b hb => List.mem_append_right _ (h2 b (by simpa using hb)), fun nd => by simpa using h3 (List.nodup_append.mp nd).2.1⟩
    · refine ⟨f ++ fp', by simpa [hj] using RTk.cons q h1, fun b hb => ?_, fun nd => ?_⟩
      · rcases List.mem_append.mp hb with z | z
        · exact List.mem_append_left _ z
        · exact List.mem_append_right _ (h2 b z)
      · have n0 := List.nodup_append.mp nd
        exact List.nodup_append.mpr ⟨n0.1, h3 n0.2.1, fun x hx y hy z => n0.2.2 x hx y (h2 y hy) z⟩
theorem RTk.put {w : V} {d : D} (r : RD K J H w d) (k : Key) {vs : List (Key × V)} {ts : List (Key × T)} {fp : List Addr} (s : RTk K J H vs ts fp) : ∃ fp', RTk K J H (putK vs k w) (putT ts k (.leaf d)) fp' ∧ (∀ b ∈ fp', b ∈ fp) ∧ (fp.Nodup → fp'.Nodup) := by
  unfold putK putT
  rw [s.any k]
  split
  · exact RTk.repl r k s
  · exact ⟨fp ++ [], s.app (.leaf r), fun b hb => by simpa using hb, fun h => by simpa using h⟩
variable {pn : List (Nat × V)}
/-- the dict in slot i gets what vs, ts say -/
theorem SR.turnK {σ : L2.St} {e : En} {F : List Addr} (s : SR K pn σ H e J F) {i : Nat} {ts ts' : List (Key × T)} (h : e[i]? = some (some (.dct ts))) :
    ∃ a vs, σ[i]? = some (some (.ref a)) ∧ H a = some (.dK vs) ∧ ∃ fp, RTk K J H vs ts fp ∧ ∀ vs' fp', RTk K J H vs' ts' fp' → (∀ b ∈ fp', b ∈ fp) → (fp.Nodup → fp'.Nodup) →
      ∃ F', SR K pn σ (upd H a (.dK vs')) (e.set i (some (.dct ts'))) J F' ∧ Tr J H F J (upd H a (.dK vs')) F' := by
  obtain ⟨v, fp0, F1, hv, o, s1, pm⟩ := s.take h
  cases hrt : o.rt with
  | dct ha rts =>
    rename_i a vs fp
    refine ⟨a, vs, hv, ha, fp, rts, fun vs' fp' r' hsub hnd => ?_⟩
    have ndF : (F1 ++ (a :: fp)).Nodup := o.nd
    have hF1 : a ∉ F1 := fun z => (List.nodup_append.mp ndF).2.2 a z a List.mem_cons_self rfl
    have hafp : a ∉ fp := (List.nodup_cons.mp (List.nodup_append.mp ndF).2.1).1
    have hJ : ¬ J a := o.jf a List.mem_cons_self
    have hafp' : a ∉ fp' := fun z => hafp (hsub a z)
    have keep : ∀ b u, b ≠ a → H b = some u → upd H a (.dK vs') b = some u := fun b u hb q => by rw [upd_ne hb]; exact q
    have dm : ∀ b, H b ≠ none → upd H a (.dK vs') b ≠ none := fun b q => by
      by_cases hb : b = a
      · subst hb; rw [upd_same]; exact fun z => nomatch z
      · rw [upd_ne hb]; exact q
    have s2 : SR K pn σ (upd H a (.dK vs')) (e.set i none) J F1 := s1.step (fun _ j => j) (fun b u z q => keep b u (fun w => by
      subst w
      rcases z with z | z | ⟨_, z⟩
      · exact hJ z
      · exact hF1 z
      · subst z; rw [ha] at q; cases q) q) (fun b z => dm b (s.jd b z)) s1.jf
    have o2 : Own K J (upd H a (.dK vs')) F1 (.ref a) (.dct ts') (a :: fp') := by
      refine ⟨.dct upd_same (r'.mono (fun _ j => j) (fun b u j q => keep b u (fun w => j.elim (fun j => hJ (w ▸ j)) fun ⟨_, z⟩ => by subst w z; rw [ha] at q; cases q) q) fun b u hb q => keep b u (fun w => hafp' (w ▸ hb)) q), ?_, fun b hb => ?_⟩
      · refine List.nodup_append.mpr ⟨s1.nd, List.nodup_cons.mpr ⟨hafp', hnd (List.nodup_cons.mp (List.nodup_append.mp ndF).2.1).2⟩, fun x hx y hy z => ?_⟩
        subst z
        rcases List.mem_cons.mp hy with rfl | hy
        · exact hF1 hx
        · exact (List.nodup_append.mp ndF).2.2 x hx x (List.mem_cons_of_mem _ (hsub x hy)) rfl
      · rcases List.mem_cons.mp hb with rfl | hb
        · exact hJ
        · exact o.jf b (List.mem_cons_of_mem _ (hsub b hb))
    have hi : i < e.length := (List.getElem?_eq_some_iff.mp h).1
    obtain ⟨F', s3, pm3⟩ := s2.put (i := i) (by simp [hi]) hv o2
    rw [List.set_set] at s3
    refine ⟨F', s3, ⟨fun b u q hb => keep b u (fun w => ?_) q, dm, fun _ j => j, fun b hb => ?_, fun b z => .inl z, fun b xs q => keep b _ (fun w => by subst w; rw [ha] at q; cases q) q⟩⟩
    · subst w
      exact hb (pm.mem_iff.mpr (List.mem_append_right _ List.mem_cons_self))
    · left
      rcases List.mem_append.mp (pm3.mem_iff.mp hb) with z | z
      · exact pm.mem_iff.mpr (List.mem_append_left _ z)
      · rcases List.mem_cons.mp z with rfl | z
        · exact pm.mem_iff.mpr (List.mem_append_right _ List.mem_cons_self)
        · exact pm.mem_iff.mpr (List.mem_append_right _ (List.mem_cons_of_mem _ (hsub b z)))
end
/-! what is looked up -/
def hasT (t : T) (k : D) : Option Bool := match t, keyO k with
  | .dct kvs, some j => some (valT kvs j).isSome
  | .leaf (.dict ds), some j => if isObj (.dict ds) then none else some (valD ds j).isSome
  | _, _ => none
def getT (t : T) (k : D) : Option D := match t, keyO k with
  | .dct kvs, some j => (match valT kvs j with
    | some (.leaf d) => some d
    | _ => none)
  | .leaf (.dict ds), some j => if isObj (.dict ds) then none else valD ds j
  | _, _ => none
def gDin (neg : Bool) (f : M D) (i : Nat) : M T := bnd f fun k => bnd (peek i fun t => hasT t k) fun b => ret (.leaf (.bool (b != neg)))
def gDix (i : Nat) (f : M D) : M D := bnd (held i) fun _ => bnd f fun k => peek i fun t => getT t k
def dputT (i : Nat) (k d : D) : M Unit := fun e => match e[i]?, keyO k with
  | some (some (.dct ts)), some j => if ts.length < most then .ok () (e.set i (some (.dct (putT ts j (.leaf d))))) else .bad
  | _, _ => .bad
def gDput (i : Nat) (fk fv : M D) : M Fl := bnd fv fun d => bnd (held i) fun _ => bnd fk fun k => bnd (dputT i k d) fun _ => ret .nx
section
variable {X : Cx} {pn : List (Nat × V)} {a b c : Expr} {pos pos' : Pos} {es : List Expr}
theorem dget_of {K : PySem.W.Frag} {J : Addr → Prop} {H : Hp} {v y : V} {t : T} {k : D} {fp : List Addr} {b : Bool} (h : hasT t k = some b) (rt : RT K J H v t fp) (ry : RD K J H y k) : ∃ a o, v = .ref a ∧ DGet H a y o ∧ o.isSome = b := by
  unfold hasT at h
  split at h
  · rename_i kvs j hj
    cases h
    cases rt with
    | dct ha rk =>
      have e := keyO_rd hj ry
      subst e
      exact ⟨_, _, rfl, DGet.k ha, (rk.val j).1⟩
  · rename_i ds j hj
    split at h
    · cases h
    rename_i hno
    cases h
    cases rt with
    | leaf r =>
      cases r with
      | dct jj ha rk =>
        have e := keyO_rd hj ry
        subst e
        exact ⟨_, _, rfl, DGet.k ha, (rk.val j).1⟩
      | obj _ _ _ _ => simp [isObj] at hno
  · cases h
theorem dget_at {K : PySem.W.Frag} {J : Addr → Prop} {H : Hp} {v y : V} {t : T} {k d : D} {fp : List Addr} (h : getT t k = some d) (rt : RT K J H v t fp) (ry : RD K J H y k) : ∃ a w, v = .ref a ∧ DGet H a y (some w) ∧ RD K J H w d := by
  unfold getT at h
  split at h
  · rename_i kvs j hj
    split at h
    · rename_i d' hd
      cases h
      cases rt with
      | dct ha rk =>
        have e := keyO_rd hj ry
        subst e
        obtain ⟨w, g, h1, h2⟩ := (rk.val j).2 _ hd
        cases h2 with
        | leaf rd => exact ⟨_, w, rfl, h1 ▸ DGet.k ha, rd⟩
    · cases h
  · rename_i ds j hj
    split at h
    · cases h
    rename_i hno
    cases rt with
    | leaf r =>
      cases r with
      | dct jj ha rk =>
        have e := keyO_rd hj ry
        subst e
        obtain ⟨w, h1, h2⟩ := (rk.val j).2 _ h
        exact ⟨_, w, rfl, h1 ▸ DGet.k ha, h2⟩
      | obj _ _ _ _ => simp [isObj] at hno
  · cases h
theorem ie_din {neg : Bool} {i : Nat} {f : M D} {op : CmpOp} (hop : op = (if neg then .NotIn else .In)) (hu : X.A.units + 1 < cLine) (hb : PE X a (rdD X.K pn f)) (ha : PE X b (tVar i)) (hm : behindInMarks op b = false) : IE X pn (.Compare a [op] [b] pos) (gDin neg f i) := by
  have w1 : ∀ (σ : L2.St) (H : Hp) (Q : VK), rdE X.K pn (gDin neg f i) σ H Q → rdD X.K pn f σ H fun y H1 => tVar i σ H1 fun x H2 => ∃ a o, x = .ref a ∧ DGet H2 a y o ∧ Q (.bl (o.isSome != neg)) H2 := by
    rintro σ H Q ⟨e, J, F, s, t, e', h, q⟩
    obtain ⟨k, e1, h1, h2⟩ := bnd_ok h
    obtain ⟨bb, e2, h3, h4⟩ := bnd_ok h2
    obtain ⟨rfl, t0, h5, h6⟩ := peek_ok h3
    cases h4
    refine ⟨e, J, F, s, k, _, h1, fun y H1 J1 F1 s1 r1 tr1 => ?_⟩
    obtain ⟨v, fp, hv, rt⟩ := s1.at h5
    obtain ⟨aa, o, rfl, g, ho⟩ := dget_of h6 rt r1
    refine ⟨_, hv, aa, o, rfl, g, ?_⟩
    rw [ho]
    exact q _ H1 J1 F1 [] s1 ⟨.leaf (.bl _), by simpa using s1.nd, fun _ z => nomatch z⟩ (by simpa using tr1)
  cases neg with
  | true =>
    simp only [if_true] at hop
    subst hop
    have w2 : ∀ (σ : L2.St) (H : Hp) (Q : VK), rdE X.K pn (gDin true f i) σ H Q → tDNotIn (rdD X.K pn f) (tVar i) σ H Q := fun σ H Q q => by
      have := w1 σ H Q q
      simpa [tDNotIn] using this
    exact ⟨PE.weak (pe_cmp (pc_dnotin hu hb ha) hm) w2, fun _ => PT.weak (pt_cmp (pc_dnotin hu hb ha) hm) fun σ H Q q => w2 _ _ _ (rdT_of q), rfl⟩
  | false =>
    simp only [Bool.false_eq_true, if_false] at hop
    subst hop
    have w2 : ∀ (σ : L2.St) (H : Hp) (Q : VK), rdE X.K pn (gDin false f i) σ H Q → tDIn (rdD X.K pn f) (tVar i) σ H Q := fun σ H Q q => by
      have := w1 σ H Q q
      simpa [tDIn] using this
    exact ⟨PE.weak (pe_cmp (pc_din hu hb ha) hm) w2, fun _ => PT.weak (pt_cmp (pc_din hu hb ha) hm) fun σ H Q q => w2 _ _ _ (rdT_of q), rfl⟩
theorem ie_dix {i : Nat} {f : M D} (hu : X.A.units + 1 < cLine) (ha : PE X a (tVar i)) (hb : PE X b (rdD X.K pn f)) (hs : isPlain b = true) : IE X pn (.Subscript a b pos) (lf (gDix i f)) :=
  ie_mk (pe_lf (PE.weak (pe_dget hu ha hb (plain_of' hs)) fun σ H Q ⟨e, J, F, s, t, e', h, q⟩ => by
    obtain ⟨_, e0, h1, h2⟩ := bnd_ok h
    obtain ⟨rfl, t0, h0⟩ := held_ok h1
    obtain ⟨y, e1, h3, h4⟩ := bnd_ok h2
    obtain ⟨rfl, x, hx, h5⟩ := peek_ok h4
    obtain ⟨v, fp0, hv, _⟩ := s.at h0
    refine ⟨v, hv, _, J, F, s, y, _, h3, fun u H2 J2 F2 s2 r2 tr2 => ?_⟩
    obtain ⟨v', fp, hv', rt⟩ := s2.at hx
    rw [hv] at hv'
    cases hv'
    obtain ⟨aa, w, rfl, g, rw'⟩ := dget_at h5 rt r2
    exact ⟨aa, w, rfl, g, q w H2 J2 F2 s2 rw' tr2⟩))
theorem is_dput {i : Nat} {fk fv : M D} (hu : X.A.units + 1 < cLine) (ho : PE X a (tVar i)) (hi : PE X b (rdD X.K pn fk)) (hv : PE X c (rdD X.K pn fv)) (hs : swapsWith c (some (.Subscript a b pos')) pos.line X.env = pure false) :
    PS X (.Assign [.Subscript a b pos'] c pos) (rdS X.K pn (gDput i fk fv)) := PS.weak (ps_dput hu ho hi hv hs) fun D σ H ⟨e, J, F, s, fl, e', h, q⟩ => by
  obtain ⟨d, e1, h1, h2⟩ := bnd_ok h
  obtain ⟨_, e2, h3, h4⟩ := bnd_ok h2
  obtain ⟨rfl, t0, h0⟩ := held_ok h3
  obtain ⟨k, e3, h5, h6⟩ := bnd_ok h4
  obtain ⟨_, e4, h7, h8⟩ := bnd_ok h6
  cases h8
  refine ⟨e, J, F, s, d, _, h1, fun v H1 J1 F1 s1 r1 tr1 => ?_⟩
  obtain ⟨ov, fpo, hov, _⟩ := s1.at h0
  refine ⟨ov, hov, _, J1, F1, s1, k, e3, h5, fun y H2 J2 F2 s2 r2 tr2 => ?_⟩
  unfold dputT at h7
  split at h7
  · rename_i ts j hts hj
    split at h7
    · rename_i hl
      cases h7
      obtain ⟨aa, vs, hv', ha', fp, rk, go⟩ := s2.turnK (ts' := putT ts j (.leaf d)) hts
      rw [hov] at hv'
      cases hv'
      have ek := keyO_rd hj r2
      subst ek
      have rd := r1.step tr2 s1.jf
      obtain ⟨fp', k1, k2, k3⟩ := RTk.put rd j rk
      obtain ⟨F', s3, tr3⟩ := go _ fp' k1 k2 k3
      refine ⟨aa, _, rfl, DPut.k ha' (by rw [rk.length]; exact most_lt (Nat.le_of_lt hl)), ?_⟩
      exact q σ _ J2 F' s3 (tr1.trans (tr2.trans tr3))
    · cases h7
  · cases h7
end
/-! a display of constants -/
def dV : D → V
  | .int i => .int i
  | .str x => .str x
  | .bool b => .bl b
  | _ => .non
def conOk : Expr → D → Bool
  | .Constant (.int i) _ _, .int j => decide (i = j)
  | .Constant (.str x) _ _, .str y => decide (x = y)
  | .Constant (.bool b) _ _, .bool c => decide (b = c)
  | .Constant .none _ _, .none => true
  | _, _ => false
section
variable {X : Cx} {pn : List (Nat × V)} {a b c : Expr} {pos pos' : Pos} {es : List Expr}
theorem con_pe {e : Expr} {d : D} (h : conOk e d = true) : PE X e (tC (dV d)) ∧ ∀ {K : PySem.W.Frag} {J : Addr → Prop} {H : Hp}, RD K J H (dV d) d := by
  unfold conOk at h
  split at h
  · have := of_decide_eq_true h; subst this; exact ⟨pe_int, .int _⟩
  · have := of_decide_eq_true h; subst this; exact ⟨pe_str, .str _⟩
  · have := of_decide_eq_true h; subst this; exact ⟨pe_bl, .bl _⟩
  · exact ⟨pe_non, .non⟩
  · cases h
theorem dV_kD (k : Key) : dV (kD k) = kV k := by cases k <;> rfl
def chkKvs : List (Key × D) → List (Option Expr) → List Expr → Bool
  | [], [], [] => true
  | kv :: r, some k :: ks, v :: vs => conOk k (kD kv.1) && conOk v kv.2 && chkKvs r ks vs
  | _, _, _ => false
def kvT (kvs : List (Key × D)) : List (TE × TE) := kvs.map fun kv => (tC (kV kv.1), tC (dV kv.2))
theorem chk_pps : ∀ {kvs : List (Key × D)} {ks : List (Option Expr)} {vs : List Expr}, chkKvs kvs ks vs = true → PPs X pos ks vs (kvT kvs) ∧ ks.all (·.isSome) = true ∧ ks.length = vs.length ∧ ks.length = kvs.length ∧ ∀ {K : PySem.W.Frag} {J : Addr → Prop} {H : Hp}, RTk K J H (kvs.map fun kv => (kv.1, dV kv.2)) (kvs.map fun kv => (kv.1, .leaf kv.2)) []
  | [], [], [], _ => ⟨pps_nil, rfl, rfl, rfl, .nil⟩
  | kv :: r, some k :: ks, v :: vs, h => by
    simp only [chkKvs, Bool.and_eq_true] at h
    obtain ⟨⟨h1, h2⟩, h3⟩ := h
    obtain ⟨q1, q2, q3, q4, q5⟩ := chk_pps h3
    obtain ⟨k1, _⟩ := con_pe (X := X) h1
    obtain ⟨v1, v2⟩ := con_pe (X := X) h2
    rw [dV_kD] at k1
    exact ⟨pps_cons k1 v1 q1, by simp [q2], by simp [q3], by simp [q4], RTk.cons (.leaf v2) q5⟩
  | [], [], _ :: _, h => by simp [chkKvs] at h
  | [], _ :: _, _, h => by simp [chkKvs] at h
  | _ :: _, [], _, h => by simp [chkKvs] at h
  | _ :: _, none :: _, _, h => by simp [chkKvs] at h
  | _ :: _, some _ :: _, [], h => by simp [chkKvs] at h
theorem kv_pairs {σ : L2.St} : ∀ {kvs : List (Key × D)} {H : Hp} {Q : List (V × V) → Hp → Prop}, Q (kvs.map fun kv => (kV kv.1, dV kv.2)) H → tPairs (kvT kvs) σ H Q
  | [], _, _, h => h
  | kv :: r, H, Q, h => kv_pairs (kvs := r) (Q := fun ps H3 => Q ((kV kv.1, dV kv.2) :: ps) H3) h
theorem merge_nodup : ∀ {l acc : List (Key × V)}, ((acc ++ l).map (·.1)).Nodup → mergeK acc l = acc ++ l
  | [], acc, _ => by simp [mergeK]
  | p :: r, acc, h => by
    have hn : (acc.any fun kv => decide (kv.1 = p.1)) = false := by
      rw [List.any_eq_false]
      intro q hq z
      have e := of_decide_eq_true z
      rw [List.map_append, List.nodup_append] at h
      exact h.2.2 q.1 (List.mem_map_of_mem hq) p.1 (by simp) e
    have e : putK acc p.1 p.2 = acc ++ [p] := by unfold putK; rw [hn]; rfl
    show mergeK (putK acc p.1 p.2) r = _
    rw [e, merge_nodup (by simpa using h)]
    simp
def gDlit (kvs : List (Key × D)) : M T := ret (.dct (kvs.map fun kv => (kv.1, .leaf kv.2)))
theorem new_dct {K : PySem.W.Frag} {J : Addr → Prop} {H : Hp} {p : Addr} {vs : List (Key × V)} {ts : List (Key × T)} (hp : H p = none) (jd : ∀ a, J a → H a ≠ none) (r : RTk K J (upd H p (.dK vs)) vs ts []) : New K J H J (upd H p (.dK vs)) (.ref p) (.dct ts) [p] where
  rt := .dct upd_same r
  nd := by simp
  fr := fun a ha => by
    simp only [List.mem_cons, List.not_mem_nil, or_false] at ha
    subst ha
    exact ⟨hp, fun j => jd _ j hp⟩
  keep := fun b o q => by rw [upd_ne (fun z => by subst z; rw [hp] at q; cases q)]; exact q
  jj := fun _ j => j
  jnew := fun _ j => .inl j
  jd := fun b j => by
    by_cases hb : b = p
    · subst hb; rw [upd_same]; exact fun z => nomatch z
    · rw [upd_ne hb]; exact jd b j
theorem ie_dlit {kvs : List (Key × D)} {ks : List (Option Expr)} {vs : List Expr} (h : chkKvs kvs ks vs = true) (h15 : kvs.length ≤ 15) (hn : (kvs.map (·.1)).Nodup) : IE X pn (.Dict ks vs pos) (gDlit kvs) := by
  obtain ⟨q1, q2, q3, q4, q5⟩ := chk_pps (X := X) (pos := pos) h
  refine ie_mk ?_
  cases kvs with
  | nil =>
    have e1 : ks = [] := by cases ks with | nil => rfl | cons _ _ => simp at q4
    subst e1
    have e2 : vs = [] := by cases vs with | nil => rfl | cons _ _ => simp at q3
    subst e2
    refine PE.weak pe_dnewK fun σ H Q ⟨e, J, F, s, t, e', h, q⟩ => ?_
    cases h
    intro p hp
    obtain ⟨s1, o1, tr1⟩ := (new_dct (ts := []) hp s.jd .nil).sr s
    exact q _ _ J F [p] s1 o1 tr1
  | cons kv r =>
    refine PE.weak (pe_disp q1 q2 q3 (fun z => by rw [z] at q4; simp at q4) (by omega)) fun σ H Q ⟨e, J, F, s, t, e', h, q⟩ => ?_
    cases h
    intro p hp
    refine kv_pairs ⟨upd_same, (kv :: r).map fun kv => (kv.1, dV kv.2), by simp, by simpa using h15, ?_⟩
    rw [merge_nodup (by rw [List.nil_append, List.map_map]; exact hn), List.nil_append]
    have hu : ∀ (x y : HO), upd (upd H p x) p y = upd H p y := fun x y => by
      funext b
      by_cases hb : b = p
      · subst hb; rw [upd_same, upd_same]
      · rw [upd_ne hb, upd_ne hb, upd_ne hb]
    rw [hu]
    obtain ⟨s1, o1, tr1⟩ := (new_dct hp s.jd q5).sr s
    exact q _ _ J F [p] s1 o1 tr1
end
end IL

namespace IL
open PySem PySem.Spec PyProof.Rows L2
/-! a part of an own tree turned -/
/-- what stays at the heap: data, tuples, our own but for g -/
def Kg (J : Addr → Prop) (fp g : List Addr) (H H' : Hp) : Prop := ∀ b o, (J b ∨ (∃ xs, o = HO.tup xs) ∨ (b ∈ fp ∧ b ∉ g)) → H b = some o → H' b = some o
/-- our own as it was -/
def Kf (fp : List Addr) (H H' : Hp) : Prop := ∀ b o, b ∈ fp → H b = some o → H' b = some o
section
variable {K : PySem.W.Frag} {J : Addr → Prop} {H : Hp}
theorem Kg.kp {fp g : List Addr} {H' : Hp} (h : Kg J fp g H H') : Kp J H H' := fun b o j e => h b o (j.imp id .inl) e
theorem RTs.deep : ∀ {vs : List V} {ts : List T} {fp : List Addr} {j : Nat} {s : T}, RTs K J H vs ts fp → fp.Nodup → ts[j]? = some s →
    ∃ w g, vs[j]? = some w ∧ RT K J H w s g ∧ (∀ b ∈ g, b ∈ fp) ∧ g.Nodup ∧ ∀ (H' : Hp) (s' : T) (g' fx : List Addr), Kg J fp g H H' → RT K J H' w s' g' → (∀ b ∈ g', b ∈ g ∨ b ∈ fx) → (∀ b ∈ fx, b ∉ fp) → g'.Nodup →
      ∃ fp', RTs K J H' vs (ts.set j s') fp' ∧ (∀ b ∈ fp', b ∈ fp ∨ b ∈ fx) ∧ fp'.Nodup
  | _, _, _, _, _, .nil, _, h => by simp at h
  | _, _, _, 0, _, .cons (f := f) (g := f2) q s, nd, h => by
    cases h
    have n0 := List.nodup_append.mp nd
    refine ⟨_, f, rfl, q, fun b hb => List.mem_append_left _ hb, n0.1, fun H' s' g' fx hk r' hs hx hn => ?_⟩
    refine ⟨g' ++ f2, .cons r' (s.mono (fun _ j => j) hk.kp fun b o hb e => hk b o (.inr (.inr ⟨List.mem_append_right _ hb, fun z => n0.2.2 b z b hb rfl⟩)) e), fun b hb => ?_, ?_⟩
    · rcases List.mem_append.mp hb with z | z
      · exact (hs b z).imp (List.mem_append_left _) id
      · exact .inl (List.mem_append_right _ z)
    · refine List.nodup_append.mpr ⟨hn, n0.2.1, fun x hx' y hy z => ?_⟩
      subst z
      rcases hs x hx' with w | w
      · exact n0.2.2 x w x hy rfl
      · exact hx x w (List.mem_append_right _ hy)
  | _, _, _, j + 1, _, .cons (f := f) (g := f2) q s, nd, h => by
    have n0 := List.nodup_append.mp nd
    obtain ⟨w, g, h1, h2, h3, h4, h5⟩ := RTs.deep (j := j) s n0.2.1 h
    refine ⟨w, g, h1, h2, fun b hb => List.mem_append_right _ (h3 b hb), h4, fun H' s' g' fx hk r' hs hx hn => ?_⟩
    obtain ⟨fp', k1, k2, k3⟩ := h5 H' s' g' fx (fun b o hb e => hk b o (hb.imp id (Or.imp id fun z => ⟨List.mem_append_right _ z.1, z.2⟩)) e) r' hs (fun b hb z => hx b hb (List.mem_append_right _ z)) hn
    refine ⟨f ++ fp', .cons (q.mono (fun _ j => j) hk.kp fun b o hb e => hk b o (.inr (.inr ⟨List.mem_append_left _ hb, fun z => n0.2.2 b hb b (h3 b z) rfl⟩)) e) k1, fun b hb => ?_, ?_⟩
    · rcases List.mem_append.mp hb with z | z
      · exact .inl (List.mem_append_left _ z)
      · exact (k2 b z).imp (List.mem_append_right _) id
    · refine List.nodup_append.mpr ⟨n0.1, k3, fun x hx' y hy z => ?_⟩
      subst z
      rcases k2 x hy with w | w
      · exact n0.2.2 x hx' x w rfl
      · exact hx x w (List.mem_append_left _ hx')
def setK (ts : List (Key × T)) (k : Key) (t : T) : List (Key × T) := match ts with
  | [] => []
  | p :: r => if p.1 = k then (p.1, t) :: r else p :: setK r k t
theorem RTk.deep : ∀ {vs : List (Key × V)} {ts : List (Key × T)} {fp : List Addr} {k : Key} {s : T}, RTk K J H vs ts fp → fp.Nodup → valT ts k = some s →
    ∃ w g, valV vs k = some w ∧ RT K J H w s g ∧ (∀ b ∈ g, b ∈ fp) ∧ g.Nodup ∧ ∀ (H' : Hp) (s' : T) (g' fx : List Addr), Kg J fp g H H' → RT K J H' w s' g' → (∀ b ∈ g', b ∈ g ∨ b ∈ fx) → (∀ b ∈ fx, b ∉ fp) → g'.Nodup →
      ∃ fp', RTk K J H' vs (setK ts k s') fp' ∧ (∀ b ∈ fp', b ∈ fp ∨ b ∈ fx) ∧ fp'.Nodup
  | _, _, _, k, _, .nil, _, h => by simp [valT] at h
  | _, _, _, k, _, .cons (k := j) (v := v) (vs := vs) (t := t) (ts := ts) (f := f) (g := f2) q s, nd, h => by
    have n0 := List.nodup_append.mp nd
    by_cases hj : j = k
    · subst hj
      simp [valT] at h
      subst h
      refine ⟨v, f, by simp [valV], q, fun b hb => List.mem_append_left _ hb, n0.1, fun H' s' g' fx hk r' hs hx hn => ?_⟩
      refine ⟨g' ++ f2, by simpa [setK] using RTk.cons r' (s.mono (fun _ j => j) hk.kp fun b o hb e => hk b o (.inr (.inr ⟨List.mem_append_right _ hb, fun z => n0.2.2 b z b hb rfl⟩)) e), fun b hb => ?_, ?_⟩
      · rcases List.mem_append.mp hb with z | z
        · exact (hs b z).imp (List.mem_append_left _) id
        · exact .inl (List.mem_append_right _ z)
      · refine List.nodup_append.mpr ⟨hn, n0.2.1, fun x hx' y hy z => ?_⟩
        subst z
        rcases hs x hx' with w | w
        · exact n0.2.2 x w x hy rfl
        · exact hx x w (List.mem_append_right _ hy)
    · have e1 : valV ((j, v) :: vs) k = valV vs k := valV_neg hj
      have e2 : valT ((j, t) :: ts) k = valT ts k := by simp [valT, List.find?_cons, hj]
      rw [e2] at h
      obtain ⟨w, g, h1, h2, h3, h4, h5⟩ := RTk.deep s n0.2.1 h
      refine ⟨w, g, by rw [e1]; exact h1, h2, fun b hb => List.mem_append_right _ (h3 b hb), h4, fun H' s' g' fx hk r' hs hx hn => ?_⟩
      obtain ⟨fp', k1, k2, k3⟩ := h5 H' s' g' fx (fun b o hb e => hk b o (hb.imp id (Or.imp id fun z => ⟨List.mem_append_right _ z.1, z.2⟩)) e) r' hs (fun b hb z => hx b hb (List.mem_append_right _ z)) hn
      refine ⟨f ++ fp', by simpa [setK, hj] using RTk.cons (q.mono (fun _ j => j) hk.kp fun b o hb e => hk b o (.inr (.inr ⟨List.mem_append_left _ hb, fun z => n0.2.2 b hb b (h3 b z) rfl⟩)) e) k1, fun b hb => ?_, ?_⟩
      · rcases List.mem_append.mp hb with z | z
        · exact .inl (List.mem_append_left _ z)
        · exact (k2 b z).imp (List.mem_append_right _) id
      · refine List.nodup_append.mpr ⟨n0.1, k3, fun x hx' y hy z => ?_⟩
        subst z
        rcases k2 x hy with w | w
        · exact n0.2.2 x hx' x w rfl
        · exact hx x w (List.mem_append_left _ hx')
theorem fkv_val : ∀ {fs : List (Str × V)} {f : Str}, valV (fkv fs) (.inr f) = fs.lookup f
  | [], _ => rfl
  | (g, x) :: r, f => by
    by_cases h : g = f
    · subst h
      rw [show fkv ((g, x) :: r) = (.inr g, x) :: fkv r from rfl, valV_pos rfl]
      simp [List.lookup]
    · have hb : (f == g) = false := beq_eq_false_iff_ne.mpr fun z => h z.symm
      rw [show fkv ((g, x) :: r) = (.inr g, x) :: fkv r from rfl, valV_neg (by simpa using h), fkv_val (fs := r)]
      simp [List.lookup, hb]
/-- one step down: a field, a key of a dict, an item of a list or tuple -/
inductive Stp where
  | fld (f : Str)
  | key (k : Key)
  | at (z : Int)
def sub1 : T → Stp → Option T
  | .lst ts, .at z => (ixN ts.length z).bind fun j => ts[j]?
  | .tup ts, .at z => (ixN ts.length z).bind fun j => ts[j]?
  | .dct kvs, .key k => valT kvs k
  | .obj _ kvs, .fld f => valT kvs (.inr f)
  | _, _ => none
def rep1 : T → Stp → T → T
  | .lst ts, .at z, s => (match ixN ts.length z with
    | some j => .lst (ts.set j s)
    | none => .lst ts)
  | .tup ts, .at z, s => (match ixN ts.length z with
    | some j => .tup (ts.set j s)
    | none => .tup ts)
  | .dct kvs, .key k, s => .dct (setK kvs k s)
  | .obj C kvs, .fld f, s => .obj C (setK kvs (.inr f) s)
  | t, _, _ => t
/-- what the heap tells at v by a step -/
def StepV (H : Hp) (v : V) (d : Stp) (w : V) : Prop := match d with
  | .at z => ∃ a vs j, v = .ref a ∧ (H a = some (.lst vs) ∨ H a = some (.tup vs)) ∧ ixN vs.length z = some j ∧ vs[j]? = some w
  | .key k => ∃ a kvs, v = .ref a ∧ H a = some (.dK kvs) ∧ valV kvs k = some w
  | .fld f => ∃ a C dx fs, v = .ref a ∧ H a = some (.ins C dx fs) ∧ fs.lookup f = some w
theorem StepV.uniq {v w w' : V} {d : Stp} (h : StepV H v d w) (h' : StepV H v d w') : w = w' := by
  cases d with
  | «at» z =>
    obtain ⟨a, vs, j, rfl, h1, h2, h3⟩ := h
    obtain ⟨a', vs', j', e, h1', h2', h3'⟩ := h'
    cases e
    have : vs = vs' := by
      rcases h1 with h1 | h1 <;> rcases h1' with h1' | h1' <;> rw [h1] at h1' <;> cases h1' <;> rfl
    subst this
    rw [h2] at h2'
    cases h2'
    rw [h3] at h3'
    cases h3'
    rfl
  | key k =>
    obtain ⟨a, vs, rfl, h1, h2⟩ := h
    obtain ⟨a', vs', e, h1', h2'⟩ := h'
    cases e
    rw [h1] at h1'
    cases h1'
    rw [h2] at h2'
    cases h2'
    rfl
  | fld f =>
    obtain ⟨a, C, dx, fs, rfl, h1, h2⟩ := h
    obtain ⟨a', C', dx', fs', e, h1', h2'⟩ := h'
    cases e
    rw [h1] at h1'
    cases h1'
    rw [h2] at h2'
    cases h2'
    rfl
theorem RT.deep1 {v : V} {t s : T} {fp : List Addr} {d : Stp} (r : RT K J H v t fp) (nd : fp.Nodup) (h : sub1 t d = some s) :
    ∃ w g, StepV H v d w ∧ RT K J H w s g ∧ (∀ b ∈ g, b ∈ fp) ∧ g.Nodup ∧ (∀ H', Kf fp H H' → StepV H' v d w) ∧ ∀ (H' : Hp) (s' : T) (g' fx : List Addr), Kg J fp g H H' → RT K J H' w s' g' → (∀ b ∈ g', b ∈ g ∨ b ∈ fx) → (∀ b ∈ fx, b ∉ fp) → g'.Nodup →
      ∃ fp', RT K J H' v (rep1 t d s') fp' ∧ (∀ b ∈ fp', b ∈ fp ∨ b ∈ fx) ∧ fp'.Nodup := by
  cases r with
  | leaf r => simp [sub1] at h
  | lst ha rs =>
    rename_i a vs ts fp
    have n0 := List.nodup_cons.mp nd
    cases d with
    | «at» z =>
      simp only [sub1] at h
      cases hj : ixN ts.length z with
      | none => rw [hj] at h; cases h
      | some j =>
        rw [hj] at h
        obtain ⟨w, g, h1, h2, h3, h4, h5⟩ := RTs.deep rs n0.2 h
        refine ⟨w, g, ⟨a, vs, j, rfl, .inl ha, by rw [rs.length]; exact hj, h1⟩, h2, fun b hb => List.mem_cons_of_mem _ (h3 b hb), h4, fun H' hk => ⟨a, vs, j, rfl, .inl (hk a _ List.mem_cons_self ha), by rw [rs.length]; exact hj, h1⟩, fun H' s' g' fx hk r' hs hx hn => ?_⟩
        obtain ⟨fp', k1, k2, k3⟩ := h5 H' s' g' fx (fun b o hb e => hk b o (hb.imp id (Or.imp id fun q => ⟨List.mem_cons_of_mem _ q.1, q.2⟩)) e) r' hs (fun b hb z => hx b hb (List.mem_cons_of_mem _ z)) hn
        refine ⟨a :: fp', ?_, fun b hb => ?_, List.nodup_cons.mpr ⟨fun q => (k2 a q).elim n0.1 fun q => hx a q List.mem_cons_self, k3⟩⟩
        · simp only [rep1, hj]
          exact .lst (hk a _ (.inr (.inr ⟨List.mem_cons_self, fun q => n0.1 (h3 a q)⟩)) ha) k1
        · rcases List.mem_cons.mp hb with rfl | hb
          · exact .inl List.mem_cons_self
          · exact (k2 b hb).imp (List.mem_cons_of_mem _) id
    | _ => simp [sub1] at h
  | tup ha rs =>
    rename_i a vs ts fp
    have n0 := List.nodup_cons.mp nd
    cases d with
    | «at» z =>
      simp only [sub1] at h
      cases hj : ixN ts.length z with
      | none => rw [hj] at h; cases h
      | some j =>
        rw [hj] at h
        obtain ⟨w, g, h1, h2, h3, h4, h5⟩ := RTs.deep rs n0.2 h
        refine ⟨w, g, ⟨a, vs, j, rfl, .inr ha, by rw [rs.length]; exact hj, h1⟩, h2, fun b hb => List.mem_cons_of_mem _ (h3 b hb), h4, fun H' hk => ⟨a, vs, j, rfl, .inr (hk a _ List.mem_cons_self ha), by rw [rs.length]; exact hj, h1⟩, fun H' s' g' fx hk r' hs hx hn => ?_⟩
        obtain ⟨fp', k1, k2, k3⟩ := h5 H' s' g' fx (fun b o hb e => hk b o (hb.imp id (Or.imp id fun q => ⟨List.mem_cons_of_mem _ q.1, q.2⟩)) e) r' hs (fun b hb z => hx b hb (List.mem_cons_of_mem _ z)) hn
        refine ⟨a :: fp', ?_, fun b hb => ?_, List.nodup_cons.mpr ⟨fun q => (k2 a q).elim n0.1 fun q => hx a q List.mem_cons_self, k3⟩⟩
        · simp only [rep1, hj]
          exact .tup (hk a _ (.inr (.inl ⟨_, rfl⟩)) ha) k1
        · rcases List.mem_cons.mp hb with rfl | hb
          · exact .inl List.mem_cons_self
          · exact (k2 b hb).imp (List.mem_cons_of_mem _) id
    | _ => simp [sub1] at h
  | dct ha rs =>
    rename_i a vs ts fp
    have n0 := List.nodup_cons.mp nd
    cases d with
    | key k =>
      simp only [sub1] at h
      obtain ⟨w, g, h1, h2, h3, h4, h5⟩ := RTk.deep rs n0.2 h
      refine ⟨w, g, ⟨a, vs, rfl, ha, h1⟩, h2, fun b hb => List.mem_cons_of_mem _ (h3 b hb), h4, fun H' hk => ⟨a, vs, rfl, hk a _ List.mem_cons_self ha, h1⟩, fun H' s' g' fx hk r' hs hx hn => ?_⟩
      obtain ⟨fp', k1, k2, k3⟩ := h5 H' s' g' fx (fun b o hb e => hk b o (hb.imp id (Or.imp id fun q => ⟨List.mem_cons_of_mem _ q.1, q.2⟩)) e) r' hs (fun b hb z => hx b hb (List.mem_cons_of_mem _ z)) hn
      refine ⟨a :: fp', .dct (hk a _ (.inr (.inr ⟨List.mem_cons_self, fun q => n0.1 (h3 a q)⟩)) ha) k1, fun b hb => ?_, List.nodup_cons.mpr ⟨fun q => (k2 a q).elim n0.1 fun q => hx a q List.mem_cons_self, k3⟩⟩
      rcases List.mem_cons.mp hb with rfl | hb
      · exact .inl List.mem_cons_self
      · exact (k2 b hb).imp (List.mem_cons_of_mem _) id
    | _ => simp [sub1] at h
  | obj oc ha rs =>
    rename_i a C dx fs ts fp
    have n0 := List.nodup_cons.mp nd
    cases d with
    | fld f =>
      simp only [sub1] at h
      obtain ⟨w, g, h1, h2, h3, h4, h5⟩ := RTk.deep rs n0.2 h
      rw [fkv_val] at h1
      refine ⟨w, g, ⟨a, C, dx, fs, rfl, ha, h1⟩, h2, fun b hb => List.mem_cons_of_mem _ (h3 b hb), h4, fun H' hk => ⟨a, C, dx, fs, rfl, hk a _ List.mem_cons_self ha, h1⟩, fun H' s' g' fx hk r' hs hx hn => ?_⟩
      obtain ⟨fp', k1, k2, k3⟩ := h5 H' s' g' fx (fun b o hb e => hk b o (hb.imp id (Or.imp id fun q => ⟨List.mem_cons_of_mem _ q.1, q.2⟩)) e) r' hs (fun b hb z => hx b hb (List.mem_cons_of_mem _ z)) hn
      refine ⟨a :: fp', .obj oc (hk a _ (.inr (.inr ⟨List.mem_cons_self, fun q => n0.1 (h3 a q)⟩)) ha) k1, fun b hb => ?_, List.nodup_cons.mpr ⟨fun q => (k2 a q).elim n0.1 fun q => hx a q List.mem_cons_self, k3⟩⟩
      rcases List.mem_cons.mp hb with rfl | hb
      · exact .inl List.mem_cons_self
      · exact (k2 b hb).imp (List.mem_cons_of_mem _) id
    | _ => simp [sub1] at h
/-- several steps -/
def subP : T → List Stp → Option T
  | t, [] => some t
  | t, d :: ds => (sub1 t d).bind fun u => subP u ds
def repP : T → List Stp → T → T
  | _, [], s => s
  | t, d :: ds, s => match sub1 t d with
    | some u => rep1 t d (repP u ds s)
    | none => t
def PathV (H : Hp) : V → List Stp → V → Prop
  | v, [], w => v = w
  | v, d :: ds, w => ∃ u, StepV H v d u ∧ PathV H u ds w
theorem PathV.uniq : ∀ {ds : List Stp} {v w w' : V}, PathV H v ds w → PathV H v ds w' → w = w'
  | [], _, _, _, h, h' => h.symm.trans h'
  | d :: ds, _, _, _, ⟨u, h1, h2⟩, ⟨u', h1', h2'⟩ => by
    cases h1.uniq h1'
    exact h2.uniq h2'
theorem PathV.snoc : ∀ {ds : List Stp} {d : Stp} {v u w : V}, PathV H v ds u → StepV H u d w → PathV H v (ds ++ [d]) w
  | [], d, v, u, w, h, h2 => by cases h; exact ⟨w, h2, rfl⟩
  | e :: ds, d, v, u, w, ⟨x, h1, h2⟩, h3 => ⟨x, h1, h2.snoc h3⟩
theorem subP_snoc : ∀ {ds : List Stp} {d : Stp} {t : T}, subP t (ds ++ [d]) = (subP t ds).bind fun u => sub1 u d
  | [], d, t => by simp [subP]
  | e :: ds, d, t => by
    simp only [List.cons_append, subP]
    cases sub1 t e with
    | none => rfl
    | some u => exact subP_snoc (ds := ds)
theorem RT.deepP : ∀ {ds : List Stp} {v : V} {t s : T} {fp : List Addr}, RT K J H v t fp → fp.Nodup → subP t ds = some s →
    ∃ w g, PathV H v ds w ∧ RT K J H w s g ∧ (∀ b ∈ g, b ∈ fp) ∧ g.Nodup ∧ (∀ H', Kf fp H H' → PathV H' v ds w) ∧ ∀ (H' : Hp) (s' : T) (g' fx : List Addr), Kg J fp g H H' → RT K J H' w s' g' → (∀ b ∈ g', b ∈ g ∨ b ∈ fx) → (∀ b ∈ fx, b ∉ fp) → g'.Nodup →
      ∃ fp', RT K J H' v (repP t ds s') fp' ∧ (∀ b ∈ fp', b ∈ fp ∨ b ∈ fx) ∧ fp'.Nodup
  | [], v, t, s, fp, r, nd, h => by
    cases h
    exact ⟨v, fp, rfl, r, fun _ hb => hb, nd, fun _ _ => rfl, fun H' s' g' fx _ r' hs hx hn => ⟨g', r', hs, hn⟩⟩
  | d :: ds, v, t, s, fp, r, nd, h => by
    simp only [subP] at h
    cases hu : sub1 t d with
    | none => rw [hu] at h; cases h
    | some u =>
      rw [hu] at h
      obtain ⟨x, g1, a1, a2, a3, a4, a6, a5⟩ := RT.deep1 r nd hu
      obtain ⟨w, g, b1, b2, b3, b4, b6, b5⟩ := RT.deepP (ds := ds) a2 a4 h
      refine ⟨w, g, ⟨x, a1, b1⟩, b2, fun b hb => a3 b (b3 b hb), b4, fun H' hk => ⟨x, a6 H' hk, b6 H' fun b o hb e => hk b o (a3 b hb) e⟩, fun H' s' g' fx hk r' hs hx hn => ?_⟩
      obtain ⟨f1, k1, k2, k3⟩ := b5 H' s' g' fx (fun b o hb e => hk b o (hb.imp id (Or.imp id fun q => ⟨a3 b q.1, q.2⟩)) e) r' hs (fun b hb z => hx b hb (a3 b z)) hn
      obtain ⟨f2, l1, l2, l3⟩ := a5 H' (repP u ds s') f1 fx (fun b o hb e => hk b o (hb.imp id (Or.imp id fun q => ⟨q.1, fun z => q.2 (b3 b z)⟩)) e) k1 k2 hx k3
      refine ⟨f2, ?_, l2, l3⟩
      simp only [repP, hu]
      exact l1
variable {pn : List (Nat × V)} {σ : L2.St} {e : En} {F : List Addr}
/-- the part at ds of the tree in slot i turned -/
theorem SR.turnP (s : SR K pn σ H e J F) {i : Nat} {t u : T} {ds : List Stp} {fx : List Addr} (h : e[i]? = some (some t)) (hs : subP t ds = some u) (nd : (F ++ fx).Nodup) (jf : ∀ a ∈ fx, ¬ J a) :
    ∃ v w g, σ[i]? = some (some v) ∧ PathV H v ds w ∧ RT K J H w u g ∧ (∀ b ∈ g, b ∈ F) ∧ g.Nodup ∧ (∀ b ∈ g, ¬ J b) ∧ ∀ (H' : Hp) (u' : T) (g' : List Addr), (∀ b o, b ∉ g → H b = some o → H' b = some o) → (∀ b, H b ≠ none → H' b ≠ none) → (∀ b xs, H b = some (.tup xs) → H' b = some (.tup xs)) →
      RT K J H' w u' g' → (∀ b ∈ g', b ∈ g ∨ b ∈ fx) → g'.Nodup →
      ∃ F', SR K pn σ H' (e.set i (some (repP t ds u'))) J F' ∧ Tr J H (F ++ fx) J H' F' := by
  obtain ⟨v, fp, F1, hv, o, s1, pm⟩ := s.take h
  have nfp : fp.Nodup := (List.nodup_append.mp o.nd).2.1
  obtain ⟨w, g, b1, b2, b3, b4, b6, b5⟩ := o.rt.deepP nfp hs
  refine ⟨v, w, g, hv, b1, b2, fun b hb => pm.mem_iff.mpr (List.mem_append_right _ (b3 b hb)), b4, fun b hb => o.jf b (b3 b hb), fun H' u' g' hk dm tp r' hsub hn => ?_⟩
  have nd2 : ((F1 ++ fp) ++ fx).Nodup := ((List.Perm.append_right fx pm).nodup_iff).mp nd
  have xf : ∀ b ∈ fx, b ∉ fp := fun b hb z => (List.nodup_append.mp nd2).2.2 b (List.mem_append_right _ z) b hb rfl
  have kg : Kg J fp g H H' := fun b o' hb q => by
    rcases hb with z | ⟨xs, rfl⟩ | z
    · exact hk b o' (fun y => o.jf b (b3 b y) z) q
    · exact tp b xs q
    · exact hk b o' z.2 q
  obtain ⟨fp', k1, k2, k3⟩ := b5 H' u' g' fx kg r' hsub xf hn
  have F1g : ∀ b ∈ F1, b ∉ g := fun b hb z => (List.nodup_append.mp o.nd).2.2 b hb b (b3 b z) rfl
  have s2 : SR K pn σ H' (e.set i none) J F1 := s1.step (fun _ j => j) (fun b o' z q => by
    rcases z with z | z | ⟨xs, rfl⟩
    · exact hk b o' (fun y => o.jf b (b3 b y) z) q
    · exact hk b o' (F1g b z) q
    · exact tp b xs q) (fun b z => dm b (s.jd b z)) s1.jf
  have o2 : Own K J H' F1 v (repP t ds u') fp' := by
    refine ⟨k1, List.nodup_append.mpr ⟨s1.nd, k3, fun x hx y hy z => ?_⟩, fun b hb => ?_⟩
    · subst z
      rcases k2 x hy with q | q
      · exact (List.nodup_append.mp o.nd).2.2 x hx x q rfl
      · exact (List.nodup_append.mp nd2).2.2 x (List.mem_append_left _ hx) x q rfl
    · rcases k2 b hb with q | q
      · exact o.jf b q
      · exact jf b q
  have hi : i < e.length := (List.getElem?_eq_some_iff.mp h).1
  obtain ⟨F', s3, pm3⟩ := s2.put (i := i) (by simp [hi]) hv o2
  rw [List.set_set] at s3
  refine ⟨F', s3, ⟨fun b o' q hb => hk b o' (fun z => hb (List.mem_append_left _ (pm.mem_iff.mpr (List.mem_append_right _ (b3 b z))))) q, dm, fun _ j => j, fun b hb => ?_, fun b z => .inl z, tp⟩⟩
  left
  rcases List.mem_append.mp (pm3.mem_iff.mp hb) with z | z
  · exact List.mem_append_left _ (pm.mem_iff.mpr (List.mem_append_left _ z))
  · rcases k2 b z with q | q
    · exact List.mem_append_left _ (pm.mem_iff.mpr (List.mem_append_right _ q))
    · exact List.mem_append_right _ q
/-- what the path tells, looked at -/
theorem SR.atP (s : SR K pn σ H e J F) {i : Nat} {t u : T} {ds : List Stp} (h : e[i]? = some (some t)) (hs : subP t ds = some u) {v w : V} (hv : σ[i]? = some (some v)) (hp : PathV H v ds w) : ∃ g, RT K J H w u g ∧ (∀ b ∈ g, b ∈ F) := by
  obtain ⟨v', fp, F1, hv', o, s1, pm⟩ := s.take h
  rw [hv] at hv'
  cases hv'
  obtain ⟨w', g, b1, b2, b3, _⟩ := o.rt.deepP (List.nodup_append.mp o.nd).2.1 hs
  cases hp.uniq b1
  exact ⟨g, b2, fun b hb => pm.mem_iff.mpr (List.mem_append_right _ (b3 b hb))⟩
end
end IL

namespace IL
open PySem PySem.Spec PyProof.Rows L2
/-! ### keys that are looked at, paths -/
inductive KC where
  | var (i : Nat)
  | int (n : Int)
  | str (s : Str)
  | ix (a b : KC)
  | neg (n : Nat)
def evK : KC → En → Option D
  | .var i, e => match e[i]? with
    | some (some (.leaf d)) => some d
    | _ => none
  | .int n, _ => some (.int n)
  | .str s, _ => some (.str s)
  | .ix a b, e => (evK a e).bind fun x => (evK b e).bind fun y => ixD x y
  | .neg n, _ => some (.int (-(n : Int)))
inductive Pt where
  | var (i : Nat)
  | fld (p : Pt) (f : Str)
  | ky (p : Pt) (k : KC)
  | at (p : Pt) (k : KC)
def Pt.slot : Pt → Nat
  | .var i => i
  | .fld p _ => p.slot
  | .ky p _ => p.slot
  | .at p _ => p.slot
abbrev NA := Nat → Str → Bool
def evPt (na : NA) : Pt → En → Option (List Stp × T)
  | .var i, e => match e[i]? with
    | some (some t) => some ([], t)
    | _ => none
  | .fld p f, e => match evPt na p e with
    | some (l, .obj C kvs) => if na C f then (valT kvs (.inr f)).map fun t => (l ++ [.fld f], t) else none
    | _ => none
  | .ky p k, e => match evPt na p e, (evK k e).bind keyO with
    | some (l, .dct kvs), some j => (valT kvs j).map fun t => (l ++ [.key j], t)
    | _, _ => none
  | .at p k, e => match evPt na p e, evK k e with
    | some (l, .lst ts), some (.int z) => (sub1 (.lst ts) (.at z)).map fun u => (l ++ [.at z], u)
    | some (l, .tup ts), some (.int z) => (sub1 (.tup ts) (.at z)).map fun u => (l ++ [.at z], u)
    | _, _ => none
theorem evPt_ok {na : NA} : ∀ {p : Pt} {e : En} {l : List Stp} {u : T}, evPt na p e = some (l, u) → ∃ t, e[p.slot]? = some (some t) ∧ subP t l = some u
  | .var i, e, l, u, h => by
    unfold evPt at h
    split at h
    · cases h; exact ⟨_, by assumption, rfl⟩
    · cases h
  | .fld p f, e, l, u, h => by
    unfold evPt at h
    split at h
    · rename_i l0 C kvs h0
      split at h
      · rw [Option.map_eq_some_iff] at h
        obtain ⟨t, h1, h2⟩ := h
        cases h2
        obtain ⟨t0, h3, h4⟩ := evPt_ok h0
        exact ⟨t0, h3, by rw [subP_snoc, h4]; exact h1⟩
      · cases h
    · cases h
  | .ky p k, e, l, u, h => by
    unfold evPt at h
    split at h
    · rename_i l0 kvs j h0 hk
      rw [Option.map_eq_some_iff] at h
      obtain ⟨t, h1, h2⟩ := h
      cases h2
      obtain ⟨t0, h3, h4⟩ := evPt_ok h0
      exact ⟨t0, h3, by rw [subP_snoc, h4]; exact h1⟩
    · cases h
  | .at p k, e, l, u, h => by
    unfold evPt at h
    split at h
    · rename_i l0 ts z h0 hk
      rw [Option.map_eq_some_iff] at h
      obtain ⟨t, h1, h2⟩ := h
      cases h2
      obtain ⟨t0, h3, h4⟩ := evPt_ok h0
      exact ⟨t0, h3, by rw [subP_snoc, h4]; exact h1⟩
    · rename_i l0 ts z h0 hk
      rw [Option.map_eq_some_iff] at h
      obtain ⟨t, h1, h2⟩ := h
      cases h2
      obtain ⟨t0, h3, h4⟩ := evPt_ok h0
      exact ⟨t0, h3, by rw [subP_snoc, h4]; exact h1⟩
    · cases h
section
variable {X : Cx} {pn : List (Nat × V)} {a b c : Expr} {pos pos' apos : Pos} {na : NA}
def rdK (K : PySem.W.Frag) (pn : List (Nat × V)) (g : En → Option D) : TE := fun σ H Q => ∃ e J F, SR K pn σ H e J F ∧ ∃ d, g e = some d ∧ ∀ v, RD K J H v d → Q v H
def rdP (K : PySem.W.Frag) (pn : List (Nat × V)) (na : NA) (p : Pt) : TE := fun σ H Q => ∃ e J F, SR K pn σ H e J F ∧ ∃ l u, evPt na p e = some (l, u) ∧ ∀ v w, σ[p.slot]? = some (some v) → PathV H v l w → Q w H
theorem ke_var {i : Nat} (h : PE X a (tVar i)) : PE X a (rdK X.K pn (evK (.var i))) := PE.weak h fun σ H Q ⟨e, J, F, s, d, h, q⟩ => by
  unfold evK at h
  split at h
  · rename_i d' h0
    cases h
    obtain ⟨v, fp, hv, rt⟩ := s.at h0
    cases rt with
    | leaf r => exact ⟨v, hv, q v r⟩
  · cases h
theorem ke_int {n : Int} (h : PE X a (tC (.int n))) : PE X a (rdK X.K pn (evK (.int n))) := PE.weak h fun σ H Q ⟨e, J, F, s, d, h, q⟩ => by
  cases h; exact q _ (.int _)
theorem ke_str {n : Str} (h : PE X a (tC (.str n))) : PE X a (rdK X.K pn (evK (.str n))) := PE.weak h fun σ H Q ⟨e, J, F, s, d, h, q⟩ => by
  cases h; exact q _ (.str _)
theorem ke_neg {n : Nat} (h : PE X a (tC (.int (n : Int)))) : PE X (.UnaryOp .USub a pos) (rdK X.K pn (evK (.neg n))) := PE.weak (pe_un un_neg h) fun σ H Q ⟨e, J, F, s, d, h, q⟩ => by
  cases h; exact ⟨_, rfl, q _ (.int _)⟩
theorem ke_ix {ka kb : KC} (ha : PE X a (rdK X.K pn (evK ka))) (hb : PE X b (rdK X.K pn (evK kb))) (hs : isPlain b = true) : PE X (.Subscript a b pos) (rdK X.K pn (evK (.ix ka kb))) :=
  PE.weak (pe_ix ix_all ha hb (plain_of' hs)) fun σ H Q ⟨e, J, F, s, d, h, q⟩ => by
    unfold evK at h
    rw [Option.bind_eq_some_iff] at h
    obtain ⟨x, h1, h⟩ := h
    rw [Option.bind_eq_some_iff] at h
    obtain ⟨y, h2, h3⟩ := h
    exact ⟨e, J, F, s, x, h1, fun v r1 => ⟨e, J, F, s, y, h2, fun u r2 => ixD_rule h3 r1 r2 fun w rw => q w rw⟩⟩
theorem pt_var {i : Nat} (h : PE X a (tVar i)) : PE X a (rdP X.K pn na (.var i)) := PE.weak h fun σ H Q ⟨e, J, F, s, l, u, h, q⟩ => by
  unfold evPt at h
  split at h
  · rename_i t h0
    cases h
    obtain ⟨v, fp, hv, rt⟩ := s.at h0
    exact ⟨v, hv, q v v hv rfl⟩
  · cases h
theorem pt_fld {p : Pt} {f : Str} (hna : ∀ (C : Nat) f, na C f = true → NoAttr X.K C f) (h : PE X a (rdP X.K pn na p)) (hb : attributeBase a f X.env (eval a X.env) = eval a X.env) : PE X (.Attribute a f pos) (rdP X.K pn na (.fld p f)) := PE.weak (pe_fld h hb) fun σ H Q ⟨e, J, F, s, l, u, h, q⟩ => by
  unfold evPt at h
  split at h
  · rename_i l0 C kvs h0
    split at h
    · rename_i hn
      rw [Option.map_eq_some_iff] at h
      obtain ⟨t, h1, h2⟩ := h
      cases h2
      refine ⟨e, J, F, s, l0, _, h0, fun v w hv hp => ?_⟩
      obtain ⟨t0, h3, h4⟩ := evPt_ok h0
      obtain ⟨g, rt, _⟩ := s.atP h3 h4 hv hp
      cases rt with
      | obj oc ha rk =>
        obtain ⟨x, g', hx, _⟩ := (rk.val _).2 _ h1
        rw [fkv_val] at hx
        exact ⟨_, _, _, _, x, rfl, ha, oc.cl, hna _ _ hn, hx, q v x hv (hp.snoc ⟨_, _, _, _, rfl, ha, hx⟩)⟩
    · cases h
  · cases h
theorem pt_ky {p : Pt} {k : KC} (hu : X.A.units + 1 < cLine) (h : PE X a (rdP X.K pn na p)) (hk : PE X b (rdK X.K pn (evK k))) (hs : isPlain b = true) : PE X (.Subscript a b pos) (rdP X.K pn na (.ky p k)) := PE.weak (pe_dget hu h hk (plain_of' hs)) fun σ H Q ⟨e, J, F, s, l, u, h, q⟩ => by
  unfold evPt at h
  split at h
  · rename_i l0 kvs j h0 hj
    rw [Option.map_eq_some_iff] at h
    obtain ⟨t, h1, h2⟩ := h
    cases h2
    rw [Option.bind_eq_some_iff] at hj
    obtain ⟨d, hd, hj⟩ := hj
    refine ⟨e, J, F, s, l0, _, h0, fun v w hv hp => ⟨e, J, F, s, d, hd, fun y ry => ?_⟩⟩
    obtain ⟨t0, h3, h4⟩ := evPt_ok h0
    obtain ⟨g, rt, _⟩ := s.atP h3 h4 hv hp
    cases rt with
    | dct ha rk =>
      obtain ⟨x, g', hx, _⟩ := (rk.val _).2 _ h1
      have ey := keyO_rd hj ry
      subst ey
      exact ⟨_, x, rfl, hx ▸ DGet.k ha, q v x hv (hp.snoc ⟨_, _, rfl, ha, hx⟩)⟩
  · cases h
theorem RTs.atV {K : PySem.W.Frag} {J : Addr → Prop} {H : Hp} {vs : List V} {ts : List T} {fp : List Addr} {z : Int} {t : T} {j : Nat} (r : RTs K J H vs ts fp) (hj : ixN ts.length z = some j) (h : ts[j]? = some t) : ∃ w, L2.atI vs z = some w ∧ ixN vs.length z = some j ∧ vs[j]? = some w := by
  obtain ⟨w, g, h1, _⟩ := r.get h
  exact ⟨w, by unfold L2.atI; rw [r.length, hj]; exact h1, by rw [r.length]; exact hj, h1⟩
theorem pt_at {p : Pt} {k : KC} (h : PE X a (rdP X.K pn na p)) (hk : PE X b (rdK X.K pn (evK k))) (hs : isPlain b = true) : PE X (.Subscript a b pos) (rdP X.K pn na (.at p k)) := PE.weak (pe_ix ix_all h hk (plain_of' hs)) fun σ H Q ⟨e, J, F, s, l, u, h, q⟩ => by
  unfold evPt at h
  split at h
  · rename_i l0 ts z h0 hz
    rw [Option.map_eq_some_iff] at h
    obtain ⟨t, h1, h2⟩ := h
    cases h2
    refine ⟨e, J, F, s, l0, _, h0, fun v w hv hp => ⟨e, J, F, s, _, hz, fun y ry => ?_⟩⟩
    obtain ⟨t0, h3, h4⟩ := evPt_ok h0
    obtain ⟨g, rt, _⟩ := s.atP h3 h4 hv hp
    simp only [sub1, Option.bind_eq_some_iff] at h1
    obtain ⟨j, hj, h1⟩ := h1
    cases ry
    cases rt with
    | lst ha rk =>
      obtain ⟨x, x1, x2, x3⟩ := rk.atV hj h1
      exact .inl ⟨_, _, _, x, rfl, rfl, .inl (.inl ha), x1, q v x hv (hp.snoc ⟨_, _, j, rfl, .inl ha, x2, x3⟩)⟩
  · rename_i l0 ts z h0 hz
    rw [Option.map_eq_some_iff] at h
    obtain ⟨t, h1, h2⟩ := h
    cases h2
    refine ⟨e, J, F, s, l0, _, h0, fun v w hv hp => ⟨e, J, F, s, _, hz, fun y ry => ?_⟩⟩
    obtain ⟨t0, h3, h4⟩ := evPt_ok h0
    obtain ⟨g, rt, _⟩ := s.atP h3 h4 hv hp
    simp only [sub1, Option.bind_eq_some_iff] at h1
    obtain ⟨j, hj, h1⟩ := h1
    cases ry
    cases rt with
    | tup ha rk =>
      obtain ⟨x, x1, x2, x3⟩ := rk.atV hj h1
      exact .inr (.inl ⟨_, _, _, x, rfl, rfl, .inl (.inl ha), x1, q v x hv (hp.snoc ⟨_, _, j, rfl, .inr ha, x2, x3⟩)⟩)
  · cases h
/-- what a path tells, data -/
def gPath (na : NA) (p : Pt) : M D := fun e => match evPt na p e with
  | some (_, .leaf d) => .ok d e
  | _ => .bad
theorem pe_path {p : Pt} (h : PE X a (rdP X.K pn na p)) : PE X a (rdD X.K pn (gPath na p)) := PE.weak h fun σ H Q ⟨e, J, F, s, t, e', h, q⟩ => by
  unfold gPath at h
  split at h
  · rename_i l d h0
    cases h
    refine ⟨e, J, F, s, l, _, h0, fun v w hv hp => ?_⟩
    obtain ⟨t0, h3, h4⟩ := evPt_ok h0
    obtain ⟨g, rt, _⟩ := s.atP h3 h4 hv hp
    cases rt with
    | leaf r => exact q w H J F s r .refl
  · cases h
theorem upd_facts {H : Hp} {a : Addr} {o0 o1 : HO} (h : H a = some o0) (nt : ∀ xs, o0 ≠ .tup xs) : (∀ b o, b ≠ a → H b = some o → upd H a o1 b = some o) ∧ (∀ b, H b ≠ none → upd H a o1 b ≠ none) ∧ (∀ b xs, H b = some (.tup xs) → upd H a o1 b = some (.tup xs)) := by
  refine ⟨fun b o hb q => by rw [upd_ne hb]; exact q, fun b q => ?_, fun b xs q => ?_⟩
  · by_cases hb : b = a
    · subst hb; rw [upd_same]; exact fun z => nomatch z
    · rw [upd_ne hb]; exact q
  · rw [upd_ne (fun w => by subst w; rw [h] at q; exact nt xs (Option.some.inj q))]; exact q
theorem kp_upd {J : Addr → Prop} {H : Hp} {a : Addr} {o0 o1 : HO} (h : H a = some o0) (nt : ∀ xs, o0 ≠ .tup xs) (hJ : ¬ J a) : Kp J H (upd H a o1) := fun b o j e => by
  obtain ⟨u1, u2, u3⟩ := upd_facts (o1 := o1) h nt
  rcases j with j | ⟨xs, rfl⟩
  · exact u1 b o (fun w => hJ (w ▸ j)) e
  · exact u3 b xs e
/-- path.append(e) -/
def gPpush (na : NA) (p : Pt) (f : M T) : M T := fun e => match evPt na p e, e[p.slot]? with
  | some (l, .lst ts), some (some t) => (match f (e.set p.slot none) with
    | .ok x e1 => (match e1[p.slot]? with
      | some none => if ts.length < most then .ok (.leaf .none) (e1.set p.slot (some (repP t l (.lst (ts ++ [x]))))) else .bad
      | _ => .bad)
    | _ => .bad)
  | _, _ => .bad
theorem ie_ppush {p : Pt} {f : M T} (ho : PE X a (rdP X.K pn na p)) (hn : nstar b = true) (ha : PE X b (rdE X.K pn f)) (hbase : attributeBase a "append" X.env (eval a X.env) = eval a X.env) (hline : (apos.endLine == pos.line) = true) :
    IE X pn (.Call (.Attribute a "append" apos) [b] [] pos) (gPpush na p f) := by
  have hs : starEach [b] X.env = (false, eval b X.env) :: starEach [] X.env := star_of hn [] X.env
  refine ie_mk (PE.weak (pe_bm PySem.F.plainAttrs_list PySem.F.slot_list_append PySem.F.type_list_append mt_append ho (pa_cons ha pa_nil hs) hbase (by rw [hs]; rfl) hline hs (by rfl)) fun σ H Q ⟨e, J, F, s, tt, e', h, q⟩ => ?_)
  unfold gPpush at h
  split at h
  · rename_i l ts t h0 ht
    split at h
    · rename_i x e1 hf
      split at h
      · rename_i hnone
        split at h
        · rename_i hlen
          cases h
          refine ⟨e, J, F, s, l, _, h0, fun v w hv hp => ?_⟩
          obtain ⟨t0, h3, h4⟩ := evPt_ok h0
          rw [ht] at h3
          cases h3
          obtain ⟨v', fp, F1, hv', o, s1, pm⟩ := s.take ht
          rw [hv] at hv'
          cases hv'
          obtain ⟨w', g, b1, b2, b3, b4, b6, _⟩ := o.rt.deepP (List.nodup_append.mp o.nd).2.1 h4
          cases hp.uniq b1
          cases b2 with
          | @lst aw xs0 _ fp0 ha0 rk0 =>
            refine ⟨.inl ⟨rfl, _, .inl (.inl ha0)⟩, _, J, F1, s1, x, e1, hf, fun y H1 J1 F2 fpy s2 oy tr1 => ?_⟩
            -- the tree stood aside
            have tr1' : Tr J H F1 J1 H1 F2 := tr1.trans (Tr.sub fun b hb => List.mem_append_left _ hb)
            have o1 := o.step tr1' s1.jf s2.nd
            have hkf : Kf fp H H1 := fun b oo hb q => tr1.keep b oo q (not_both o.nd hb)
            obtain ⟨F3, s3, pm3⟩ := s2.put hnone hv o1
            have ndx : (F3 ++ fpy).Nodup := by
              refine ((List.Perm.append_right fpy pm3).nodup_iff).mpr ?_
              have n1 := oy.nd
              have n2 := o1.nd
              rw [List.nodup_append] at n1 n2 ⊢
              refine ⟨List.nodup_append.mpr n2, n1.2.1, fun z1 hz1 z2 hz2 zz => ?_⟩
              subst zz
              rcases List.mem_append.mp hz1 with k | k
              · exact n1.2.2 z1 k z1 hz2 rfl
              · rcases tr1.fnew z1 (List.mem_append_right _ hz2) with k2 | k2
                · exact not_both o.nd k k2
                · exact RT.dom o.rt z1 k k2
            obtain ⟨v2, w2, g2, hv2, c1, c2, c3, c4, c5, go⟩ := s3.turnP (i := p.slot) (t := t) (u := .lst ts) (ds := l) (fx := fpy) (by
              have hi : p.slot < e1.length := (List.getElem?_eq_some_iff.mp hnone).1
              simp [hi]) h4 ndx oy.jf
            rw [hv] at hv2
            cases hv2
            cases (b6 H1 hkf).uniq c1
            cases c2 with
            | @lst _ xs2 _ fp2 ha2 rk2 =>
              refine ⟨aw, xs2, y, rfl, rfl, ha2, by rw [rk2.length]; exact most_lt (Nat.le_of_lt hlen), ?_⟩
              obtain ⟨u1, u2, u3⟩ := upd_facts (o1 := .lst (xs2 ++ [y])) ha2 (fun _ z => nomatch z)
              have na2 : aw ∉ fp2 := (List.nodup_cons.mp c4).1
              have nay : aw ∉ fpy := fun z => (List.nodup_append.mp ndx).2.2 aw (c3 aw List.mem_cons_self) aw z rfl
              have kp := kp_upd (J := J1) (o1 := .lst (xs2 ++ [y])) ha2 (fun _ z => nomatch z) (c5 aw List.mem_cons_self)
              have r1 := rk2.mono (J' := J1) (fun _ j => j) kp fun b oo hb q => u1 b oo (fun z => na2 (z ▸ hb)) q
              have r2 := oy.rt.mono (J' := J1) (fun _ j => j) kp fun b oo hb q => u1 b oo (fun z => nay (z ▸ hb)) q
              obtain ⟨F', s4, tr4⟩ := go (upd H1 aw (.lst (xs2 ++ [y]))) (.lst (ts ++ [x])) (aw :: (fp2 ++ (fpy ++ []))) (fun b oo hb q => u1 b oo (fun z => hb (z ▸ List.mem_cons_self)) q) u2 u3 (.lst upd_same (r1.append (.cons r2 .nil)))
                (fun b hb => by
                  rcases List.mem_cons.mp hb with rfl | hb
                  · exact .inl List.mem_cons_self
                  · rcases List.mem_append.mp hb with z | z
                    · exact .inl (List.mem_cons_of_mem _ z)
                    · exact .inr (by simpa using z))
                (by
                  refine List.nodup_cons.mpr ⟨fun z => ?_, List.nodup_append.mpr ⟨(List.nodup_cons.mp c4).2, by simpa using (List.nodup_append.mp ndx).2.1, fun z1 h1 z2 h2 zz => ?_⟩⟩
                  · rcases List.mem_append.mp z with z | z
                    · exact na2 z
                    · exact nay (by simpa using z)
                  · subst zz
                    exact (List.nodup_append.mp ndx).2.2 z1 (c3 z1 (List.mem_cons_of_mem _ h1)) z1 (by simpa using h2) rfl)
              rw [List.set_set] at s4
              refine q .non _ J1 F' [] s4 ⟨.leaf .non, by simpa using s4.nd, fun _ z => nomatch z⟩ ?_
              rw [List.append_nil]
              have t0 : Tr J H F J H (F1 ++ fp) := Tr.sub fun b hb => pm.mem_iff.mpr hb
              have t1 := t0.trans (tr1.aside (G := fp))
              refine (t1.trans (Tr.sub fun b hb => ?_)).trans tr4
              rcases List.mem_append.mp hb with z | z
              · rcases List.mem_append.mp (pm3.mem_iff.mp z) with z | z
                · exact List.mem_append_left _ (List.mem_append_left _ z)
                · exact List.mem_append_right _ z
              · exact List.mem_append_left _ (List.mem_append_right _ z)
        · cases h
      · cases h
    · cases h
  · cases h
end
end IL

namespace IL
open PySem PySem.Spec PyProof.Rows L2
/-! ### entries and fields put into own trees -/
def isLeaf : T → Bool
  | .leaf _ => true
  | _ => false
/-- a field's place, or behind all -/
def putO (ts : List (Key × T)) (k : Key) (t : T) : List (Key × T) := match ts with
  | [] => [(k, t)]
  | p :: r => if p.1 = k then (p.1, t) :: r else p :: putO r k t
section
variable {K : PySem.W.Frag} {J : Addr → Prop} {H : Hp}
theorem RTk.putT {w : V} {t : T} {g : List Addr} (r : RT K J H w t g) (k : Key) {vs : List (Key × V)} {ts : List (Key × T)} {fp : List Addr} (s : RTk K J H vs ts fp) (h : isLeaf t = true ∨ (ts.any fun kv => decide (kv.1 = k)) = false) :
    ∃ fp', RTk K J H (putK vs k w) (IL.putT ts k t) fp' ∧ (∀ b ∈ fp', b ∈ fp ∨ b ∈ g) ∧ ((fp ++ g).Nodup → fp'.Nodup) := by
  cases ha : (ts.any fun kv => decide (kv.1 = k)) with
  | true =>
    rw [ha] at h
    rcases h with h | h
    · cases t with
      | leaf d =>
        cases r with
        | leaf rd =>
          obtain ⟨fp', h1, h2, h3⟩ := RTk.put rd k s
          exact ⟨fp', h1, fun b hb => .inl (h2 b hb), fun nd => h3 (by simpa using nd)⟩
      | _ => cases h
    · cases h
  | false =>
    refine ⟨fp ++ g, ?_, fun b hb => List.mem_append.mp hb, fun h => h⟩
    have e1 : putK vs k w = vs ++ [(k, w)] := by unfold putK; rw [s.any k, ha]; rfl
    have e2 : IL.putT ts k t = ts ++ [(k, t)] := by unfold IL.putT; rw [ha]; rfl
    rw [e1, e2]
    exact s.app r
theorem RTk.putF {w : V} {t : T} {g : List Addr} (r : RT K J H w t g) (f : Str) : ∀ {fs : List (Str × V)} {ts : List (Key × T)} {fp : List Addr}, RTk K J H (fkv fs) ts fp →
    ∃ fp', RTk K J H (fkv (L2.putF f w fs)) (putO ts (.inr f) t) fp' ∧ (∀ b ∈ fp', b ∈ fp ∨ b ∈ g) ∧ ((fp ++ g).Nodup → fp'.Nodup)
  | [], _, _, .nil => ⟨g ++ [], .cons r .nil, fun b hb => .inr (by simpa using hb), fun h => by simpa using h⟩
  | (j, x) :: fs, _, _, .cons (f := f1) (g := f2) q s => by
    obtain ⟨fp', h1, h2, h3⟩ := RTk.putF r f (fs := fs) s
    by_cases hj : j = f
    · subst hj
      refine ⟨g ++ f2, ?_, fun b hb => ?_, fun nd => ?_⟩
      · have e1 : L2.putF j w ((j, x) :: fs) = (j, w) :: fs := by simp [L2.putF]
        rw [e1]
        simp only [putO, if_true]
        exact .cons r s
      · rcases List.mem_append.mp hb with z | z
        · exact .inr z
        · exact .inl (List.mem_append_right _ z)
      · have n0 := List.nodup_append.mp nd
        have n1 := List.nodup_append.mp n0.1
        exact List.nodup_append.mpr ⟨n0.2.1, n1.2.1, fun a ha b hb z => n0.2.2 b (List.mem_append_right _ hb) a ha z.symm⟩
    · refine ⟨f1 ++ fp', ?_, fun b hb => ?_, fun nd => ?_⟩
      · have e1 : L2.putF f w ((j, x) :: fs) = (j, x) :: L2.putF f w fs := by simp [L2.putF, hj]
        have e2 : (Sum.inr j : Key) ≠ .inr f := by simpa using hj
        rw [e1]
        simp only [putO, if_neg e2]
        exact .cons q h1
      · rcases List.mem_append.mp hb with z | z
        · exact .inl (List.mem_append_left _ z)
        · exact (h2 b z).imp (List.mem_append_right _) id
      · have n0 := List.nodup_append.mp nd
        have n1 := List.nodup_append.mp n0.1
        refine List.nodup_append.mpr ⟨n1.1, h3 (List.nodup_append.mpr ⟨n1.2.1, n0.2.1, fun a ha b hb => n0.2.2 a (List.mem_append_right _ ha) b hb⟩), fun a ha b hb z => ?_⟩
        subst z
        rcases h2 a hb with z | z
        · exact n1.2.2 a ha a z rfl
        · exact n0.2.2 a (List.mem_append_left _ ha) a z rfl
end
section
variable {X : Cx} {pn : List (Nat × V)} {a b c : Expr} {pos pos' apos : Pos} {na : NA}
/-- path[k] = e -/
def gPput (na : NA) (p : Pt) (k : KC) (f : M T) : M Fl := bnd f fun x => fun e => match evPt na p e, (evK k e).bind keyO, e[p.slot]? with
  | some (l, .dct ts), some j, some (some t) => if decide (ts.length < most) && (isLeaf x || !(ts.any fun kv => decide (kv.1 = j))) then .ok .nx (e.set p.slot (some (repP t l (.dct (putT ts j x))))) else .bad
  | _, _, _ => .bad
theorem is_pput {p : Pt} {k : KC} {f : M T} (hu : X.A.units + 1 < cLine) (ho : PE X a (rdP X.K pn na p)) (hi : PE X b (rdK X.K pn (evK k))) (hv : PE X c (rdE X.K pn f)) (hs : swapsWith c (some (.Subscript a b pos')) pos.line X.env = pure false) :
    PS X (.Assign [.Subscript a b pos'] c pos) (rdS X.K pn (gPput na p k f)) := PS.weak (ps_dput hu ho hi hv hs) fun D σ H ⟨e, J, F, s, fl, e', h, q⟩ => by
  obtain ⟨x, e1, h1, h2⟩ := bnd_ok h
  refine ⟨e, J, F, s, x, e1, h1, fun y H1 J1 F1 fpy s1 oy tr1 => ?_⟩
  split at h2
  · rename_i l ts j t h3 h4 h5
    split at h2
    · rename_i hc
      simp only [Bool.and_eq_true, decide_eq_true_eq, Bool.or_eq_true, Bool.not_eq_true'] at hc
      cases h2
      rw [Option.bind_eq_some_iff] at h4
      obtain ⟨kd, h4, h6⟩ := h4
      refine ⟨e1, J1, F1, s1, l, _, h3, fun v w hv' hp => ⟨e1, J1, F1, s1, kd, h4, fun yk rk => ?_⟩⟩
      obtain ⟨t0, k1, k2⟩ := evPt_ok h3
      rw [h5] at k1
      cases k1
      obtain ⟨v2, w2, g2, hv2, c1, c2, c3, c4, c5, go⟩ := s1.turnP (i := p.slot) (t := t) (u := .dct ts) (ds := l) (fx := fpy) h5 k2 oy.nd oy.jf
      rw [hv'] at hv2
      cases hv2
      cases hp.uniq c1
      have ek := keyO_rd h6 rk
      subst ek
      cases c2 with
      | @dct aw vs _ fp2 ha2 rk2 =>
        refine ⟨aw, _, rfl, DPut.k ha2 (by rw [rk2.length]; exact most_lt (Nat.le_of_lt hc.1)), ?_⟩
        obtain ⟨u1, u2, u3⟩ := upd_facts (o1 := .dK (putK vs j y)) ha2 (fun _ z => nomatch z)
        have na2 : aw ∉ fp2 := (List.nodup_cons.mp c4).1
        have nay : aw ∉ fpy := fun z => (List.nodup_append.mp oy.nd).2.2 aw (c3 aw List.mem_cons_self) aw z rfl
        have kp := kp_upd (J := J1) (o1 := .dK (putK vs j y)) ha2 (fun _ z => nomatch z) (c5 aw List.mem_cons_self)
        have r1 := rk2.mono (J' := J1) (fun _ j => j) kp fun b oo hb q => u1 b oo (fun z => na2 (z ▸ hb)) q
        have r2 := oy.rt.mono (J' := J1) (fun _ j => j) kp fun b oo hb q => u1 b oo (fun z => nay (z ▸ hb)) q
        obtain ⟨fp', m1, m2, m3⟩ := RTk.putT r2 j r1 hc.2
        obtain ⟨F', s4, tr4⟩ := go (upd H1 aw (.dK (putK vs j y))) (.dct (putT ts j x)) (aw :: fp') (fun b oo hb q => u1 b oo (fun z => hb (z ▸ List.mem_cons_self)) q) u2 u3 (.dct upd_same m1)
          (fun b hb => by
            rcases List.mem_cons.mp hb with rfl | hb
            · exact .inl List.mem_cons_self
            · exact (m2 b hb).imp (List.mem_cons_of_mem _) id)
          (List.nodup_cons.mpr ⟨fun z => (m2 aw z).elim na2 nay, m3 (List.nodup_append.mpr ⟨(List.nodup_cons.mp c4).2, (List.nodup_append.mp oy.nd).2.1, fun z1 h1 z2 h2 zz => (List.nodup_append.mp oy.nd).2.2 z1 (c3 z1 (List.mem_cons_of_mem _ h1)) z2 h2 zz⟩)⟩)
        exact q σ _ J1 F' s4 (tr1.trans tr4)
    · cases h2
  · cases h2
/-- path.f = e -/
def gPfld (na : NA) (p : Pt) (f : Str) (fe : M T) : M Fl := bnd fe fun x => fun e => match evPt na p e, e[p.slot]? with
  | some (l, .obj C ts), some (some t) => if na C f && decide (ts.length < 900) then .ok .nx (e.set p.slot (some (repP t l (.obj C (putO ts (.inr f) x))))) else .bad
  | _, _ => .bad
theorem is_pfld {p : Pt} {f : Str} {fe : M T} (hna : ∀ (C : Nat) f, na C f = true → NoAttr X.K C f) (ho : PE X a (rdP X.K pn na p)) (hv : PE X c (rdE X.K pn fe)) (hs : swapsWith c (some (.Attribute a f pos')) pos.line X.env = pure false) :
    PS X (.Assign [.Attribute a f pos'] c pos) (rdS X.K pn (gPfld na p f fe)) := PS.weak (ps_fld ho hv hs) fun D σ H ⟨e, J, F, s, fl, e', h, q⟩ => by
  obtain ⟨x, e1, h1, h2⟩ := bnd_ok h
  refine ⟨e, J, F, s, x, e1, h1, fun y H1 J1 F1 fpy s1 oy tr1 => ?_⟩
  split at h2
  · rename_i l C ts t h3 h5
    split at h2
    · rename_i hc
      simp only [Bool.and_eq_true, decide_eq_true_eq] at hc
      cases h2
      refine ⟨e1, J1, F1, s1, l, _, h3, fun v w hv' hp => ?_⟩
      obtain ⟨t0, k1, k2⟩ := evPt_ok h3
      rw [h5] at k1
      cases k1
      obtain ⟨v2, w2, g2, hv2, c1, c2, c3, c4, c5, go⟩ := s1.turnP (i := p.slot) (t := t) (u := .obj C ts) (ds := l) (fx := fpy) h5 k2 oy.nd oy.jf
      rw [hv'] at hv2
      cases hv2
      cases hp.uniq c1
      cases c2 with
      | @obj aw _ dx fs _ fp2 oc ha2 rk2 =>
        have hl : fs.length < 1000 := by
          have e1 := rk2.length
          simp [fkv] at e1
          omega
        refine ⟨aw, C, dx, fs, rfl, ha2, oc.cl, hna _ _ hc.1, hl, ?_⟩
        obtain ⟨u1, u2, u3⟩ := upd_facts (o1 := .ins C dx (L2.putF f y fs)) ha2 (fun _ z => nomatch z)
        have na2 : aw ∉ fp2 := (List.nodup_cons.mp c4).1
        have nay : aw ∉ fpy := fun z => (List.nodup_append.mp oy.nd).2.2 aw (c3 aw List.mem_cons_self) aw z rfl
        have kp := kp_upd (J := J1) (o1 := .ins C dx (L2.putF f y fs)) ha2 (fun _ z => nomatch z) (c5 aw List.mem_cons_self)
        have r1 := rk2.mono (J' := J1) (fun _ j => j) kp fun b oo hb q => u1 b oo (fun z => na2 (z ▸ hb)) q
        have r2 := oy.rt.mono (J' := J1) (fun _ j => j) kp fun b oo hb q => u1 b oo (fun z => nay (z ▸ hb)) q
        obtain ⟨fp', m1, m2, m3⟩ := RTk.putF r2 f r1
        obtain ⟨F', s4, tr4⟩ := go (upd H1 aw (.ins C dx (L2.putF f y fs))) (.obj C (putO ts (.inr f) x)) (aw :: fp') (fun b oo hb q => u1 b oo (fun z => hb (z ▸ List.mem_cons_self)) q) u2 u3 (.obj oc upd_same m1)
          (fun b hb => by
            rcases List.mem_cons.mp hb with rfl | hb
            · exact .inl List.mem_cons_self
            · exact (m2 b hb).imp (List.mem_cons_of_mem _) id)
          (List.nodup_cons.mpr ⟨fun z => (m2 aw z).elim na2 nay, m3 (List.nodup_append.mpr ⟨(List.nodup_cons.mp c4).2, (List.nodup_append.mp oy.nd).2.1, fun z1 h1 z2 h2 zz => (List.nodup_append.mp oy.nd).2.2 z1 (c3 z1 (List.mem_cons_of_mem _ h1)) z2 h2 zz⟩)⟩)
        exact q σ _ J1 F' s4 (tr1.trans tr4)
    · cases h2
  · cases h2

/-! ### instances given up -/
def fldD (na : NA) (d : D) (f : Str) : Option D := match d with
  | .dict ((.none, .int z) :: ds) => if na z.toNat f then valD ds (.inr f) else none
  | _ => none
theorem RD.objv {K : PySem.W.Frag} {J : Addr → Prop} {H : Hp} {v : V} {z : D} {ds : List (D × D)} (r : RD K J H v (.dict ((.none, z) :: ds))) : ∃ a C dx fs, v = .ref a ∧ ObjC K C ∧ z = .int ((C : Nat) : Int) ∧ J a ∧ H a = some (.ins C dx fs) ∧ RDk K J H (fkv fs) ds := by
  generalize he : PyData.dict ((.none, z) :: ds) = d at r
  cases r with
  | obj oc j p q => cases he; exact ⟨_, _, _, _, rfl, oc, rfl, j, p, q⟩
  | dct j p q =>
    cases he
    have := rdk_no q
    simp [isObj] at this
  | _ => cases he
def gFld (na : NA) (f : Str) (fa : M D) : M D := bnd fa fun d => opt (fldD na d f)
theorem ie_fld {f : Str} {fa : M D} (hna : ∀ (C : Nat) f, na C f = true → NoAttr X.K C f) (ha : PE X a (rdD X.K pn fa)) (hb : attributeBase a f X.env (eval a X.env) = eval a X.env) : IE X pn (.Attribute a f pos) (lf (gFld na f fa)) :=
  ie_mk (pe_lf (PE.weak (pe_fld ha hb) fun σ H Q ⟨e, J, F, s, t, e', h, q⟩ => by
    obtain ⟨d, e1, h1, h2⟩ := bnd_ok h
    obtain ⟨h3, rfl⟩ := opt_ok h2
    refine ⟨e, J, F, s, d, _, h1, fun v H1 J1 F1 s1 r1 tr1 => ?_⟩
    unfold fldD at h3
    split at h3
    · rename_i z ds
      split at h3
      · rename_i hn
        obtain ⟨a, C, dx, fs, rfl, oc, hz, j, p, rk⟩ := r1.objv
        cases hz
        obtain ⟨w, hw, rw'⟩ := (rk.val _).2 _ h3
        rw [fkv_val] at hw
        exact ⟨a, C, dx, fs, w, rfl, p, oc.cl, hna _ _ hn, hw, q w H1 J1 F1 s1 rw' tr1⟩
      · cases h3
    · cases h3))
/-- an entry of a dict given up -/
def gDgt (fa fk : M D) : M D := bnd fa fun d => bnd fk fun k => opt (getT (.leaf d) k)
theorem ie_dgt {fa fk : M D} (hu : X.A.units + 1 < cLine) (ha : PE X a (rdD X.K pn fa)) (hb : PE X b (rdD X.K pn fk)) (hs : isPlain b = true) : IE X pn (.Subscript a b pos) (lf (gDgt fa fk)) :=
  ie_mk (pe_lf (PE.weak (pe_dget hu ha hb (plain_of' hs)) fun σ H Q ⟨e, J, F, s, t, e', h, q⟩ => by
    obtain ⟨d, e1, h1, h2⟩ := bnd_ok h
    obtain ⟨k, e2, h3, h4⟩ := bnd_ok h2
    obtain ⟨h5, rfl⟩ := opt_ok h4
    refine ⟨e, J, F, s, d, e1, h1, fun v H1 J1 F1 s1 r1 tr1 => ?_⟩
    refine ⟨e1, J1, F1, s1, k, _, h3, fun u H2 J2 F2 s2 r2 tr2 => ?_⟩
    obtain ⟨aa, w, rfl, g, rw'⟩ := dget_at h5 (.leaf (r1.step tr2 s1.jf)) r2
    exact ⟨aa, w, rfl, g, q w H2 J2 F2 s2 rw' (tr1.trans tr2)⟩))
def gDdi (neg : Bool) (fk fa : M D) : M T := bnd fk fun k => bnd fa fun d => bnd (opt (hasT (.leaf d) k)) fun b => ret (.leaf (.bool (b != neg)))
theorem ie_ddi {neg : Bool} {fk fa : M D} {op : CmpOp} (hop : op = (if neg then .NotIn else .In)) (hu : X.A.units + 1 < cLine) (hb : PE X a (rdD X.K pn fk)) (ha : PE X b (rdD X.K pn fa)) (hm : behindInMarks op b = false) : IE X pn (.Compare a [op] [b] pos) (gDdi neg fk fa) := by
  have w1 : ∀ (σ : L2.St) (H : Hp) (Q : VK), rdE X.K pn (gDdi neg fk fa) σ H Q → rdD X.K pn fk σ H fun y H1 => rdD X.K pn fa σ H1 fun x H2 => ∃ a o, x = .ref a ∧ DGet H2 a y o ∧ Q (.bl (o.isSome != neg)) H2 := by
    rintro σ H Q ⟨e, J, F, s, t, e', h, q⟩
    obtain ⟨k, e1, h1, h2⟩ := bnd_ok h
    obtain ⟨d, e2, h3, h4⟩ := bnd_ok h2
    obtain ⟨bb, e3, h5, h6⟩ := bnd_ok h4
    obtain ⟨h7, rfl⟩ := opt_ok h5
    cases h6
    refine ⟨e, J, F, s, k, _, h1, fun y H1 J1 F1 s1 r1 tr1 => ⟨e1, J1, F1, s1, d, _, h3, fun x H2 J2 F2 s2 r2 tr2 => ?_⟩⟩
    obtain ⟨aa, o, rfl, g, ho⟩ := dget_of h7 (.leaf r2) (r1.step tr2 s1.jf)
    refine ⟨aa, o, rfl, g, ?_⟩
    rw [ho]
    exact q _ H2 J2 F2 [] s2 ⟨.leaf (.bl _), by simpa using s2.nd, fun _ z => nomatch z⟩ (by simpa using tr1.trans tr2)
  cases neg with
  | true =>
    simp only [if_true] at hop
    subst hop
    have w2 : ∀ (σ : L2.St) (H : Hp) (Q : VK), rdE X.K pn (gDdi true fk fa) σ H Q → tDNotIn (rdD X.K pn fk) (rdD X.K pn fa) σ H Q := fun σ H Q q => by
      have := w1 σ H Q q
      simpa [tDNotIn] using this
    exact ⟨PE.weak (pe_cmp (pc_dnotin hu hb ha) hm) w2, fun _ => PT.weak (pt_cmp (pc_dnotin hu hb ha) hm) fun σ H Q q => w2 _ _ _ (rdT_of q), rfl⟩
  | false =>
    simp only [Bool.false_eq_true, if_false] at hop
    subst hop
    have w2 : ∀ (σ : L2.St) (H : Hp) (Q : VK), rdE X.K pn (gDdi false fk fa) σ H Q → tDIn (rdD X.K pn fk) (rdD X.K pn fa) σ H Q := fun σ H Q q => by
      have := w1 σ H Q q
      simpa [tDIn] using this
    exact ⟨PE.weak (pe_cmp (pc_din hu hb ha) hm) w2, fun _ => PT.weak (pt_cmp (pc_din hu hb ha) hm) fun σ H Q q => w2 _ _ _ (rdT_of q), rfl⟩
/-! ### for x in reversed(xs) -/
theorem wd_rev {K : PySem.W.Frag} {a : Addr} {xs : List V} {ds : List D} {J0 : Addr → Prop} {H0 : Hp} (j : J0 a) (p : H0 a = some (.lst xs)) (r : RDs K J0 H0 xs ds) : WD K (Itv K a xs.length) ds.reverse J0 H0 := by
  have hl := r.length
  refine WD.of (G := fun H => SqL K H a xs) (Y := fun i H x H' => H' = H ∧ xs[xs.length - 1 - i]? = some x) (by rw [List.length_reverse, ← hl]; exact walk_rev) (fun J H h1 h2 => .inl (.inl (h2 _ _ (.inl j) p))) fun i J H x H' h1 h2 jd hy d hd => ?_
  obtain ⟨rfl, hx⟩ := hy
  have hi : i < ds.length := by
    have := (List.getElem?_eq_some_iff.mp hd).1
    simpa using this
  rw [List.getElem?_reverse hi, ← hl] at hd
  obtain ⟨y, hy, ry⟩ := (r.mono h1 h2).get hd
  rw [hx] at hy
  cases hy
  exact ⟨J, New.same ry jd⟩
def rev1 : List D → Option (List D)
  | [.list xs] => some xs.reverse
  | _ => none
theorem ii_rev {f : M (List D)} {p : Pos} {tg : Expr} (hg : Gl X "reversed") (hm : X.mg "reversed" = none) (h : PA X [a] (rdDs X.K pn f)) (hs : starEach [a] X.env = [(false, eval a X.env)]) :
    PI X tg (.Call (.Name "reversed" p) [a] [] pos) (rdI X.K pn (gRng rev1 f)) := by
  refine PI.weak (pi_reversed hg hm h hs) fun σ H R ⟨e, J, F, s, ds, e', h, q⟩ => ?_
  obtain ⟨d, e1, h1, h2⟩ := bnd_ok h
  obtain ⟨h3, rfl⟩ := opt_ok h2
  unfold rev1 at h3
  split at h3
  · cases h3
    refine ⟨e, J, F, s, _, _, h1, fun v H1 J1 F1 s1 r1 tr1 => ?_⟩
    obtain ⟨w, rfl, r⟩ := r1.one
    cases r with
    | lst j p r => exact ⟨_, _, rfl, .inl (.inl p), q _ H1 J1 F1 s1 tr1 (wd_rev j p r)⟩
  · cases h3
end
end IL

namespace IL
open PySem PySem.Spec PyProof.Rows L2
theorem meth_eval {o : Expr} {m : Str} {apos pos : Pos} {es : List Expr} {env : PySem.Env} (hb : attributeBase o m env (eval o env) = eval o env) (hs : (backTo pos (starEach es env)).any (·.1) = false) (hn : es.length < 29) (hl : (apos.endLine == pos.line) = true) :
    eval (.Call (.Attribute o m apos) es [] pos) env = (do
      let ov ← eval o env
      standAt apos.atName
      let (f, first) ← holding [ov] (getMethod ov m (do return (← importBound o env).getD true))
      callWith pos f first (backTo pos (starEach es env)) (backToKw pos (keywordEach [] env))) := by
  have hform : methodCallForm (es.length + ([] : List Keyword).length) (backTo pos (starEach es env)) (backToKw pos (keywordEach [] env)) = true := by
    unfold methodCallForm
    have h1 : (backTo pos (starEach es env)).all (fun x => !x.1) = true := by
      rw [List.all_eq_true]
      intro x hx
      have := List.any_eq_false.mp hs x hx
      simpa using this
    rw [h1]
    simp [backToKw, keywordEach]
    omega
  rw [arm_eval_Call, hb]
  unfold methodCall calleeOf methodCallPos
  simp only [hform, hl, if_true, Bool.not_true, Bool.or_true]
  rfl
section
variable {X : Cx} {CX : CXT} {k : Nat} {f C : Addr} {fd : FuncData} {ps : List Str} {sp : Sp} {dvs : List V} {ds : List Value} {E : XK} {x m : Str} {p pos apos : Pos} {e o : Expr} {es : List Expr} {ta : TE} {t : TA}
/-- o.m(e, ..), by a promise where no repr is under way -/
theorem pe_methG {pl : Sem Bool} (he : PE X o ta) (c : Cls X.K C) (hm : Meth X.K C m f) (G : FnG X.prog X.w X.K X.mg X.base CX k f fd ps sp) (hr : Room k X.A) (hgd : X.A.guards = some []) (hb : Binds X.K fd ps ds) (hd : Vals dvs ds) (hx : Passes CX X E) (ha : PA X (e :: es) t)
    (hst : starEach (e :: es) X.env = (false, eval e X.env) :: starEach es X.env) (hpl : (backTo pos (starEach es X.env)).any (·.1) = false)
    (ht : eval (.Call (.Attribute o m apos) (e :: es) [] pos) X.env = (do
      let ov ← eval o X.env
      standAt apos.atName
      let (f, first) ← holding [ov] (getMethod ov m pl)
      callWith pos f first (backTo pos (starEach (e :: es) X.env)) (backToKw pos (keywordEach [] X.env)))) :
    PE X (.Call (.Attribute o m apos) (e :: es) [] pos) (tMeth C m sp dvs E ta t) := by
  refine ⟨fun pins s σ H Q I h => ?_⟩
  refine PySem.W.methodCall_KW (pl := pl) (thn (he.run pins s σ H _ I h) fun u s1 ⟨x, H1, I1, rx, a, dx, fs, ex, ea, l, q⟩ => ?_) ht
  subst ex
  obtain rfl : u = Value.ref a := rx
  refine getmeth_ok I1 ea c hm l ?_
  refine PySem.W.callWith_K (first := [.ref a]) (h₀ := X.base) I.ok.mod.kin hm.kp (thn (ha.run pos pins s1 σ H1 _ I1 q) fun us s2 ⟨vs, H2, I2, r, q2⟩ => ⟨I2.kIn, ?_⟩) hst hpl
  exact runG (us := .ref a :: us) (vs := .ref a :: vs) G hr hgd hb hd hx I2 (.cons rfl r) q2
theorem pe_methG0 {pl : Sem Bool} (he : PE X o ta) (c : Cls X.K C) (hm : Meth X.K C m f) (G : FnG X.prog X.w X.K X.mg X.base CX k f fd ps sp) (hr : Room k X.A) (hgd : X.A.guards = some []) (hb : Binds X.K fd ps ds) (hd : Vals dvs ds) (hx : Passes CX X E)
    (ht : eval (.Call (.Attribute o m apos) [] [] pos) X.env = (do
      let ov ← eval o X.env
      standAt apos.atName
      let (f, first) ← holding [ov] (getMethod ov m pl)
      callWith pos f first (backTo pos (starEach [] X.env)) (backToKw pos (keywordEach [] X.env)))) :
    PE X (.Call (.Attribute o m apos) [] [] pos) (tMeth C m sp dvs E ta tNil) := by
  refine ⟨fun pins s σ H Q I h => ?_⟩
  refine PySem.W.methodCall_KW (pl := pl) (thn (he.run pins s σ H _ I h) fun u s1 ⟨x, H1, I1, rx, a, dx, fs, ex, ea, l, q⟩ => ?_) ht
  subst ex
  obtain rfl : u = Value.ref a := rx
  refine getmeth_ok I1 ea c hm l ?_
  exact PySem.W.callWith_K0 (first := [.ref a]) I1.kIn hm.kp (runG (us := [.ref a]) (vs := [.ref a]) G hr hgd hb hd hx I1 (.cons rfl .nil) q)
theorem run_makeG {pins : List (Addr × Obj)} {σ : L2.St} {H : Hp} {s : Shared} {Q : VK} {us : List Value} {vs : List V} (M : Mk X.K C f) (G : FnG X.prog X.w X.K X.mg X.base CX k f fd ps sp) (hr : Room (k + 1) X.A) (hgd : X.A.guards = some []) (hb : Binds X.K fd ps ds) (hd : Vals dvs ds)
    (hx : Passes CX X E) (I : Inv X pins σ H s) (r : Vals vs us)
    (h : ∀ x dx, H x = none → H dx = none → dx ≠ x → sp (.ref x :: (vs ++ dvs)) (upd (upd H dx (.own x)) x (.ins C dx [])) (fun v H2 => v = .non ∧ Q (.ref x) H2) E) :
    wpAny (model X.prog X.w) X.A (call (.ref C) us) (EP X pins σ Q) X.xe s := by
  have hq := h (s.heap.objs.size + 1) s.heap.objs.size (I.hok.fresh (Nat.le_succ _)) (I.hok.fresh (Nat.le_refl _)) (Nat.ne_of_lt (Nat.lt_succ_self _))
  have I2 := Inv.made (C := C) I
  have r2 : Vals (V.ref (s.heap.objs.size + 1) :: (vs ++ dvs)) (Value.ref (s.heap.objs.size + 1) :: (us ++ ds)) := .cons rfl (r.append hd)
  have hl : (Value.ref (s.heap.objs.size + 1) :: us ++ ds).length = ps.length := r2.length.symm.trans (G.len _ _ _ _ hq)
  have hc := G.run (X.A.under (.builtin "type.__call__" ⟨.ref C :: us, []⟩)) X.stack _ _ ⟨Value.ref (s.heap.objs.size + 1) :: us, []⟩ (Value.ref (s.heap.objs.size + 1) :: (us ++ ds)) _ _ E (hr.make C us []) hgd
    (I2.env0.make C us []) (hb _ (Value.ref (s.heap.objs.size + 1) :: us) I2.kIn hl) r2 hq
  refine wpAny_call (make_map (f := f) I.kIn M.makes M.init (beq_iff_eq.mp M.fn) (codeAny_mono hc fun res s' hq' => ?_))
  match res, hq' with
  | .error er, hq' => exact hx pins σ _ _ er s' I2 hq'
  | .ok (.ret u), hq' =>
    obtain ⟨v, H', I3, rv, ev, q3⟩ := I2.after hq'
    subst ev
    exact ⟨rv, ⟨V.ref (s.heap.objs.size + 1), H', I3, rfl, q3⟩⟩
  | .ok .next, hq' => exact hq'.elim
  | .ok .brk, hq' => exact hq'.elim
  | .ok .cont, hq' => exact hq'.elim
theorem pe_makeG (M : Mk X.K C f) (G : FnG X.prog X.w X.K X.mg X.base CX k f fd ps sp) (hr : Room (k + 1) X.A) (hgd : X.A.guards = some []) (hg : Gl X x) (hm : X.mg x = some (.ref C)) (hb : Binds X.K fd ps ds) (hd : Vals dvs ds) (hx : Passes CX X E)
    (ha : PA X (e :: es) t) (hdb : (x == ("__debug__" : Str)) = false) (he : starEach (e :: es) X.env = (false, eval e X.env) :: starEach es X.env) (hpl : (backTo pos (starEach es X.env)).any (·.1) = false) :
    PE X (.Call (.Name x p) (e :: es) [] pos) (tMake C sp dvs E t) := by
  refine ⟨fun pins s σ H Q I h => ?_⟩
  refine wpAny_Call_Name_kw (ld_glob I hg hm ?_ hdb)
  refine PySem.W.callWith_K (h₀ := X.base) I.ok.mod.kin M.kp (thn (ha.run pos pins s σ H _ I h) fun us s1 ⟨vs, H1, I1, r, q⟩ => ⟨I1.kIn, ?_⟩) he hpl
  exact run_makeG M G hr hgd hb hd hx I1 r q
end
section
variable {X : Cx} {pn : List (Nat × V)} {a b c : Expr} {pos pos' apos : Pos} {na : NA}
/-- arguments of a method: the instance, what is written, what is left out -/
def methA (C : Nat) (m : Str) (dv : List D) (fo : M D) (fa : M (List T)) : M (List T) := bnd fo fun d => match d with
  | .dict ((.none, .int z) :: ds) => if decide (z = (C : Int)) && (valD ds (.inr m)).isNone then bnd fa fun ts => ret (.leaf d :: (ts ++ dv.map .leaf)) else bad
  | _ => bad
def gMeth (C : Nat) (m : Str) (F : FSem) (L : List Nat) (dv : List D) (ls : List (Option Nat)) (n : Nat) (fo : M D) (fa : M (List T)) : M T := if 1 + ls.length + dv.length = n then gCallF F L (none :: ls) (methA C m dv fo fa) else bad
theorem meth_rd {C : Addr} {m : Str} {dv : List D} {dvs : List V} {fo : M D} {fa : M (List T)} {ls : List (Option Nat)} {σ : L2.St} {H : Hp} {Q : List V → Hp → Prop} (hdv : ∀ J H, RDs X.K J H dvs dv) (h : rdAs X.K pn (none :: ls) (methA C m dv fo fa) σ H Q) (hn : ∀ e ts e', fa e = .ok ts e' → ts.length = ls.length) :
    rdD X.K pn fo σ H fun x H1 => ∃ a dx fs, x = .ref a ∧ H1 a = some (.ins C dx fs) ∧ fs.lookup m = none ∧ rdAs X.K pn ls fa σ H1 fun vs H2 => Q (x :: (vs ++ dvs)) H2 := by
  obtain ⟨e, J, F, s, t, e', h, q⟩ := h
  obtain ⟨d, e1, h1, h2⟩ := bnd_ok h
  refine ⟨e, J, F, s, d, e1, h1, fun v H1 J1 F1 s1 r1 tr1 => ?_⟩
  split at h2
  · rename_i z ds
    split at h2
    · rename_i hc
      simp only [Bool.and_eq_true, decide_eq_true_eq, Option.isNone_iff_eq_none] at hc
      obtain ⟨rfl, hv⟩ := hc
      obtain ⟨ts, e2, h3, h4⟩ := bnd_ok h2
      cases h4
      obtain ⟨a, C', dx, fs, rfl, oc, hz, j, p, rk⟩ := r1.objv
      have eC : C = C' := by
        have := hz
        simp only [PyData.int.injEq] at this
        exact Int.ofNat.inj this
      subst eC
      have hl : fs.lookup m = none := by
        rw [← fkv_val]
        have h5 := (rk.val (.inr m)).1
        rw [hv] at h5
        cases hx : valV (fkv fs) (.inr m) with
        | none => rfl
        | some _ => rw [hx] at h5; cases h5
      refine ⟨a, dx, fs, rfl, p, hl, e1, J1, F1, s1, ts, _, h3, fun vs H2 J2 F2 fp s2 o2 tr2 hls => ?_⟩
      have tr2' : Tr J1 H1 F1 J2 H2 F2 := tr2.trans (Tr.sub fun b hb => List.mem_append_left _ hb)
      have r2 := r1.step tr2' s1.jf
      have rdv : RTs X.K J2 H2 dvs (dv.map .leaf) [] := RTs.leaves (hdv J2 H2)
      refine q _ H2 J2 F2 fp s2 ⟨?_, o2.nd, o2.jf⟩ (tr1.trans tr2) fun jx i hj => ?_
      · have := RTs.cons (f := []) (RT.leaf r2) (o2.rt.append rdv)
        simpa using this
      · cases jx with
        | zero => simp at hj
        | succ jx =>
          obtain ⟨w, k1, k2⟩ := hls jx i (by simpa using hj)
          exact ⟨w, by
            have hlt : jx < vs.length := (List.getElem?_eq_some_iff.mp k1).1
            rw [List.getElem?_cons_succ, List.getElem?_append_left hlt]
            exact k1, k2⟩
    · cases h2
  · cases h2
/-- a new instance by __init__ -/
def gMake (C : Nat) (F : FSem) (L : List Nat) (n : Nat) (fa : M (List T)) : M T := bnd fa fun ts => fun e => if decide (ts.length + 1 = n) && decide (0 ∈ L) then match F (.obj C [] :: ts) with
  | some (.leaf .none, some t :: _) => .ok t e
  | _ => .bad else .bad
theorem make_rd {C : Addr} {F : FSem} {L : List Nat} {n : Nat} {fa : M (List T)} {E : XK} {σ : L2.St} {H : Hp} {Q : VK} (oc : ObjC X.K C) (h : rdE X.K pn (gMake C F L n fa) σ H Q) : tMake C (spG X.K n L F) [] E (rdEs X.K pn fa) σ H Q := by
  obtain ⟨e, J, F0, s, t, e', h, q⟩ := h
  obtain ⟨ts, e1, h1, h2⟩ := bnd_ok h
  split at h2
  · rename_i hc
    simp only [Bool.and_eq_true, decide_eq_true_eq] at hc
    split at h2
    · rename_i t' rest hF
      cases h2
      refine ⟨e, J, F0, s, ts, _, h1, fun vs H1 J1 F1 fp s1 o1 tr1 x dx hx hdx hne => ?_⟩
      rw [List.append_nil]
      have keep : ∀ b o, H1 b = some o → upd (upd H1 dx (.own x)) x (.ins C dx []) b = some o := fun b o q => by
        rw [upd_ne (ne_of_none q hx), upd_ne (ne_of_none q hdx)]; exact q
      have dm : ∀ b, H1 b ≠ none → upd (upd H1 dx (.own x)) x (.ins C dx []) b ≠ none := fun b q => by
        cases q' : H1 b with
        | none => exact absurd q' q
        | some o => rw [keep b o q']; exact fun z => nomatch z
      have hxJ : ¬ J1 x := fun z => s1.jd x z hx
      have hxf : x ∉ fp := fun z => RTs.dom o1.rt x z hx
      have hxF : x ∉ F1 := fun z => s1.re.dom x z hx
      have s1' : SR X.K pn σ (upd (upd H1 dx (.own x)) x (.ins C dx [])) e' J1 F1 := s1.step (fun _ j => j) (fun b o _ q => keep b o q) (fun a z => dm a (s1.jd a z)) s1.jf
      have ndf : fp.Nodup := (List.nodup_append.mp o1.nd).2.1
      have r1 : RTs X.K J1 (upd (upd H1 dx (.own x)) x (.ins C dx [])) vs ts fp := o1.rt.mono (fun _ j => j) (Kp.of keep) fun b o _ q => keep b o q
      have rx : RT X.K J1 (upd (upd H1 dx (.own x)) x (.ins C dx [])) (.ref x) (.obj C []) [x] := .obj oc upd_same .nil
      have ndx : (x :: fp).Nodup := List.nodup_cons.mpr ⟨hxf, ndf⟩
      have jfx : ∀ a ∈ x :: fp, ¬ J1 a := fun a ha => by
        rcases List.mem_cons.mp ha with rfl | ha
        · exact hxJ
        · exact o1.jf a ha
      have hlen : ((V.ref x) :: vs).length = n := by
        rw [List.length_cons, o1.rt.length]
        exact hc.1
      refine ⟨hlen, J1, x :: fp, .obj C [] :: ts, ⟨?_, ndx, jfx, fun a z => dm a (s1.jd a z), fun p hp => (nomatch hp)⟩, _, _, hF, fun v H2 J2 fp' fpv s' ov tr => ?_⟩
      · have := (RTs.cons rx r1).re
        simpa using this
      have hm : maskN L 0 (some t :: rest) = some t :: maskN L 1 rest := by
        simp [maskN, hc.2]
      have hre := s'.re
      rw [hm] at hre
      generalize hg : (V.ref x :: vs).map some = sg at hre
      cases hre with
      | held rt rr =>
        rename_i v0 σ0 f g
        have ev : v0 = V.ref x := by
          simp only [List.map_cons, List.cons.injEq, Option.some.injEq] at hg
          exact hg.1.symm
        subst ev
        have evn : v = .non := by
          have := ov.rt
          cases this with
          | leaf r => cases r; rfl
        refine ⟨evn, ?_⟩
        have dF1 : ∀ b ∈ F1, upd (upd H1 dx (.own x)) x (.ins C dx []) b ≠ none := s1'.re.dom
        have notF : ∀ b ∈ F1, b ∉ x :: fp := fun b hb z => by
          rcases List.mem_cons.mp z with rfl | z
          · exact hxF hb
          · exact not_both o1.nd z hb
        have sep : ∀ b ∈ F1, b ∉ (f ++ g) ++ fpv := fun b hb z => by
          rcases tr.fnew b z with z | z
          · exact notF b hb z
          · exact dF1 b hb z
        have s2 : SR X.K pn σ H2 e' J2 F1 := s1'.step tr.jj (fun b o z eq => by
          rcases z with z | z | ⟨_, rfl⟩
          · exact tr.keep b o eq fun w => jfx b w z
          · exact tr.keep b o eq fun w => notF b z w
          · exact tr.tups b _ eq) s'.jd fun a ha z => by
            rcases tr.jnew a z with z | z | z
            · exact s1'.jf a ha z
            · exact notF a ha z
            · exact dF1 a ha z
        have ndr := s'.nd
        refine q _ H2 J2 F1 f s2 ⟨rt, List.nodup_append.mpr ⟨s2.nd, (List.nodup_append.mp ndr).1, fun a ha b hb z => ?_⟩, fun a ha => s'.jf a (List.mem_append_left _ ha)⟩ ?_
        · subst z
          exact sep a ha (List.mem_append_left _ (List.mem_append_left _ hb))
        · have t1 : Tr J1 H1 (F1 ++ fp) J1 (upd (upd H1 dx (.own x)) x (.ins C dx [])) (F1 ++ (x :: fp)) := ⟨fun b o q _ => keep b o q, dm, fun _ j => j, fun b hb => by
            rcases List.mem_append.mp hb with z | z
            · exact .inl (List.mem_append_left _ z)
            · rcases List.mem_cons.mp z with rfl | z
              · exact .inr hx
              · exact .inl (List.mem_append_right _ z), fun b z => .inl z, fun b xs q => keep b _ q⟩
          have t2 : Tr J1 (upd (upd H1 dx (.own x)) x (.ins C dx [])) (F1 ++ (x :: fp)) J2 H2 (F1 ++ ((f ++ g) ++ fpv)) := by
            refine ⟨fun b o e n => tr.keep b o e fun z => n (List.mem_append_right _ z), tr.dom, tr.jj, fun b z => ?_, fun b z => (tr.jnew b z).imp id (Or.imp (List.mem_append_right _) id), tr.tups⟩
            rcases List.mem_append.mp z with z | z
            · exact .inl (List.mem_append_left _ z)
            · exact (tr.fnew b z).imp (List.mem_append_right _) id
          refine ((tr1.trans t1).trans t2).trans (Tr.sub fun b hb => ?_)
          rcases List.mem_append.mp hb with z | z
          · exact List.mem_append_left _ z
          · exact List.mem_append_right _ (List.mem_append_left _ (List.mem_append_left _ z))
    · cases h2
  · cases h2
end
end IL

namespace IL
open PySem PySem.Spec PyProof.Rows L2
/-! ### a display of a dict, constant keys, any values -/
def seqM : List (M T) → M (List T)
  | [] => ret []
  | f :: r => consM f (seqM r)
def prT (K : PySem.W.Frag) (pn : List (Nat × V)) : List (Key × M T) → List (TE × TE)
  | [] => []
  | (k, f) :: r => (tC (kV k), rdE K pn f) :: prT K pn r
def gDdis (ks : List Key) (f : M (List T)) : M T := bnd f fun ts => if decide (ts.length = ks.length) && decide (ks.length ≤ 15) && decide ks.Nodup then ret (.dct (ks.zip ts)) else bad
section
variable {X : Cx} {pn : List (Nat × V)} {a b c : Expr} {pos pos' apos : Pos}
theorem seqM_len : ∀ {fs : List (M T)} {e e' : En} {ts : List T}, seqM fs e = .ok ts e' → ts.length = fs.length
  | [], _, _, _, h => by cases h; rfl
  | f :: r, _, _, _, h => by
    obtain ⟨x, e1, h1, h2⟩ := bnd_ok h
    obtain ⟨xs, e2, h3, h4⟩ := bnd_ok h2
    cases h4
    simp [seqM_len h3]
theorem pairs_rd {K : PySem.W.Frag} : ∀ {kfs : List (Key × M T)} {e e' : En} {J : Addr → Prop} {F : List Addr} {σ : L2.St} {H : Hp} {ts : List T} {Q : List (V × V) → Hp → Prop}, SR K pn σ H e J F → seqM (kfs.map (·.2)) e = .ok ts e' →
    (∀ (vs : List V) (H' : Hp) (J' : Addr → Prop) (F' fp : List Addr), SR K pn σ H' e' J' F' → Owns K J' H' F' vs ts fp → Tr J H F J' H' (F' ++ fp) → Q ((kfs.map fun k => kV k.1).zip vs) H') → tPairs (prT K pn kfs) σ H Q
  | [], e, e', J, F, σ, H, ts, Q, s, h, q => by
    cases h
    exact q [] H J F [] s ⟨.nil, by simpa using s.nd, fun _ z => nomatch z⟩ (by simpa using Tr.refl)
  | (k, f) :: r, e, e', J, F, σ, H, ts, Q, s, h, q => by
    obtain ⟨x, e1, h1, h2⟩ := bnd_ok h
    obtain ⟨xs, e2, h3, h4⟩ := bnd_ok h2
    cases h4
    refine ⟨e, J, F, s, x, e1, h1, fun v H1 J1 F1 fp1 s1 o1 tr1 => ?_⟩
    refine pairs_rd (kfs := r) s1 h3 fun vs H2 J2 F2 fp2 s2 o2 tr2 => ?_
    exact q (v :: vs) H2 J2 F2 (fp1 ++ fp2) s2 (own_join o1 s1.jf tr2 o2 s2.nd) (tr_join tr1 tr2)
theorem RTk.zip {K : PySem.W.Frag} {J : Addr → Prop} {H : Hp} : ∀ {ks : List Key} {vs : List V} {ts : List T} {fp : List Addr}, RTs K J H vs ts fp → ts.length = ks.length → RTk K J H (ks.zip vs) (ks.zip ts) fp
  | [], _, _, _, .nil, _ => .nil
  | [], _, _, _, .cons _ _, h => by simp at h
  | k :: ks, _, _, _, .nil, h => by simp at h
  | k :: ks, _, _, _, .cons r s, h => .cons r (RTk.zip s (by simpa using h))
theorem zip_map {α β γ : Type} (f : α → γ) : ∀ (l : List α) (m : List β), (l.map f).zip m = (l.zip m).map fun p => (f p.1, p.2)
  | [], _ => by simp
  | _ :: _, [] => by simp
  | x :: l, y :: m => by simp [zip_map f l m]
theorem ie_ddis {ks : List Key} {kfs : List (Key × M T)} {es : List (Option Expr)} {vs : List Expr} (hk : kfs.map (·.1) = ks) (h : PPs X pos es vs (prT X.K pn kfs)) (hall : es.all (·.isSome) = true) (hl : es.length = vs.length) (hl2 : es.length = kfs.length) : IE X pn (.Dict es vs pos) (gDdis ks (seqM (kfs.map (·.2)))) := by
  refine ie_mk ?_
  cases kfs with
  | nil =>
    have e1 : es = [] := by cases es with | nil => rfl | cons _ _ => simp at hl2
    subst e1
    have e2 : vs = [] := by cases vs with | nil => rfl | cons _ _ => simp at hl
    subst e2
    simp at hk
    subst hk
    refine PE.weak pe_dnewK fun σ H Q ⟨e, J, F, s, t, e', h, q⟩ => ?_
    cases h
    intro p hp
    obtain ⟨s1, o1, tr1⟩ := (new_dct (ts := []) hp s.jd .nil).sr s
    exact q _ _ J F [p] s1 o1 tr1
  | cons kf r =>
    by_cases hfew : ks.length ≤ 15
    · refine PE.weak (pe_disp h hall hl (fun z => by rw [z] at hl2; simp at hl2) (by rw [hl2, ← List.length_map (f := (·.1)), hk]; exact hfew)) fun σ H Q ⟨e, J, F, s, t, e', h, q⟩ => ?_
      obtain ⟨ts, e1, h1, h2⟩ := bnd_ok h
      split at h2
      · rename_i hc
        simp only [Bool.and_eq_true, decide_eq_true_eq] at hc
        cases h2
        intro p hp
        obtain ⟨s0, tr0, pF, pJ⟩ := s.laid (o := .dK []) hp
        refine pairs_rd s0 h1 fun vs H1 J1 F1 fp s1 o1 tr1 => ?_
        have hH : H1 p = some (.dK []) := tr1.keep p _ upd_same pF
        have lv : vs.length = ks.length := by rw [o1.rt.length]; exact hc.1.1
        refine ⟨hH, ks.zip vs, ?_, by simp; omega, ?_⟩
        · rw [show ((kf :: r).map fun k => kV k.1) = ks.map kV by rw [← hk, List.map_map]; rfl, zip_map]
        have hn : ((ks.zip vs).map (·.1)).Nodup := by
          rw [List.map_fst_zip (by omega)]
          exact hc.2
        rw [merge_nodup (by simpa using hn), List.nil_append]
        have pF1 : p ∉ F1 := fun z => by
          rcases tr1.fnew p (List.mem_append_left _ z) with z | z
          · exact pF z
          · rw [upd_same] at z; cases z
        have pfp : p ∉ fp := fun z => by
          rcases tr1.fnew p (List.mem_append_right _ z) with z | z
          · exact pF z
          · rw [upd_same] at z; cases z
        have pJ1 : ¬ J1 p := fun z => by
          rcases tr1.jnew p z with z | z | z
          · exact pJ z
          · exact pF z
          · rw [upd_same] at z; cases z
        obtain ⟨u1, u2, u3⟩ := upd_facts (o1 := .dK (ks.zip vs)) hH (fun _ z => nomatch z)
        have kp := kp_upd (J := J1) (o1 := .dK (ks.zip vs)) hH (fun _ z => nomatch z) pJ1
        have s2 : SR X.K pn σ (upd H1 p (.dK (ks.zip vs))) e' J1 F1 := s1.step (fun _ j => j) (fun b o z q => by
          rcases z with z | z | z
          · exact kp b o (.inl z) q
          · exact u1 b o (fun w => pF1 (w ▸ z)) q
          · exact kp b o (.inr z) q) (fun b z => u2 b (s1.jd b z)) s1.jf
        have rt := (o1.rt.mono (J' := J1) (fun _ j => j) kp fun b o hb q => u1 b o (fun w => pfp (w ▸ hb)) q)
        refine q _ _ J1 F1 (p :: fp) s2 ⟨.dct upd_same (RTk.zip rt hc.1.1), ?_, fun b hb => ?_⟩ ?_
        · have n := List.nodup_append.mp o1.nd
          refine List.nodup_append.mpr ⟨n.1, List.nodup_cons.mpr ⟨pfp, n.2.1⟩, fun x hx y hy z => ?_⟩
          rcases List.mem_cons.mp hy with rfl | hy
          · exact pF1 (z ▸ hx)
          · exact n.2.2 x hx y hy z
        · rcases List.mem_cons.mp hb with rfl | hb
          · exact pJ1
          · exact o1.jf b hb
        · have t1 : Tr J1 H1 (F1 ++ fp ++ [p]) J1 (upd H1 p (.dK (ks.zip vs))) (F1 ++ (p :: fp)) := ⟨fun b o q hb => u1 b o (fun w => hb (by rw [w]; simp)) q, u2, fun _ j => j, fun b hb => .inl (by
            simp only [List.mem_append, List.mem_cons] at hb ⊢
            rcases hb with z | z | z
            · exact .inl (.inl z)
            · exact .inr (by simpa using z)
            · exact .inl (.inr z)), fun b z => .inl z, u3⟩
          exact (tr0.trans (tr1.aside (G := [p]))).trans t1
      · cases h2
    · have : (gDdis ks (seqM ((kf :: r).map (·.2)))) = bnd (seqM ((kf :: r).map (·.2))) fun _ => bad := by
        unfold gDdis
        funext e
        unfold bnd
        cases seqM ((kf :: r).map (·.2)) e with
        | ok ts e1 => simp [hfew]
        | bad => rfl
        | exc _ _ => rfl
      rw [this]
      exact ⟨fun pins s σ H Q I ⟨e, J, F, s', t, e', h, q⟩ => by
        obtain ⟨_, e1, _, h2⟩ := bnd_ok h
        cases h2⟩
/-! ### dict of pairs -/
def pairD : D → Option (Key × D)
  | .tuple [k, d] => (keyO k).map fun j => (j, d)
  | _ => none
def pairsD : List D → Option (List (Key × D))
  | [] => some []
  | d :: r => (pairD d).bind fun p => (pairsD r).map fun l => p :: l
def mergeT (acc : List (Key × T)) (l : List (Key × D)) : List (Key × T) := l.foldl (fun acc kv => putT acc kv.1 (.leaf kv.2)) acc
def dictD : List D → Option T
  | [.list xs] => (pairsD xs).map fun l => .dct (mergeT [] l)
  | _ => none
theorem pairs_rule {K : PySem.W.Frag} {J : Addr → Prop} {H : Hp} : ∀ {ds : List D} {vs : List V} {l : List (Key × D)}, pairsD ds = some l → RDs K J H vs ds → ∃ (ps : List Addr) (kvs : List (Key × V)), vs = ps.map V.ref ∧ Paired (fun p kv => SqT K H p [kV kv.1, kv.2]) ps kvs ∧ RDk K J H kvs (l.map fun p => (kD p.1, p.2))
  | [], _, _, h, .nil => by cases h; exact ⟨[], [], rfl, .nil, .nil⟩
  | d :: ds, _, _, h, .cons r s => by
    simp only [pairsD, Option.bind_eq_some_iff, Option.map_eq_some_iff] at h
    obtain ⟨p, hp, l0, hl, rfl⟩ := h
    obtain ⟨ps, kvs, rfl, h2, h3⟩ := pairs_rule hl s
    unfold pairD at hp
    split at hp
    · rw [Option.map_eq_some_iff] at hp
      obtain ⟨j, hj, rfl⟩ := hp
      cases r with
      | tup p r =>
        obtain ⟨x, y, rfl, rx, ry⟩ := r.two
        have e := keyO_rd hj rx
        subst e
        exact ⟨_ :: ps, (j, y) :: kvs, rfl, .cons p.sq h2, .cons ry h3⟩
    · cases hp
theorem merge_rd {K : PySem.W.Frag} {J : Addr → Prop} {H : Hp} : ∀ {kvs : List (Key × V)} {l : List (Key × D)} {vs : List (Key × V)} {ts : List (Key × T)}, RDk K J H kvs (l.map fun p => (kD p.1, p.2)) → RTk K J H vs ts [] → RTk K J H (mergeK vs kvs) (mergeT ts l) []
  | [], [], vs, ts, _, r => r
  | [], _ :: _, _, _, h, _ => by cases h
  | _ :: _, [], _, _, h, _ => by cases h
  | kv :: kvs, p :: l, vs, ts, h, r => by
    simp only [List.map_cons] at h
    generalize hq : kD p.1 = kd at h
    cases h with
    | @cons k v _ _ _ rd rs =>
      have ek : k = p.1 := by
        have h1 := keyO_kD p.1
        rw [hq, keyO_kD] at h1
        exact Option.some.inj h1
      subst ek
      obtain ⟨fp', h1, h2, h3⟩ := RTk.put rd p.1 r
      have e : fp' = [] := List.eq_nil_iff_forall_not_mem.mpr fun b hb => nomatch h2 b hb
      subst e
      show RTk K J H (mergeK (putK vs p.1 v) kvs) (mergeT (IL.putT ts p.1 (.leaf p.2)) l) []
      exact merge_rd (l := l) rs h1
theorem cs_dict (hc : X.calm = true) : CallS X (.type "dict") dictD := by
  refine .mk (call_dictP hc) fun xs t h J H vs jd rx Q q => ?_
  unfold dictD at h
  split at h
  · rw [Option.map_eq_some_iff] at h
    obtain ⟨l, hl, rfl⟩ := h
    obtain ⟨v, rfl, r⟩ := rx.one
    cases r with
    | lst j p r =>
      obtain ⟨ps, kvs, rfl, h2, h3⟩ := pairs_rule hl r
      refine ⟨_, ps, kvs, rfl, .inl (.inl p), h2, fun p hp => ?_⟩
      have keep : ∀ b o, H b = some o → upd H p (.dK (mergeK [] kvs)) b = some o := fun b o e => by rw [upd_ne (ne_of_none e hp)]; exact e
      have h4 := merge_rd (vs := []) (ts := []) h3 .nil
      exact q _ _ _ _ (new_dct hp jd (h4.mono (fun _ j => j) (Kp.of keep) fun b o _ e => keep b o e))
  · cases h
end
end IL

namespace IL
open PySem PySem.Spec PyProof.Rows L2

/-! ### the written programs, without places -/
inductive Bop where
  | add | sub | mul | fdv | mod | pow | rep
  deriving DecidableEq
def Bop.o : Bop → Operator
  | .add => .Add | .sub => .Sub | .mul => .Mult | .fdv => .FloorDiv | .mod => .Mod | .pow => .Pow | .rep => .Mult
def Bop.d : Bop → D → D → Option T
  | .add => addD | .sub => subD | .mul => mulD | .fdv => fdvD | .mod => modD | .pow => powD | .rep => repD
inductive Cop where
  | eq | ne | lt | le | gt | ge | is | isnt | in | nin
  deriving DecidableEq
def Cop.o : Cop → CmpOp
  | .eq => .Eq | .ne => .NotEq | .lt => .Lt | .le => .LtE | .gt => .Gt | .ge => .GtE | .is => .Is | .isnt => .IsNot | .in => .In | .nin => .NotIn
def Cop.d : Cop → D → D → Option T
  | .eq => eqD | .ne => neD | .lt => ltD | .le => leD | .gt => gtD | .ge => geD | .is => isD | .isnt => isntD | .in => inD | .nin => ninD
inductive Bif where
  | len | abs | list | tuple | all | any | sum | max | min | repr | str | int | maxL | minL | dict
  deriving DecidableEq
def Bif.nm : Bif → Str
  | .len => "len" | .abs => "abs" | .list => "list" | .tuple => "tuple" | .all => "all" | .any => "any" | .sum => "sum" | .max => "max" | .min => "min" | .repr => "repr" | .str => "str" | .int => "int" | .maxL => "max" | .minL => "min" | .dict => "dict"
def Bif.d : Bif → List D → Option T
  | .len => lenD | .abs => absD | .list => listD | .tuple => tupleD | .all => allD | .any => anyD | .sum => sumD | .max => max2D | .min => min2D | .repr => reprD | .str => strOfD | .int => intOfD | .maxL => maxLD | .minL => minLD | .dict => dictD
mutual
inductive C where
  | var (i : Nat)
  | int (n : Int)
  | str (s : Str)
  | bl (b : Bool)
  | non
  | glb (x : Str)
  | bin (op : Bop) (a b : C)
  | neg (a : C)
  | cmp (op : Cop) (a b : C)
  | vcmp (op : Cop) (i : Nat) (b : C)
  | cinv (op : Cop) (a : C) (i : Nat)
  | vlen (i : Nat)
  | chain (op op' : Cop) (a b c : C)
  | and (a b : C)
  | or (a b : C)
  | not (a : C)
  | ite (c a b : C)
  | ix (a b : C)
  | vix (i : Nat) (b : C)
  | sl (a : C) (lo hi : Co)
  | tup (cs : Cs)
  | lst (cs : Cs)
  | call (f : Str) (cs : Cs)
  | bif (b : Bif) (cs : Cs)
  | isi (t : Ty) (a : C)
  | comp (vs : List Nat) (tg : Tg) (it : It2) (t : Co) (el : C)
  | push (i : Nat) (a : C)
  | cnt (a b : C)
  | lrg (a b : C)
  | inr (a b : C)
  | join (s : Str) (a : C)
  | rev (a : C)
  | pop (i : Nat) (k : C)
  | ext (i : Nat) (a : C)
  | din (neg : Bool) (a : C) (i : Nat)
  | dix (i : Nat) (k : C)
  | dlit (kvs : List (Key × D))
  | fld (a : C) (f : Str)
  | dgt (a k : C)
  | ddi (neg : Bool) (k a : C)
  | pth (p : Pt)
  | ppush (p : Pt) (a : C)
  | ddis (ks : List Key) (cs : Cs)
  | meth (c m : Str) (o : C) (cs : Cs)
  | make (c : Str) (cs : Cs)
inductive Co where
  | no
  | so (c : C)
inductive Cs where
  | nil
  | val (c : C) (r : Cs)
  | own (c : C) (r : Cs)
  | lend (i : Nat) (r : Cs)
  | lendL (i : Nat) (r : Cs)
inductive Tg where
  | nm (i : Nat)
  | tp (ts : Tgs)
  | tps (ts : Tgs)
  | sub (i : Nat) (k : C)
inductive Tgs where
  | nil
  | cons (t : Tg) (r : Tgs)
  | star (i : Nat)
inductive It2 where
  | seq (c : C)
  | rng1 (c : Cs)
  | rng2 (c : Cs)
  | zip (c : Cs)
  | enm (c : Cs)
  | rev (c : Cs)
end
mutual
inductive S where
  | set (i : Nat) (c : C)
  | fed (i : Nat) (f : Str)
  | asg (t : Tg) (c : C)
  | dput (i : Nat) (k c : C)
  | pput (p : Pt) (k : KC) (c : C)
  | pfld (p : Pt) (f : Str) (c : C)
  | par (i j : Nat) (cs : Cs)
  | ret (c : C)
  | retN
  | exp (c : C)
  | ifs (c : C) (a b : Ss)
  | whl (n : Nat) (c : C) (b : Ss)
  | fore (t : Tg) (it : It2) (b : Ss)
  | brk
  | cnt
  | pass
inductive Ss where
  | nil
  | cons (s : S) (r : Ss)
end
/-- what stands around: the defs, the module's constants, what the law is fed -/
structure Fe where
  np : Nat
  lent : List Nat
  sem : FSem
structure Wd where
  fn : Str → Option Fe
  glb : Str → Option D
  feed : Option T := none
  na : NA := fun _ _ => false
  mt : Str → Str → Nat → Option (Nat × List D × Fe) := fun _ _ _ => none
  ct : Str → Option (Nat × Fe) := fun _ => none

/-! ### what they tell -/
def gGlb (o : Option D) : M D := opt o
def gNeg (f : M D) : M T := bnd f fun d => match d with
  | .int i => ret (.leaf (.int (-i)))
  | _ => bad
/-- a name's value looked at, as it is then -/
def onlyB (o : Option T) : Option T := match o with
  | some (.leaf (.bool b)) => some (.leaf (.bool b))
  | _ => none
def gVcmp (g : D → D → Option T) (i : Nat) (fb : M D) : M T := bnd (held i) fun _ => bnd fb fun y => peek i fun t => onlyB (g (frz t) y)
def gCinv (g : D → D → Option T) (f : M D) (i : Nat) : M T := bnd f fun y => peek i fun t => onlyB (g y (frz t))
def onlyI (o : Option T) : Option T := match o with
  | some (.leaf (.int n)) => some (.leaf (.int n))
  | _ => none
def gVlen (i : Nat) : M T := peek i fun t => onlyI (lenD [frz t])
def lens : Cs → List (Option Nat)
  | .nil => []
  | .val _ r => none :: lens r
  | .own _ r => none :: lens r
  | .lend i r => some i :: lens r
  | .lendL i r => some i :: lens r
mutual
def evC (W : Wd) : C → M T
  | .var i => lf (gVar i)
  | .int n => lf (ret (.int n))
  | .str s => lf (ret (.str s))
  | .bl b => lf (ret (.bool b))
  | .non => lf (ret .none)
  | .glb x => lf (gGlb (W.glb x))
  | .bin op a b => gBin op.d (fz (evC W a)) (fz (evC W b))
  | .neg a => gNeg (fz (evC W a))
  | .cmp op a b => gBin op.d (fz (evC W a)) (fz (evC W b))
  | .vcmp op i b => gVcmp op.d i (fz (evC W b))
  | .cinv op a i => gCinv op.d (fz (evC W a)) i
  | .vlen i => gVlen i
  | .chain op op' a b c => gChain op.d op'.d (fz (evC W a)) (fz (evC W b)) (fz (evC W c))
  | .and a b => gAnd (evC W a) (evC W b)
  | .or a b => gOr (evC W a) (evC W b)
  | .not a => gNot (evC W a)
  | .ite c a b => cond (tst (evC W c)) (evC W a) (evC W b)
  | .ix a b => lf (gIx (fz (evC W a)) (fz (evC W b)))
  | .vix i b => lf (gVix i (fz (evC W b)))
  | .sl a lo hi => gSl (fz (evC W a)) (evO W lo) (evO W hi)
  | .tup cs => gTup (evCs W cs)
  | .lst cs => gLst (evCs W cs)
  | .call f cs => (match W.fn f with
    | some fe => if (lens cs).length = fe.np then gCallF fe.sem fe.lent (lens cs) (evCs W cs) else bad
    | none => bad)
  | .bif b cs => gCall b.d (fzs (evCs W cs))
  | .isi t a => isiG t (fz (evC W a))
  | .comp vs tg it t el => bnd (evI W it) fun ds => gLc vs (evTg W tg) (evCond W t) (fz (evC W el)) ds []
  | .push i a => gPush i (evC W a)
  | .cnt a b => gBin cntD (fz (evC W a)) (fz (evC W b))
  | .lrg a b => gBin lrgD (fz (evC W a)) (fz (evC W b))
  | .inr a b => gBin inrD (fz (evC W a)) (fz (evC W b))
  | .join s a => gBin joinD (IL.ret (.str s)) (fz (evC W a))
  | .rev a => gRev (fz (evC W a))
  | .pop i k => gPop i (fz (evC W k))
  | .ext i a => gExt i (fz (evC W a))
  | .din neg a i => gDin neg (fz (evC W a)) i
  | .dix i k => lf (gDix i (fz (evC W k)))
  | .dlit kvs => gDlit kvs
  | .fld a f => lf (gFld W.na f (fz (evC W a)))
  | .dgt a k => lf (gDgt (fz (evC W a)) (fz (evC W k)))
  | .ddi neg k a => gDdi neg (fz (evC W k)) (fz (evC W a))
  | .pth p => lf (gPath W.na p)
  | .ppush p a => gPpush W.na p (evC W a)
  | .ddis ks cs => gDdis ks (evCs W cs)
  | .meth c m o cs => (match W.mt c m (lens cs).length with
    | some (C, dv, fe) => gMeth C m fe.sem fe.lent dv (lens cs) fe.np (fz (evC W o)) (evCs W cs)
    | none => bad)
  | .make c cs => (match W.ct c with
    | some (C, fe) => gMake C fe.sem fe.lent fe.np (evCs W cs)
    | none => bad)
def evO (W : Wd) : Co → M (Option Int)
  | .no => ret none
  | .so c => gPart (fz (evC W c))
def evCond (W : Wd) : Co → M Bool
  | .no => ret true
  | .so c => tst (evC W c)
def evCs (W : Wd) : Cs → M (List T)
  | .nil => ret []
  | .val c r => consM (lf (fz (evC W c))) (evCs W r)
  | .own c r => consM (evC W c) (evCs W r)
  | .lend i r => consM (gTake i) (evCs W r)
  | .lendL i r => consL i (evCs W r)
def evTg (W : Wd) : Tg → D → M Unit
  | .nm i => fun d => store i (.leaf d)
  | .tp ts => unT (tgN ts) (evTgs W ts)
  | .tps ts => unS (tgN ts - 1) (evTgs W ts)
  | .sub i k => gPut i (fz (evC W k))
def evTgs (W : Wd) : Tgs → List D → M Unit
  | .nil => fun ds => match ds with
    | [] => ret ()
    | _ => bad
  | .cons t r => consG (evTg W t) (evTgs W r)
  | .star i => consG (fun d => store i (.leaf d)) fun ds => match ds with
    | [] => ret ()
    | _ => bad
def tgN : Tgs → Nat
  | .nil => 0
  | .cons _ r => tgN r + 1
  | .star _ => 1
def evI (W : Wd) : It2 → M (List D)
  | .seq c => gItr (fz (evC W c))
  | .rng1 cs => gRng rng1 (fzs (evCs W cs))
  | .rng2 cs => gRng rng2 (fzs (evCs W cs))
  | .zip cs => gRng zip2 (fzs (evCs W cs))
  | .enm cs => gRng enum1 (fzs (evCs W cs))
  | .rev cs => gRng rev1 (fzs (evCs W cs))
end
mutual
def evS (W : Wd) : S → M Fl
  | .set i c => gSet i (evC W c)
  | .fed i _ => (match W.feed with
    | some t => gSet i (ret t)
    | none => bad)
  | .asg t c => gAsg (fz (evC W c)) (evTg W t)
  | .dput i k c => gDput i (fz (evC W k)) (fz (evC W c))
  | .pput p k c => gPput W.na p k (evC W c)
  | .pfld p f c => gPfld W.na p f (evC W c)
  | .par i j cs => gPar i j (evCs W cs)
  | .ret c => gRet (evC W c)
  | .retN => ret (.rt (.leaf .none))
  | .exp c => gExp (evC W c)
  | .ifs c a b => gIfS (tst (evC W c)) (evSs W a) (evSs W b)
  | .whl n c b => gWhile n (tst (evC W c)) (evSs W b)
  | .fore t it b => bnd (evI W it) (gFor (evTg W t) (evSs W b))
  | .brk => ret .bk
  | .cnt => ret .ct
  | .pass => ret .nx
def evSs (W : Wd) : Ss → M Fl
  | .nil => ret .nx
  | .cons s r => gSeq (evS W s) (evSs W r)
end
end IL

namespace IL
open PySem PySem.Spec PyProof.Rows L2

/-! ### does a text say what a written program says -/
def nmOk (x : Str) : Bool := !(x == ("__debug__" : Str)) && !(x == ("__classdict__" : Str))
def visB (sc : Scope) (x : Str) : Bool := match sc.names.lookup x with
  | some .local => true
  | some .cell => true
  | some .free => true
  | _ => false
def gloB (sc : Scope) (x : Str) : Bool := match sc.names.lookup x with
  | some .globalImplicit => true
  | _ => false
def isNm (N : List Str) (sc : Scope) (i : Nat) : Expr → Bool
  | .Name x _ => decide (N[i]? = some x) && visB sc x && nmOk x
  | _ => false
def isGl (sc : Scope) (x : Str) : Expr → Bool
  | .Name y _ => decide (y = x) && gloB sc x && nmOk x
  | _ => false
def one (e : Expr) : Expr := match e with
  | .BoolOp _ [y] _ => if notIf y then y else e
  | _ => e
def chkK (N : List Str) (sc : Scope) : KC → Expr → Bool
  | .var i, e => isNm N sc i e
  | .int n, e => (match e with
    | .Constant (.int m) _ _ => decide (m = n)
    | _ => false)
  | .str s, e => (match e with
    | .Constant (.str m) _ _ => decide (m = s)
    | _ => false)
  | .ix a b, e => (match e with
    | .Subscript ea eb _ => chkK N sc a ea && chkK N sc b eb && isPlain eb
    | _ => false)
  | .neg n, e => (match e with
    | .UnaryOp .USub (.Constant (.int m) _ _) _ => decide (m = (n : Int))
    | _ => false)
def chkP (N : List Str) (sc : Scope) : Pt → Expr → Bool
  | .var i, e => isNm N sc i e
  | .fld p f, e => (match e with
    | .Attribute ea g _ => decide (g = f) && chkP N sc p ea
    | _ => false)
  | .ky p k, e => (match e with
    | .Subscript ea eb _ => chkP N sc p ea && chkK N sc k eb && isPlain eb
    | _ => false)
  | .at p k, e => (match e with
    | .Subscript ea eb _ => chkP N sc p ea && chkK N sc k eb && isPlain eb
    | _ => false)
def ownB (N : List Str) (scope : Scope) (i : Nat) : Bool := match N[i]? with
  | some x => !decide (scope.names.lookup x = some .free)
  | none => true
def noCall : Expr → Bool
  | .Call .. => false
  | _ => true
def isName : Expr → Bool
  | .Name .. => true
  | _ => false
def starT : Tgs → Bool
  | .nil => false
  | .cons _ r => starT r
  | .star _ => true
mutual
def chkC (N : List Str) (L : List Nat) (sc : Scope) : C → Expr → Bool
  | .var i, e => isNm N sc i e
  | .int n, e => (match e with
    | .Constant (.int m) _ _ => decide (m = n)
    | _ => false)
  | .str s, e => (match e with
    | .Constant (.str m) _ _ => decide (m = s)
    | _ => false)
  | .bl s, e => (match e with
    | .Constant (.bool m) _ _ => decide (m = s)
    | _ => false)
  | .non, e => (match e with
    | .Constant .none _ _ => true
    | _ => false)
  | .glb x, e => isGl sc x e
  | .bin op a b, e => (match e with
    | .BinOp ea o eb _ => decide (o = op.o) && chkC N L sc a ea && chkC N L sc b eb
    | _ => false)
  | .neg a, e => (match e with
    | .UnaryOp .USub ea _ => chkC N L sc a ea
    | _ => false)
  | .cmp op a b, e => (match e with
    | .Compare ea [o] [eb] _ => decide (o = op.o) && chkC N L sc a ea && chkC N L sc b eb && !behindInMarks o eb
    | _ => false)
  | .vcmp op i b, e => (match e with
    | .Compare ea [o] [eb] _ => decide (o = op.o) && isNm N sc i ea && chkC N L sc b eb && !behindInMarks o eb
    | _ => false)
  | .cinv op a i, e => (match e with
    | .Compare ea [o] [eb] _ => decide (o = op.o) && chkC N L sc a ea && isNm N sc i eb && !behindInMarks o eb
    | _ => false)
  | .vlen i, e => (match e with
    | .Call g [ea] [] _ => isGl sc "len" g && isNm N sc i ea
    | _ => false)
  | .chain op op' a b c, e => (match e with
    | .Compare ea [o, o'] [eb, ec] _ => decide (o = op.o) && decide (o' = op'.o) && chkC N L sc a ea && chkC N L sc b eb && chkC N L sc c ec && !lastMarks [o, o'] [eb, ec]
    | _ => false)
  | .and a b, e => (match e with
    | .BoolOp .And (x :: y :: r) p => chkC N L sc a x && notIf x && chkC N L sc b (one (.BoolOp .And (y :: r) p))
    | _ => false)
  | .or a b, e => (match e with
    | .BoolOp .Or (x :: y :: r) p => chkC N L sc a x && notIf x && chkC N L sc b (one (.BoolOp .Or (y :: r) p))
    | _ => false)
  | .not a, e => (match e with
    | .UnaryOp .Not ea _ => chkC N L sc a ea && notIf ea
    | _ => false)
  | .ite c a b, e => (match e with
    | .IfExp ec ea eb _ => chkC N L sc c ec && notIf ec && chkC N L sc a ea && chkC N L sc b eb
    | _ => false)
  | .ix a b, e => (match e with
    | .Subscript ea eb _ => chkC N L sc a ea && chkC N L sc b eb && isPlain eb
    | _ => false)
  | .vix i b, e => (match e with
    | .Subscript ea eb _ => isNm N sc i ea && chkC N L sc b eb && isPlain eb
    | _ => false)
  | .sl a lo hi, e => (match e with
    | .Subscript ea (.Slice l h none _) _ => chkC N L sc a ea && chkO N L sc lo l && chkO N L sc hi h
    | _ => false)
  | .tup cs, e => (match e with
    | .Tuple es _ _ => chkCs N L sc cs es
    | _ => false)
  | .lst cs, e => (match e with
    | .List es _ => chkCs N L sc cs es
    | _ => false)
  | .call f cs, e => (match e with
    | .Call g es [] _ => isGl sc f g && chkCs N L sc cs es
    | _ => false)
  | .bif b cs, e => (match e with
    | .Call g (a :: es) [] _ => isGl sc b.nm g && chkCs N L sc cs (a :: es)
    | _ => false)
  | .isi t a, e => (match e with
    | .Call g [ea, h] [] _ => isGl sc "isinstance" g && chkC N L sc a ea && isGl sc t.nmS h
    | _ => false)
  | .comp vs tg it t el, e => (match e with
    | .ListComp elt [⟨etg, iter, ifs, 0⟩] scope _ =>
      decide ((vs.filterMap fun i => N[i]?.map fun x => (x, i)).map (·.2) = vs) && blkC N sc scope (vs.filterMap fun i => N[i]?.map fun x => (x, i)) && (vs.all fun i => !L.contains i) && (vs.all fun i => ownB N scope i) &&
      chkI N L sc it etg iter && chkTg N L (relS scope sc) true vs tg etg && chkIf N L (relS scope sc) t ifs && chkC N L (relS scope sc) el elt
    | _ => false)
  | .push i a, e => (match e with
    | .Call (.Attribute o at' apos) [ea] [] pos => decide (at' = ("append" : Str)) && isNm N sc i o && chkC N L sc a ea && (apos.endLine == pos.line)
    | _ => false)
  | .cnt a b, e => (match e with
    | .Call (.Attribute (.List es lp) at' apos) [eb] [] pos => decide (at' = ("count" : Str)) && chkC N L sc a (.List es lp) && chkC N L sc b eb && (apos.endLine == pos.line)
    | _ => false)
  | .lrg a b, e => (match e with
    | .Call g [.Call g2 [ea, eb] [] _] [] _ => isGl sc "list" g && isGl sc "range" g2 && chkC N L sc a ea && chkC N L sc b eb
    | _ => false)
  | .inr a b, e => (match e with
    | .Compare ea [.In] [.Call g [eb] [] p] _ => isGl sc "range" g && chkC N L sc a ea && chkC N L sc b eb && !behindInMarks .In (.Call g [eb] [] p)
    | _ => false)
  | .join s a, e => (match e with
    | .Call (.Attribute (.Constant (.str m) k p) at' apos) [ea] [] pos => decide (at' = ("join" : Str)) && decide (m = s) && chkC N L sc a ea && (apos.endLine == pos.line)
    | _ => false)
  | .rev a, e => (match e with
    | .Subscript ea (.Slice none none (some (.UnaryOp .USub (.Constant (.int 1) _ _) _)) _) _ => chkC N L sc a ea
    | _ => false)
  | .pop i a, e => (match e with
    | .Call (.Attribute o at' apos) [ea] [] pos => decide (at' = ("pop" : Str)) && isNm N sc i o && chkC N L sc a ea && (apos.endLine == pos.line)
    | _ => false)
  | .ext i a, e => (match e with
    | .Call (.Attribute o at' apos) [ea] [] pos => decide (at' = ("extend" : Str)) && isNm N sc i o && chkC N L sc a ea && (apos.endLine == pos.line)
    | _ => false)
  | .din neg a i, e => (match e with
    | .Compare ea [o] [eb] _ => decide (o = if neg then .NotIn else .In) && chkC N L sc a ea && isNm N sc i eb && !behindInMarks o eb
    | _ => false)
  | .dix i b, e => (match e with
    | .Subscript ea eb _ => isNm N sc i ea && chkC N L sc b eb && isPlain eb
    | _ => false)
  | .dlit kvs, e => (match e with
    | .Dict ks vs _ => chkKvs kvs ks vs && decide (kvs.length ≤ 15) && decide ((kvs.map (·.1)).Nodup)
    | _ => false)
  | .fld a f, e => (match e with
    | .Attribute ea g _ => decide (g = f) && chkC N L sc a ea && noCall ea
    | _ => false)
  | .dgt a b, e => (match e with
    | .Subscript ea eb _ => chkC N L sc a ea && chkC N L sc b eb && isPlain eb
    | _ => false)
  | .ddi neg a b, e => (match e with
    | .Compare ea [o] [eb] _ => decide (o = if neg then .NotIn else .In) && chkC N L sc a ea && chkC N L sc b eb && !behindInMarks o eb
    | _ => false)
  | .pth p, e => chkP N sc p e
  | .ppush p a, e => (match e with
    | .Call (.Attribute o at' apos) [ea] [] pos => decide (at' = ("append" : Str)) && chkP N sc p o && chkC N L sc a ea && (apos.endLine == pos.line)
    | _ => false)
  | .ddis ks cs, e => (match e with
    | .Dict es vs _ => chkPs N L sc cs ks es vs
    | _ => false)
  | .meth _ m o cs, e => (match e with
    | .Call (.Attribute eo m' apos) es [] pos => decide (m' = m) && chkC N L sc o eo && isName eo && chkCs N L sc cs es && decide (es.length < 29) && (apos.endLine == pos.line)
    | _ => false)
  | .make c cs, e => (match e with
    | .Call g (a :: es) [] _ => isGl sc c g && chkCs N L sc cs (a :: es)
    | _ => false)
def chkPs (N : List Str) (L : List Nat) (sc : Scope) : Cs → List Key → List (Option Expr) → List Expr → Bool
  | .nil, ks, es, vs => (match ks, es, vs with
    | [], [], [] => true
    | _, _, _ => false)
  | .own c r, ks, es, vs => (match ks, es, vs with
    | k :: ks, some ek :: es, v :: vs => conOk ek (kD k) && chkC N L sc c v && chkPs N L sc r ks es vs
    | _, _, _ => false)
  | .val c r, ks, es, vs => (match ks, es, vs with
    | k :: ks, some ek :: es, v :: vs => conOk ek (kD k) && chkC N L sc c v && chkPs N L sc r ks es vs
    | _, _, _ => false)
  | .lend _ _, _, _, _ => false
  | .lendL _ _, _, _, _ => false
def chkO (N : List Str) (L : List Nat) (sc : Scope) : Co → Option Expr → Bool
  | .no, e => (match e with
    | none => true
    | _ => false)
  | .so c, e => (match e with
    | some ec => chkC N L sc c ec
    | _ => false)
def chkIf (N : List Str) (L : List Nat) (sc : Scope) : Co → List Expr → Bool
  | .no, e => (match e with
    | [] => true
    | _ => false)
  | .so c, e => (match e with
    | [ec] => chkC N L sc c ec && notIf ec
    | _ => false)
def chkCs (N : List Str) (L : List Nat) (sc : Scope) : Cs → List Expr → Bool
  | .nil, es => (match es with
    | [] => true
    | _ => false)
  | .val c r, es => (match es with
    | e :: es => chkC N L sc c e && chkCs N L sc r es
    | _ => false)
  | .own c r, es => (match es with
    | e :: es => chkC N L sc c e && chkCs N L sc r es
    | _ => false)
  | .lend i r, es => (match es with
    | e :: es => isNm N sc i e && chkCs N L sc r es
    | _ => false)
  | .lendL i r, es => (match es with
    | e :: es => isNm N sc i e && chkCs N L sc r es
    | _ => false)
def chkTg (N : List Str) (L : List Nat) (sc : Scope) (blk : Bool) (vs : List Nat) : Tg → Expr → Bool
  | .nm i, e => (match e with
    | .Name x _ => decide (N[i]? = some x) && (decide (sc.names.lookup x = some .local) || decide (sc.names.lookup x = some .cell)) && !L.contains i && (!blk || vs.contains i)
    | _ => false)
  | .tp ts, e => (match e with
    | .Tuple es _ _ => chkTgs N L sc blk vs ts es && !starT ts
    | _ => false)
  | .tps ts, e => (match e with
    | .Tuple es _ _ => chkTgs N L sc blk vs ts es && starT ts
    | _ => false)
  | .sub i k, e => (match e with
    | .Subscript a b _ => isNm N sc i a && chkC N L sc k b && isPlain b
    | _ => false)
def chkTgs (N : List Str) (L : List Nat) (sc : Scope) (blk : Bool) (vs : List Nat) : Tgs → List Expr → Bool
  | .nil, es => (match es with
    | [] => true
    | _ => false)
  | .cons t r, es => (match es with
    | e :: es => chkTg N L sc blk vs t e && chkTgs N L sc blk vs r es
    | _ => false)
  | .star i, es => (match es with
    | [.Starred (.Name x _) _] => decide (N[i]? = some x) && (decide (sc.names.lookup x = some .local) || decide (sc.names.lookup x = some .cell)) && !L.contains i && (!blk || vs.contains i)
    | _ => false)
def chkI (N : List Str) (L : List Nat) (sc : Scope) : It2 → Expr → Expr → Bool
  | .seq c, _, e => chkC N L sc c e && (match e with
    | .Set .. => false
    | _ => true)
  | .rng1 cs, _, e => (match e with
    | .Call g [a] [] _ => isGl sc "range" g && chkCs N L sc cs [a] && nstar a
    | _ => false)
  | .rng2 cs, _, e => (match e with
    | .Call g [a, b] [] _ => isGl sc "range" g && chkCs N L sc cs [a, b] && nstar a && nstar b
    | _ => false)
  | .zip cs, tg, e => (match tg, e with
    | .Tuple .., .Call g [a, b] [] _ => isGl sc "zip" g && chkCs N L sc cs [a, b] && nstar a && nstar b
    | _, _ => false)
  | .enm cs, tg, e => (match tg, e with
    | .Tuple .., .Call g [a] [] _ => isGl sc "enumerate" g && chkCs N L sc cs [a] && nstar a
    | _, _ => false)
  | .rev cs, _, e => (match e with
    | .Call g [a] [] _ => isGl sc "reversed" g && chkCs N L sc cs [a] && nstar a
    | _ => false)
end
def notComp : Expr → Bool
  | .ListComp .. => false
  | .SetComp .. => false
  | .DictComp .. => false
  | _ => true
/-- a display to names would be stored the other way round -/
def fairTo (a b : Expr) : Bool := match b with
  | .Tuple .. => (match a with
    | .Tuple [.Subscript .., .Subscript ..] _ _ => true
    | .Tuple [.Tuple .., .Tuple ..] _ _ => true
    | .Subscript .. => true
    | _ => false)
  | _ => (match a with
    | .Tuple .. => true
    | .Subscript .. => true
    | _ => false)
/-- names of which one is a cell: stored in turn -/
def cellTo (sc : Scope) (a b : Expr) : Bool := match b with
  | .Tuple .. => (match a with
    | .Tuple [.Name x _, .Name y _] _ _ => !decide (sc.names.lookup x = some .local) || !decide (sc.names.lookup y = some .local)
    | .Tuple [.Name x _, .Name y _, .Name z _] _ _ => !decide (sc.names.lookup x = some .local) || !decide (sc.names.lookup y = some .local) || !decide (sc.names.lookup z = some .local)
    | _ => false)
  | _ => false
mutual
def chkS (N : List Str) (L : List Nat) (sc : Scope) : S → Stmt → Bool
  | .set i c, st => (match st with
    | .Assign [.Name x px] e p => decide (N[i]? = some x) && !L.contains i && chkC N L sc c e &&
      (if notComp e then decide (sc.names.lookup x = some .local) || decide (sc.names.lookup x = some .cell)
       else (match e with
        | .ListComp _ [⟨_, _, _, 0⟩] scope q => (decide (sc.names.lookup x = some .local) && (px.line == q.line) && !(scope.names.any fun (n, k) => n == x && (k == .local || k == .cell))) || decide (sc.names.lookup x = some .cell)
        | _ => false))
    | _ => false)
  | .fed i f, st => (match st with
    | .Assign [.Name x px] (.Call g [h] [] _) p => decide (N[i]? = some x) && !L.contains i && isGl sc f g && isNm N sc 0 h && (decide (sc.names.lookup x = some .local) || decide (sc.names.lookup x = some .cell))
    | _ => false)
  | .asg t c, st => (match st with
    | .Assign [a] e _ => chkTg N L sc false [] t a && chkC N L sc c e && (fairTo a e || cellTo sc a e)
    | _ => false)
  | .dput i k c, st => (match st with
    | .Assign [.Subscript a b _] e _ => isNm N sc i a && chkC N L sc k b && isPlain b && chkC N L sc c e && notComp e
    | _ => false)
  | .pput p k c, st => (match st with
    | .Assign [.Subscript a b _] e _ => chkP N sc p a && chkK N sc k b && isPlain b && chkC N L sc c e && notComp e
    | _ => false)
  | .pfld p f c, st => (match st with
    | .Assign [.Attribute a g _] e _ => decide (g = f) && chkP N sc p a && chkC N L sc c e && notComp e
    | _ => false)
  | .par i j cs, st => (match st with
    | .Assign [.Tuple [.Name x px, .Name y py] _ _] (.Tuple [a, b] _ _) _ => decide (N[i]? = some x) && decide (N[j]? = some y) && decide (i ≠ j) && decide (sc.names.lookup x = some .local) && decide (sc.names.lookup y = some .local) && !L.contains i && !L.contains j &&
      chkCs N L sc cs [a, b] && nstar a && nstar b && (px.line == py.line) && !([a, b].all (foldedForSure 8)) && !([a, b].all (constantsAlone 8)) && decide (x ≠ y)
    | _ => false)
  | .ret c, st => (match st with
    | .Return (some e) _ => chkC N L sc c e
    | _ => false)
  | .retN, st => (match st with
    | .Return none _ => true
    | _ => false)
  | .exp c, st => (match st with
    | .Expr e _ => chkC N L sc c e && notComp e
    | _ => false)
  | .ifs c a b, st => (match st with
    | .If e sa sb _ => chkC N L sc c e && notIf e && chkSs N L sc a sa && chkSs N L sc b sb
    | _ => false)
  | .whl _ c b, st => (match st with
    | .While e sb [] _ => chkC N L sc c e && notIf e && chkSs N L sc b sb
    | _ => false)
  | .fore t it b, st => (match st with
    | .For a e sb [] _ => chkTg N L sc false [] t a && chkI N L sc it a e && chkSs N L sc b sb
    | _ => false)
  | .brk, st => (match st with
    | .Break _ => true
    | _ => false)
  | .cnt, st => (match st with
    | .Continue _ => true
    | _ => false)
  | .pass, st => (match st with
    | .Pass _ => true
    | _ => false)
def chkSs (N : List Str) (L : List Nat) (sc : Scope) : Ss → List Stmt → Bool
  | .nil, sts => (match sts with
    | [] => true
    | _ => false)
  | .cons s r, sts => (match sts with
    | st :: sts => chkS N L sc s st && chkSs N L sc r sts
    | _ => false)
end
end IL

namespace IL
open PySem PySem.Spec PyProof.Rows L2

def bltNames : List Str := ["len", "abs", "list", "tuple", "all", "any", "sum", "max", "min", "repr", "isinstance", "int", "bool", "str", "dict", "range", "zip", "enumerate", "reversed", "sorted", "set"]
structure GX (X : Cx) (W : Wd) (N : List Str) (sc : Scope) (L : List Nat) (pn : List (Nat × V)) (blk : Bool) : Prop where
  calm : X.calm = true
  xe : X.xe = fun _ _ => False
  hN : X.N = N
  nd : N.Nodup
  hsc : X.env.scope = sc
  kd : sc.kind = .function
  units : X.A.units + 66 < cLine
  gd : X.A.guards = some []
  blt : ∀ x ∈ bltNames, X.mg x = none
  fn : ∀ x fe, W.fn x = some fe → ∃ k f fd ps, FnG X.prog X.w X.K X.mg X.base CX0 k f fd ps (spG X.K fe.np fe.lent fe.sem) ∧ Room k X.A ∧ X.mg x = some (.ref f) ∧ PySem.W.keepIn X.K (.ref f) = true ∧ Binds X.K fd ps []
  glb : ∀ x d, W.glb x = some d → ∃ v u, X.mg x = some u ∧ RelV v u ∧ ∀ J H, RD X.K J H v d
  feed : blk = false → ∀ t, W.feed = some t → ∀ f g h pos, isGl sc f g = true → isNm N sc 0 h = true → PE X (.Call g [h] [] pos) (rdE X.K pn (ret t))
  na : ∀ (C : Nat) f, W.na C f = true → NoAttr X.K C f
  mt : ∀ c m n C dv fe, W.mt c m n = some (C, dv, fe) → ∃ k f fd ps, Cls X.K C ∧ Meth X.K C m f ∧ FnG X.prog X.w X.K X.mg X.base CX0 k f fd ps (spG X.K fe.np fe.lent fe.sem) ∧ Room k X.A ∧ ∃ ds dvs, Binds X.K fd ps ds ∧ Vals dvs ds ∧ ∀ J H, RDs X.K J H dvs dv
  ct : ∀ c C fe, W.ct c = some (C, fe) → ∃ k f fd ps, ObjC X.K C ∧ Mk X.K C f ∧ FnG X.prog X.w X.K X.mg X.base CX0 k f fd ps (spG X.K fe.np fe.lent fe.sem) ∧ Room (k + 1) X.A ∧ X.mg c = some (.ref C) ∧ Binds X.K fd ps []
  pin : ∀ p ∈ pn, p.1 ∈ L
  fnl : blk = false → ∀ x, X.fn x = true
section
variable {X : Cx} {W : Wd} {N : List Str} {sc : Scope} {L : List Nat} {pn : List (Nat × V)} {blk : Bool}
theorem lookup_turn (c : Str → NameKind → Bool) (x : Str) : ∀ l : List (Str × NameKind), (l.map fun (n, k) => if c n k = true then (n, NameKind.cell) else (n, k)).lookup x = (l.lookup x).map fun k => if c x k = true then NameKind.cell else k
  | [] => rfl
  | (n, k) :: r => by
    have ih := lookup_turn c x r
    rw [List.map_cons]
    by_cases hc : c n k = true
    · by_cases e : x = n
      · subst e
        simp [List.lookup_cons, hc]
      · have e2 : (x == n) = false := by simpa using e
        simp only [hc, if_true, List.lookup_cons, e2]
        exact ih
    · by_cases e : x = n
      · subst e
        simp [List.lookup_cons, hc]
      · have e2 : (x == n) = false := by simpa using e
        have hc2 : c n k = false := by simpa using hc
        simp only [hc2, Bool.false_eq_true, if_false, List.lookup_cons, e2]
        exact ih
theorem relS_lookup (scope sc : Scope) (x : Str) : (relS scope sc).names.lookup x = (scope.names.lookup x).map fun k => if (k == .free && sc.kind == .function && sc.names.lookup x == some .cell) = true then .cell else k :=
  lookup_turn (fun n k => k == .free && sc.kind == .function && sc.names.lookup n == some .cell) x scope.names
theorem own_fn {N : List Str} {scope sc : Scope} {vs : List Nat} {s : Shared} {H : Hp} {cenv : Env} {fp : List Addr} {X : Cx} (h : (vs.all fun i => ownB N scope i) = true) : ∀ i x, true = true → N[i]? = some x → i ∈ vs → (relS scope sc).names.lookup x = some .cell → (X.blk s H scope cenv fp).fn x = true := by
  intro i x _ hx hi hl
  have h1 := List.all_eq_true.mp h i hi
  unfold ownB at h1
  rw [hx] at h1
  simp only [Bool.not_eq_true', decide_eq_false_iff_not] at h1
  rw [relS_lookup] at hl
  show (scope.names.lookup x == some .cell) = true
  cases hk : scope.names.lookup x with
  | none => rw [hk] at hl; cases hl
  | some k =>
    rw [hk] at hl h1
    simp only [Option.map_some, Option.some.injEq] at hl
    cases k <;> simp_all
theorem ie_bad {e : Expr} (h : nstar e = true) : IE X pn e bad :=
  ⟨⟨fun pins s σ H Q I ⟨e, J, F, s', t, e', h, q⟩ => by cases h⟩, fun _ => ⟨fun pins s σ H Q I ⟨e, J, F, s', t, e', h, q⟩ => by cases h⟩, h⟩
theorem nmOk_d {x : Str} (h : nmOk x = true) : (x == ("__debug__" : Str)) = false ∧ (x == ("__classdict__" : Str)) = false := by
  unfold nmOk at h
  simp only [Bool.and_eq_true, Bool.not_eq_true'] at h
  exact h
theorem visB_vis {x : Str} (h : visB sc x = true) : Vis sc x := by
  unfold visB at h
  split at h
  · exact .inl (by assumption)
  · exact .inr (.inl (by assumption))
  · exact .inr (.inr (by assumption))
  · cases h
theorem nm_var (g : GX X W N sc L pn blk) {i : Nat} {e : Expr} (h : isNm N sc i e = true) : ∃ x p, e = .Name x p ∧ PE X e (tVar i) := by
  unfold isNm at h
  split at h
  · rename_i x p
    simp only [Bool.and_eq_true, decide_eq_true_eq] at h
    obtain ⟨⟨h1, h2⟩, h3⟩ := h
    obtain ⟨d1, d2⟩ := nmOk_d h3
    refine ⟨x, p, rfl, pe_var (by rw [g.hN]; exact h1) ?_ d1 d2⟩
    rw [g.hsc]
    exact visB_vis h2
  · cases h
theorem gl_name (g : GX X W N sc L pn blk) {x : Str} {e : Expr} (h : isGl sc x e = true) : ∃ p, e = .Name x p ∧ Gl X x ∧ (x == ("__debug__" : Str)) = false := by
  unfold isGl at h
  split at h
  · rename_i y p
    simp only [Bool.and_eq_true, decide_eq_true_eq] at h
    obtain ⟨⟨rfl, h2⟩, h3⟩ := h
    refine ⟨p, rfl, ?_, (nmOk_d h3).1⟩
    unfold gloB at h2
    split at h2
    · show X.env.scope.names.lookup y = _
      rw [g.hsc]
      assumption
    · cases h2
  · cases h
theorem ie_of_one {e : Expr} {f : M T} (h : IE X pn (one e) f) : IE X pn e f := by
  unfold one at h
  split at h
  · rename_i op y p
    split at h
    · exact ie_one h (by assumption)
    · exact h
  · exact h
theorem bif_mem (b : Bif) : b.nm ∈ bltNames := by cases b <;> simp [Bif.nm, bltNames]
theorem ie_bif (g : GX X W N sc L pn blk) {b : Bif} {p pos : Pos} {a : Expr} {es : List Expr} {f : M (List T)} (hg : Gl X b.nm) (hdb : (b.nm == ("__debug__" : Str)) = false) (hs : starEach (a :: es) X.env = (false, eval a X.env) :: starEach es X.env) (hpl : (backTo pos (starEach es X.env)).any (·.1) = false)
    (h : PA X (a :: es) (rdEs X.K pn f)) : IE X pn (.Call (.Name b.nm p) (a :: es) [] pos) (gCall b.d (fzs f)) := by
  have hm : X.mg b.nm = none := g.blt _ (bif_mem b)
  have fin : ∀ {id : String}, bootBuiltins b.nm = some (.builtin id) → CallS X (.builtin id) b.d → b.nm ≠ "__name__" → IE X pn (.Call (.Name b.nm p) (a :: es) [] pos) (gCall b.d (fzs f)) := fun hv ⟨r, h1, h2⟩ hn =>
    ie_mk (PE.weak (pe_callB h1 hg hm hv (pa_fzs h) hn hdb hs hpl) fun σ H Q q => tCB_rd h2 q)
  have finT : ∀ {id : String}, bootBuiltins b.nm = some (.type id) → CallS X (.type id) b.d → b.nm ≠ "__name__" → IE X pn (.Call (.Name b.nm p) (a :: es) [] pos) (gCall b.d (fzs f)) := fun hv ⟨r, h1, h2⟩ hn =>
    ie_mk (PE.weak (pe_callTy h1 hg hm hv (pa_fzs h) hn hdb hs hpl) fun σ H Q q => tCB_rd h2 q)
  cases b with
  | len => exact fin (by decide +kernel) cs_len (by decide)
  | abs => exact fin (by decide +kernel) cs_abs (by decide)
  | list => exact finT (by decide +kernel) cs_list (by decide)
  | tuple => exact finT (by decide +kernel) cs_tuple (by decide)
  | all => exact fin (by decide +kernel) (cs_all g.calm) (by decide)
  | any => exact fin (by decide +kernel) (cs_any g.calm) (by decide)
  | sum => exact fin (by decide +kernel) (cs_sum g.calm) (by decide)
  | max => exact fin (by decide +kernel) (cs_max2 g.calm) (by decide)
  | min => exact fin (by decide +kernel) (cs_min2 g.calm) (by decide)
  | repr => exact fin (by decide +kernel) (cs_repr g.units g.gd) (by decide)
  | str => exact finT (by decide +kernel) cs_str (by decide)
  | int => exact finT (by decide +kernel) cs_int (by decide)
  | maxL => exact fin (by decide +kernel) (cs_maxL g.calm) (by decide)
  | minL => exact fin (by decide +kernel) (cs_minL g.calm) (by decide)
  | dict => exact finT (by decide +kernel) (cs_dict g.calm) (by decide)
theorem bop_ok (g : GX X W N sc L pn blk) (op : Bop) : OpS X (binaryOp op.o) op.d := by
  cases op with
  | add => exact os_add
  | sub => exact os_sub
  | mul => exact os_mul
  | fdv => exact os_fdv
  | mod => exact os_mod
  | pow => exact os_pow
  | rep => exact os_rep
theorem cop_ok (g : GX X W N sc L pn blk) (op : Cop) : OpS X (compareOp op.o) op.d := by
  have h1 : X.A.units + 64 < cLine := by have := g.units; omega
  have h2 : X.A.units + 65 < cLine := by have := g.units; omega
  cases op with
  | eq => exact os_eq h1
  | ne => exact os_ne h1
  | lt => exact os_lt
  | le => exact os_le
  | gt => exact os_gt
  | ge => exact os_ge
  | is => exact os_is
  | isnt => exact os_isnt
  | «in» => exact os_in h2
  | nin => exact os_notIn h2
theorem onlyB_some {o : Option T} {t : T} (h : onlyB o = some t) : ∃ b, o = some (.leaf (.bool b)) ∧ t = .leaf (.bool b) := by
  unfold onlyB at h
  split at h
  · cases h; exact ⟨_, rfl, rfl⟩
  · cases h
theorem vcmp_rd {i : Nat} {gg : D → D → Option T} {r : R2} (h2 : RuleD X r gg) {fb : M D} {σ : L2.St} {H : Hp} {Q : VK} (h : rdE X.K pn (gVcmp gg i fb) σ H Q) : tOp r (tVar i) (rdD X.K pn fb) σ H Q := by
  obtain ⟨e, J, F, s, t, e', h, q⟩ := h
  obtain ⟨_, e0, k1, k2⟩ := bnd_ok h
  obtain ⟨rfl, t0, h0⟩ := held_ok k1
  obtain ⟨y, e1, k3, k4⟩ := bnd_ok k2
  obtain ⟨rfl, x, hx, k5⟩ := peek_ok k4
  obtain ⟨b, k6, rfl⟩ := onlyB_some k5
  obtain ⟨v, fp0, hv, _⟩ := s.at h0
  refine ⟨v, hv, _, J, F, s, y, _, k3, fun u H2 J2 F2 s2 r2 tr2 => ?_⟩
  obtain ⟨v', fp, hv', rt⟩ := s2.at hx
  rw [hv] at hv'
  cases hv'
  have jd' : ∀ a, (J2 a ∨ a ∈ fp) → H2 a ≠ none := fun a z => by
    rcases z with z | z
    · exact s2.jd a z
    · exact RT.dom rt a z
  refine h2 (frz x) y _ k6 (fun a => J2 a ∨ a ∈ fp) H2 v u jd' (rt.frz (fun _ j => .inl j) fun _ z => .inr z) (r2.mono (fun _ j => .inl j) fun _ _ _ q => q) Q fun w H' J' fpw n => ?_
  have hrt := n.rt
  have e2 : w = .bl b := by
    cases hrt with
    | leaf r => cases r; rfl
  subst e2
  have dm : ∀ a, H2 a ≠ none → H' a ≠ none := fun a z => by
    cases q' : H2 a with
    | none => exact absurd q' z
    | some o => rw [n.keep a o q']; exact fun z => nomatch z
  have s3 : SR X.K pn σ H' _ J2 F2 := s2.step (fun _ j => j) (fun a o _ q => n.keep a o q) (fun a z => dm a (s2.jd a z)) s2.jf
  exact q _ H' J2 F2 [] s3 (own_leaf_bl s3.nd) (by
    rw [List.append_nil]
    exact tr2.trans ⟨fun a o q _ => n.keep a o q, dm, fun _ j => j, fun a z => .inl z, fun a z => .inl z, fun a xs q => n.keep a _ q⟩)
theorem cinv_rd {i : Nat} {gg : D → D → Option T} {r : R2} (h2 : RuleD X r gg) {fa : M D} {σ : L2.St} {H : Hp} {Q : VK} (h : rdE X.K pn (gCinv gg fa i) σ H Q) : tOp r (rdD X.K pn fa) (tVar i) σ H Q := by
  obtain ⟨e, J, F, s, t, e', h, q⟩ := h
  obtain ⟨y, e1, k3, k4⟩ := bnd_ok h
  obtain ⟨rfl, x, hx, k5⟩ := peek_ok k4
  obtain ⟨b, k6, rfl⟩ := onlyB_some k5
  refine ⟨e, J, F, s, y, _, k3, fun u H2 J2 F2 s2 r2 tr2 => ?_⟩
  obtain ⟨v, fp, hv, rt⟩ := s2.at hx
  refine ⟨v, hv, ?_⟩
  have jd' : ∀ a, (J2 a ∨ a ∈ fp) → H2 a ≠ none := fun a z => by
    rcases z with z | z
    · exact s2.jd a z
    · exact RT.dom rt a z
  refine h2 y (frz x) _ k6 (fun a => J2 a ∨ a ∈ fp) H2 u v jd' (r2.mono (fun _ j => .inl j) fun _ _ _ q => q) (rt.frz (fun _ j => .inl j) fun _ z => .inr z) Q fun w H' J' fpw n => ?_
  have hrt := n.rt
  have e2 : w = .bl b := by
    cases hrt with
    | leaf r => cases r; rfl
  subst e2
  have dm : ∀ a, H2 a ≠ none → H' a ≠ none := fun a z => by
    cases q' : H2 a with
    | none => exact absurd q' z
    | some o => rw [n.keep a o q']; exact fun z => nomatch z
  have s3 : SR X.K pn σ H' _ J2 F2 := s2.step (fun _ j => j) (fun a o _ q => n.keep a o q) (fun a z => dm a (s2.jd a z)) s2.jf
  exact q _ H' J2 F2 [] s3 (own_leaf_bl s3.nd) (by
    rw [List.append_nil]
    exact tr2.trans ⟨fun a o q _ => n.keep a o q, dm, fun _ j => j, fun a z => .inl z, fun a z => .inl z, fun a xs q => n.keep a _ q⟩)
theorem onlyI_some {o : Option T} {t : T} (h : onlyI o = some t) : ∃ b, o = some (.leaf (.int b)) ∧ t = .leaf (.int b) := by
  unfold onlyI at h
  split at h
  · cases h; exact ⟨_, rfl, rfl⟩
  · cases h
theorem ie_vlen {i : Nat} {a : Expr} {p pos : Pos} (hp : PE X a (tVar i)) (hn : nstar a = true) (hg : Gl X "len") (hm : X.mg "len" = none) : IE X pn (.Call (.Name "len" p) [a] [] pos) (gVlen i) := by
  obtain ⟨r, h1, h2⟩ := cs_len (X := X)
  have hs : starEach [a] X.env = (false, eval a X.env) :: starEach [] X.env := star_of hn [] X.env
  refine ie_mk (PE.weak (pe_callB h1 hg hm (by decide +kernel) (pa_cons hp pa_nil hs) (by decide) (by decide) hs rfl) fun σ H Q ⟨e, J, F, s, t, e', h, q⟩ => ?_)
  obtain ⟨rfl, x, hx, k5⟩ := peek_ok h
  obtain ⟨b, k6, rfl⟩ := onlyI_some k5
  obtain ⟨v, fp, hv, rt⟩ := s.at hx
  refine ⟨v, hv, ?_⟩
  have jd' : ∀ a, (J a ∨ a ∈ fp) → H a ≠ none := fun a z => by
    rcases z with z | z
    · exact s.jd a z
    · exact RT.dom rt a z
  refine h2 [frz x] _ k6 (fun a => J a ∨ a ∈ fp) H [v] jd' (.cons (rt.frz (fun _ j => .inl j) fun _ z => .inr z) .nil) Q fun w H' J' fpw n => ?_
  have hrt := n.rt
  have e2 : w = .int b := by
    cases hrt with
    | leaf r => cases r; rfl
  subst e2
  have dm : ∀ a, H a ≠ none → H' a ≠ none := fun a z => by
    cases q' : H a with
    | none => exact absurd q' z
    | some o => rw [n.keep a o q']; exact fun z => nomatch z
  have s3 : SR X.K pn σ H' _ J F := s.step (fun _ j => j) (fun a o _ q => n.keep a o q) (fun a z => dm a (s.jd a z)) s.jf
  exact q _ H' J F [] s3 ⟨.leaf (.int _), by simpa using s3.nd, fun _ z => nomatch z⟩ (by
    rw [List.append_nil]
    exact ⟨fun a o q _ => n.keep a o q, dm, fun _ j => j, fun a z => .inl z, fun a z => .inl z, fun a xs q => n.keep a _ q⟩)
/-- the context of a comprehension's block -/
theorem GX.block (g : GX X W N sc L pn blk) {s : Shared} {H : Hp} {scope : Scope} {C : Addr} {cl : List (Str × Addr)} {fp : List Addr} (hk : scope.kind = .function) :
    GX (X.blk s H scope (compEnvC scope cl C X.env) fp) W N (relS scope sc) L pn true where
  calm := g.calm
  xe := rfl
  hN := g.hN
  nd := g.nd
  hsc := by
    show relS scope X.env.scope = _
    rw [g.hsc]
  kd := hk
  units := g.units
  gd := g.gd
  blt := g.blt
  fn := g.fn
  glb := g.glb
  na := g.na
  mt := g.mt
  ct := g.ct
  feed := fun h => by cases h
  pin := g.pin
  fnl := fun h => by cases h

mutual
def tgVs : Tg → List Nat
  | .nm i => [i]
  | .tp ts => tgsVs ts
  | .tps ts => tgsVs ts
  | .sub _ _ => []
def tgsVs : Tgs → List Nat
  | .nil => []
  | .cons t r => tgVs t ++ tgsVs r
  | .star i => [i]
end
mutual
theorem okTgVs : ∀ (t : Tg) {sc : Scope} {vs : List Nat} {e : Expr}, chkTg N L sc true vs t e = true → ∀ i ∈ tgVs t, i ∈ vs
  | .nm i, sc, vs, e, h => by
    unfold chkTg at h
    split at h
    · simp only [Bool.and_eq_true, Bool.or_eq_true, Bool.not_true, Bool.false_eq_true, false_or, List.contains_eq_mem, decide_eq_true_eq] at h
      intro j hj
      simp [tgVs] at hj
      subst hj
      exact h.2
    · cases h
  | .tp ts, sc, vs, e, h => by
    unfold chkTg at h
    split at h
    · simp only [Bool.and_eq_true] at h
      exact okTgsVs ts h.1
    · cases h
  | .tps ts, sc, vs, e, h => by
    unfold chkTg at h
    split at h
    · simp only [Bool.and_eq_true] at h
      exact okTgsVs ts h.1
    · cases h
  | .sub i k, sc, vs, e, h => fun j hj => by simp [tgVs] at hj
theorem okTgsVs : ∀ (t : Tgs) {sc : Scope} {vs : List Nat} {e : List Expr}, chkTgs N L sc true vs t e = true → ∀ i ∈ tgsVs t, i ∈ vs
  | .nil, sc, vs, e, h => fun j hj => by simp [tgsVs] at hj
  | .cons t r, sc, vs, e, h => by
    unfold chkTgs at h
    split at h
    · simp only [Bool.and_eq_true] at h
      intro j hj
      simp only [tgsVs, List.mem_append] at hj
      rcases hj with hj | hj
      · exact okTgVs t h.1 j hj
      · exact okTgsVs r h.2 j hj
    · cases h
  | .star i, sc, vs, e, h => by
    unfold chkTgs at h
    split at h
    · simp only [Bool.and_eq_true, Bool.or_eq_true, Bool.not_true, Bool.false_eq_true, false_or, List.contains_eq_mem, decide_eq_true_eq] at h
      intro j hj
      simp [tgsVs] at hj
      subst hj
      exact h.2
    · cases h
end
theorem notIf_one {e : Expr} (h : notIf e = true) : notIf e = true := h
def nstars : List Expr → Bool
  | [] => true
  | e :: r => nstar e && nstars r
theorem stars_none : ∀ {es : List Expr} (pos : Pos), nstars es = true → (backTo pos (starEach es X.env)).any (·.1) = false
  | [], _, _ => rfl
  | e :: r, pos, h => by
    simp only [nstars, Bool.and_eq_true] at h
    rw [star_of h.1]
    have := stars_none (es := r) pos h.2
    unfold backTo at this ⊢
    simpa using this
theorem cmp_not {e : Expr} (h : nstar e = true) : nstar e = true := h
theorem okK (g : GX X W N sc L pn blk) : ∀ (k : KC) {e : Expr}, chkK N sc k e = true → PE X e (rdK X.K pn (evK k))
  | .var i, e, h => by
    unfold chkK at h
    obtain ⟨x, p, rfl, hp⟩ := nm_var g h
    exact ke_var hp
  | .int n, e, h => by
    unfold chkK at h
    split at h
    · simp only [decide_eq_true_eq] at h
      subst h
      exact ke_int pe_int
    · cases h
  | .str n, e, h => by
    unfold chkK at h
    split at h
    · simp only [decide_eq_true_eq] at h
      subst h
      exact ke_str pe_str
    · cases h
  | .ix a b, e, h => by
    unfold chkK at h
    split at h
    · simp only [Bool.and_eq_true] at h
      exact ke_ix (okK g a h.1.1) (okK g b h.1.2) h.2
    · cases h
  | .neg n, e, h => by
    unfold chkK at h
    split at h
    · simp only [decide_eq_true_eq] at h
      subst h
      exact ke_neg pe_int
    · cases h
theorem okP (g : GX X W N sc L pn blk) : ∀ (p : Pt) {e : Expr}, chkP N sc p e = true → PE X e (rdP X.K pn W.na p) ∧ nstar e = true ∧ (∀ whole, isTrue e X.env whole = (do let v ← whole; standAt e.pos; holding [v] (truthy v))) ∧ ∀ f, attributeBase e f X.env (eval e X.env) = eval e X.env
  | .var i, e, h => by
    unfold chkP at h
    obtain ⟨x, p, rfl, hp⟩ := nm_var g h
    exact ⟨pt_var hp, rfl, fun _ => rfl, fun _ => rfl⟩
  | .fld p f, e, h => by
    unfold chkP at h
    split at h
    · simp only [Bool.and_eq_true, decide_eq_true_eq] at h
      obtain ⟨rfl, h2⟩ := h
      obtain ⟨a1, a2, a3, a4⟩ := okP g p h2
      exact ⟨pt_fld g.na a1 (a4 _), rfl, fun _ => rfl, fun _ => rfl⟩
    · cases h
  | .ky p k, e, h => by
    unfold chkP at h
    split at h
    · simp only [Bool.and_eq_true] at h
      obtain ⟨a1, a2, a3, a4⟩ := okP g p h.1.1
      exact ⟨pt_ky (by have := g.units; omega) a1 (okK g k h.1.2) h.2, rfl, fun _ => rfl, fun _ => rfl⟩
    · cases h
  | .at p k, e, h => by
    unfold chkP at h
    split at h
    · simp only [Bool.and_eq_true] at h
      obtain ⟨a1, a2, a3, a4⟩ := okP g p h.1.1
      exact ⟨pt_at a1 (okK g k h.1.2) h.2, rfl, fun _ => rfl, fun _ => rfl⟩
    · cases h
theorem noCall_base {e : Expr} (h : noCall e = true) (f : Str) (env : PySem.Env) : attributeBase e f env (eval e env) = eval e env := by
  cases e <;> first | rfl | cases h
mutual
theorem okC : ∀ (c : C) {X : Cx} {sc : Scope} {pn : List (Nat × V)} {blk : Bool}, GX X W N sc L pn blk → ∀ (e : Expr), chkC N L sc c e = true → IE X pn e (evC W c)
  | .var i, X, sc, pn, blk, g, e, h => by
    unfold chkC at h
    obtain ⟨x, p, rfl, hp⟩ := nm_var g h
    exact ie_mk (pe_lf (pe_var' hp))
  | .int n, X, sc, pn, blk, g, e, h => by
    unfold chkC at h
    split at h
    · simp only [decide_eq_true_eq] at h
      subst h
      exact ie_mk (pe_lf (pe_const' pe_int fun _ _ => .int _))
    · cases h
  | .str n, X, sc, pn, blk, g, e, h => by
    unfold chkC at h
    split at h
    · simp only [decide_eq_true_eq] at h
      subst h
      exact ie_mk (pe_lf (pe_const' pe_str fun _ _ => .str _))
    · cases h
  | .bl n, X, sc, pn, blk, g, e, h => by
    unfold chkC at h
    split at h
    · simp only [decide_eq_true_eq] at h
      subst h
      exact ie_mk (pe_lf (pe_const' pe_bl fun _ _ => .bl _))
    · cases h
  | .non, X, sc, pn, blk, g, e, h => by
    unfold chkC at h
    split at h
    · exact ie_mk (pe_lf (pe_const' pe_non fun _ _ => .non))
    · cases h
  | .glb x, X, sc, pn, blk, g, e, h => by
    unfold chkC at h
    obtain ⟨p, rfl, hg, hd⟩ := gl_name g h
    unfold evC gGlb
    cases hx : W.glb x with
    | none =>
      refine ie_mk (pe_lf ⟨fun pins s σ H Q I ⟨e, J, F, s', t, e', h, q⟩ => by cases h⟩)
    | some d =>
      obtain ⟨v, u, h1, h2, h3⟩ := g.glb x d hx
      exact ie_mk (pe_lf (pe_const' (pe_glob hg h1 h2 hd) h3))
  | .bin op a b, X, sc, pn, blk, g, e, h => by
    unfold chkC at h
    split at h
    · simp only [Bool.and_eq_true, decide_eq_true_eq] at h
      obtain ⟨⟨rfl, ha⟩, hb⟩ := h
      exact ie_bin (bop_ok g op) (pe_fz (okC a g _ ha).pe) (pe_fz (okC b g _ hb).pe)
    · cases h
  | .neg a, X, sc, pn, blk, g, e, h => by
    unfold chkC at h
    split at h
    · refine ie_mk (PE.weak (pe_un un_neg (pe_fz (okC a g _ h).pe)) fun σ H Q ⟨e, J, F, s, t, e', h, q⟩ => ?_)
      unfold evC gNeg at h
      obtain ⟨d, e1, k1, k2⟩ := bnd_ok h
      refine ⟨e, J, F, s, d, e1, k1, fun v H1 J1 F1 s1 r1 tr1 => ?_⟩
      split at k2
      · cases k2
        exact ⟨_, r1.int_inv, q _ H1 J1 F1 [] s1 ⟨.leaf (.int _), by simpa using s1.nd, fun _ z => nomatch z⟩ (by simpa using tr1)⟩
      · cases k2
    · cases h
  | .cmp op a b, X, sc, pn, blk, g, e, h => by
    unfold chkC at h
    split at h
    · simp only [Bool.and_eq_true, decide_eq_true_eq, Bool.not_eq_true'] at h
      obtain ⟨⟨⟨rfl, ha⟩, hb⟩, hm⟩ := h
      exact ie_cmp (cop_ok g op) (pe_fz (okC a g _ ha).pe) (pe_fz (okC b g _ hb).pe) hm
    · cases h
  | .cinv op a i, X, sc, pn, blk, g, e, h => by
    unfold chkC at h
    split at h
    · simp only [Bool.and_eq_true, decide_eq_true_eq, Bool.not_eq_true'] at h
      obtain ⟨⟨⟨rfl, ha⟩, hb⟩, hm⟩ := h
      obtain ⟨x, p, rfl, hp⟩ := nm_var g hb
      obtain ⟨r, h1, h2⟩ := cop_ok g op
      have ha' := pe_fz (okC a g _ ha).pe
      exact ⟨PE.weak (pe_cmpR h1 ha' hp hm) fun σ H Q q => cinv_rd h2 q, fun _ => PT.weak (pt_cmpR h1 ha' hp hm) fun σ H Q q => cinv_rd h2 (rdT_of q), rfl⟩
    · cases h
  | .vlen i, X, sc, pn, blk, g, e, h => by
    unfold chkC at h
    split at h
    · simp only [Bool.and_eq_true] at h
      obtain ⟨p, rfl, hgl, hd⟩ := gl_name g h.1
      obtain ⟨x, p2, rfl, hv⟩ := nm_var g h.2
      exact ie_vlen hv rfl hgl (g.blt _ (by simp [bltNames]))
    · cases h
  | .vcmp op i b, X, sc, pn, blk, g, e, h => by
    unfold chkC at h
    split at h
    · simp only [Bool.and_eq_true, decide_eq_true_eq, Bool.not_eq_true'] at h
      obtain ⟨⟨⟨rfl, ha⟩, hb⟩, hm⟩ := h
      obtain ⟨x, p, rfl, hp⟩ := nm_var g ha
      obtain ⟨r, h1, h2⟩ := cop_ok g op
      have hb' := pe_fz (okC b g _ hb).pe
      exact ⟨PE.weak (pe_cmpR h1 hp hb' hm) fun σ H Q q => vcmp_rd h2 q, fun _ => PT.weak (pt_cmpR h1 hp hb' hm) fun σ H Q q => vcmp_rd h2 (rdT_of q), rfl⟩
    · cases h
  | .chain op op' a b c, X, sc, pn, blk, g, e, h => by
    unfold chkC at h
    split at h
    · simp only [Bool.and_eq_true, decide_eq_true_eq, Bool.not_eq_true'] at h
      obtain ⟨⟨⟨⟨⟨rfl, rfl⟩, ha⟩, hb⟩, hc⟩, hm⟩ := h
      exact pe_chain' (cop_ok g op) (cop_ok g op') (pe_fz (okC a g _ ha).pe) (pe_fz (okC b g _ hb).pe) (pe_fz (okC c g _ hc).pe) hm
    · cases h
  | .and a b, X, sc, pn, blk, g, e, h => by
    unfold chkC at h
    split at h
    · simp only [Bool.and_eq_true] at h
      obtain ⟨⟨ha, hn⟩, hb⟩ := h
      exact ie_and (okC a g _ ha) hn (ie_of_one (okC b g _ hb))
    · cases h
  | .or a b, X, sc, pn, blk, g, e, h => by
    unfold chkC at h
    split at h
    · simp only [Bool.and_eq_true] at h
      obtain ⟨⟨ha, hn⟩, hb⟩ := h
      exact ie_or (okC a g _ ha) hn (ie_of_one (okC b g _ hb))
    · cases h
  | .not a, X, sc, pn, blk, g, e, h => by
    unfold chkC at h
    split at h
    · simp only [Bool.and_eq_true] at h
      exact ie_not (okC a g _ h.1) h.2
    · cases h
  | .ite c a b, X, sc, pn, blk, g, e, h => by
    unfold chkC at h
    split at h
    · simp only [Bool.and_eq_true] at h
      obtain ⟨⟨⟨hc, hn⟩, ha⟩, hb⟩ := h
      exact ie_ite (okC c g _ hc) hn (okC a g _ ha) (okC b g _ hb)
    · cases h
  | .ix a b, X, sc, pn, blk, g, e, h => by
    unfold chkC at h
    split at h
    · simp only [Bool.and_eq_true] at h
      obtain ⟨⟨ha, hb⟩, hp⟩ := h
      exact ie_ix (pe_fz (okC a g _ ha).pe) (pe_fz (okC b g _ hb).pe) hp
    · cases h
  | .vix i b, X, sc, pn, blk, g, e, h => by
    unfold chkC at h
    split at h
    · simp only [Bool.and_eq_true] at h
      obtain ⟨⟨ha, hb⟩, hp⟩ := h
      obtain ⟨x, p, rfl, hv⟩ := nm_var g ha
      exact ie_vix hv (pe_fz (okC b g _ hb).pe) hp
    · cases h
  | .sl a lo hi, X, sc, pn, blk, g, e, h => by
    unfold chkC at h
    split at h
    · simp only [Bool.and_eq_true] at h
      obtain ⟨⟨ha, hl⟩, hh⟩ := h
      exact ie_sl (pe_fz (okC a g _ ha).pe) (okO lo g _ hl) (okO hi g _ hh)
    · cases h
  | .tup cs, X, sc, pn, blk, g, e, h => by
    unfold chkC at h
    split at h
    · exact ie_tup (okCs cs g _ h).2.1
    · cases h
  | .lst cs, X, sc, pn, blk, g, e, h => by
    unfold chkC at h
    split at h
    · exact ie_lst (okCs cs g _ h).2.1
    · cases h
  | .call f cs, X, sc, pn, blk, g, e, h => by
    unfold chkC at h
    split at h
    · rename_i gf es pos
      simp only [Bool.and_eq_true] at h
      obtain ⟨hg, hc⟩ := h
      obtain ⟨p, rfl, hgl, hd⟩ := gl_name g hg
      obtain ⟨hs, _, hl, hn⟩ := okCs cs g _ hc
      unfold evC
      cases hf : W.fn f with
      | none => exact ie_bad rfl
      | some fe =>
        dsimp only
        split
        · rename_i hlen
          obtain ⟨k, fa, fd, ps, G, room, hmg, hk, hb⟩ := g.fn f fe hf
          cases es with
          | nil =>
            refine ie_mk (PE.weak (pe_callG0 G room g.gd hgl hmg hk hb .nil pass0 hd) fun σ H Q q => ?_)
            have q2 := call_rd (E := E0) (n := fe.np) (fun e ts e' hh => by rw [hn e ts e' hh]; exact hlen) q
            cases cs with
            | nil =>
              obtain ⟨e, J, F, s, t, e', h, q3⟩ := q2
              cases h
              exact q3 [] H J F [] s ⟨.nil, by simpa using s.nd, fun _ z => nomatch z⟩ (by simpa using Tr.refl) fun j i hj => by simp [lens] at hj
            | val c r => simp [chkCs] at hc
            | own c r => simp [chkCs] at hc
            | lend i r => simp [chkCs] at hc
            | lendL i r => simp [chkCs] at hc
          | cons e1 es =>
            have hs' := hs
            simp only [nstars, Bool.and_eq_true] at hs'
            refine ie_mk (PE.weak (pe_callG G room g.gd hgl hmg hk hb .nil pass0 hl hd (star_of hs'.1 es X.env) (stars_none pos hs'.2)) fun σ H Q q => ?_)
            exact call_rd (E := E0) (n := fe.np) (fun e ts e' hh => by rw [hn e ts e' hh]; exact hlen) q
        · exact ie_bad rfl
    · cases h
  | .bif b cs, X, sc, pn, blk, g, e, h => by
    unfold chkC at h
    split at h
    · rename_i gf e1 es pos
      simp only [Bool.and_eq_true] at h
      obtain ⟨hg, hc⟩ := h
      obtain ⟨p, rfl, hgl, hd⟩ := gl_name g hg
      obtain ⟨hs, hl, _, hn⟩ := okCs cs g _ hc
      simp only [nstars, Bool.and_eq_true] at hs
      exact ie_bif g hgl hd (star_of hs.1 es X.env) (stars_none pos hs.2) hl
    · cases h
  | .isi t a, X, sc, pn, blk, g, e, h => by
    unfold chkC at h
    split at h
    · simp only [Bool.and_eq_true] at h
      obtain ⟨⟨hg, ha⟩, ht⟩ := h
      obtain ⟨p, rfl, hgl, hd⟩ := gl_name g hg
      obtain ⟨p2, rfl, hgl2, hd2⟩ := gl_name g ht
      exact ie_isi hgl (g.blt _ (by simp [bltNames])) (okC a g _ ha) hgl2 (g.blt _ (by cases t <;> simp [bltNames, Ty.nmS]))
    · cases h
  | .comp vs tg it t el, X, sc, pn, blk, g, e, h => by
    unfold chkC at h
    split at h
    · rename_i elt etg iter ifs scope pos
      simp only [Bool.and_eq_true, decide_eq_true_eq] at h
      obtain ⟨⟨⟨⟨⟨⟨⟨h1, h2⟩, h3⟩, h8⟩, h4⟩, h5⟩, h6⟩, h7⟩ := h
      have ok := blkOk_by h2
      have gb : ∀ (s : Shared) (H : Hp) (C : Addr) (cl : List (Str × Addr)) (fp : List Addr), GX (X.blk s H scope (compEnvC scope cl C X.env) fp) W N (relS scope sc) L pn true := fun s H C cl fp => g.block ok.kind
      have hp : ∀ p ∈ pn, p.1 ∉ vs := fun p hp hv => by
        have a1 := List.all_eq_true.mp h3 _ hv
        simp only [Bool.not_eq_true', List.contains_eq_mem, decide_eq_false_iff_not] at a1
        exact a1 (g.pin p hp)
      obtain ⟨ws, hw, hg⟩ : ∃ ws : List Nat, (∀ i ∈ ws, i ∈ vs) ∧ ∀ (s : Shared) (H : Hp) (C : Addr) (cl : List (Str × Addr)) (fp : List Addr), PG (X.blk s H scope (compEnvC scope cl C X.env) fp) etg (rdG X.K pn ws (evTg W tg)) :=
        ⟨tgVs tg, okTgVs tg h5, fun s H C cl fp => okTg tg (gb s H C cl fp) (own_fn h8) h5⟩
      have hI := okI it g h4
      have okB : BlkOk X.N X.env.scope scope (vs.filterMap fun i => N[i]?.map fun x => (x, i)) := by rw [g.hN, g.hsc]; exact ok
      refine ie_mk (PE.weak (pe_lc (g := rdG X.K pn ws (evTg W tg)) (tt := rdT X.K pn (evCond W t)) (te := rdD X.K pn (fz (evC W el))) g.calm (by rw [g.hN]; exact g.nd) hI.1 okB hg (fun s H C cl fp => okIf t (gb s H C cl fp) h6) (fun s H C cl fp => pe_fz (okC el (gb s H C cl fp) _ h7).pe) hI.2) fun σ H Q q => ?_)
      rw [h1]
      exact tLc_rd hp hw q
    · cases h
  | .push i a, X, sc, pn, blk, g, e, h => by
    unfold chkC at h
    split at h
    · simp only [Bool.and_eq_true, decide_eq_true_eq] at h
      obtain ⟨⟨⟨rfl, ho⟩, ha⟩, hl⟩ := h
      obtain ⟨x, p, rfl, hv⟩ := nm_var g ho
      have hA := okC a g _ ha
      exact ie_push hv hA.ns hA.pe rfl hl
    · cases h
  | .pop i a, X, sc, pn, blk, g, e, h => by
    unfold chkC at h
    split at h
    · simp only [Bool.and_eq_true, decide_eq_true_eq] at h
      obtain ⟨⟨⟨rfl, ho⟩, ha⟩, hl⟩ := h
      obtain ⟨x, p, rfl, hv⟩ := nm_var g ho
      have hA := okC a g _ ha
      exact ie_pop hv hA.ns (pe_fz hA.pe) rfl hl
    · cases h
  | .ext i a, X, sc, pn, blk, g, e, h => by
    unfold chkC at h
    split at h
    · simp only [Bool.and_eq_true, decide_eq_true_eq] at h
      obtain ⟨⟨⟨rfl, ho⟩, ha⟩, hl⟩ := h
      obtain ⟨x, p, rfl, hv⟩ := nm_var g ho
      have hA := okC a g _ ha
      exact ie_ext hv hA.ns (pe_fz hA.pe) rfl hl
    · cases h
  | .din neg a i, X, sc, pn, blk, g, e, h => by
    unfold chkC at h
    split at h
    · simp only [Bool.and_eq_true, decide_eq_true_eq, Bool.not_eq_true'] at h
      obtain ⟨⟨⟨h1, ha⟩, hb⟩, hm⟩ := h
      obtain ⟨x, p, rfl, hv⟩ := nm_var g hb
      exact ie_din h1 (by have := g.units; omega) (pe_fz (okC a g _ ha).pe) hv hm
    · cases h
  | .dix i b, X, sc, pn, blk, g, e, h => by
    unfold chkC at h
    split at h
    · simp only [Bool.and_eq_true] at h
      obtain ⟨⟨h1, hb⟩, hp⟩ := h
      obtain ⟨x, p, rfl, hv⟩ := nm_var g h1
      exact ie_dix (by have := g.units; omega) hv (pe_fz (okC b g _ hb).pe) hp
    · cases h
  | .dlit kvs, X, sc, pn, blk, g, e, h => by
    unfold chkC at h
    split at h
    · simp only [Bool.and_eq_true, decide_eq_true_eq] at h
      obtain ⟨⟨h1, h2⟩, h3⟩ := h
      exact ie_dlit h1 h2 h3
    · cases h
  | .cnt a b, X, sc, pn, blk, g, e, h => by
    unfold chkC at h
    split at h
    · simp only [Bool.and_eq_true, decide_eq_true_eq] at h
      obtain ⟨⟨⟨rfl, ha⟩, hb⟩, hl⟩ := h
      have hA := okC a g _ ha
      have hB := okC b g _ hb
      exact ie_cnt (pe_fz hA.pe) hB.ns (pe_fz hB.pe) rfl hl
    · cases h
  | .lrg a b, X, sc, pn, blk, g, e, h => by
    unfold chkC at h
    split at h
    · simp only [Bool.and_eq_true, decide_eq_true_eq] at h
      obtain ⟨⟨⟨hg, hg2⟩, ha⟩, hb⟩ := h
      obtain ⟨p, rfl, hgl, hd⟩ := gl_name g hg
      obtain ⟨p2, rfl, hgl2, hd2⟩ := gl_name g hg2
      have hA := okC a g _ ha
      have hB := okC b g _ hb
      exact ie_lrg g.calm hgl (g.blt _ (by simp [bltNames])) hgl2 (g.blt _ (by simp [bltNames])) (pe_fz hA.pe) (pe_fz hB.pe) hA.ns hB.ns
    · cases h
  | .inr a b, X, sc, pn, blk, g, e, h => by
    unfold chkC at h
    split at h
    · simp only [Bool.and_eq_true, decide_eq_true_eq, Bool.not_eq_true'] at h
      obtain ⟨⟨⟨hg, ha⟩, hb⟩, hm⟩ := h
      obtain ⟨p, rfl, hgl, hd⟩ := gl_name g hg
      have hA := okC a g _ ha
      have hB := okC b g _ hb
      exact ie_inr hgl (g.blt _ (by simp [bltNames])) (pe_fz hA.pe) (pe_fz hB.pe) hB.ns hm
    · cases h
  | .join s a, X, sc, pn, blk, g, e, h => by
    unfold chkC at h
    split at h
    · simp only [Bool.and_eq_true, decide_eq_true_eq] at h
      obtain ⟨⟨⟨rfl, rfl⟩, ha⟩, hl⟩ := h
      have hA := okC a g _ ha
      exact ie_join (pe_const' pe_str fun _ _ => .str _) (fun _ _ _ z => by cases z; exact ⟨_, rfl⟩) (pe_fz hA.pe) hA.ns rfl hl
    · cases h
  | .rev a, X, sc, pn, blk, g, e, h => by
    unfold chkC at h
    split at h
    · exact ie_rev (pe_fz (okC a g _ h).pe)
    · cases h
  | .fld a f, X, sc, pn, blk, g, e, h => by
    unfold chkC at h
    split at h
    · simp only [Bool.and_eq_true, decide_eq_true_eq] at h
      obtain ⟨⟨rfl, h1⟩, h2⟩ := h
      exact ie_fld g.na (pe_fz (okC a g _ h1).pe) (noCall_base h2 _ _)
    · cases h
  | .dgt a b, X, sc, pn, blk, g, e, h => by
    unfold chkC at h
    split at h
    · simp only [Bool.and_eq_true] at h
      obtain ⟨⟨h1, h2⟩, h3⟩ := h
      exact ie_dgt (by have := g.units; omega) (pe_fz (okC a g _ h1).pe) (pe_fz (okC b g _ h2).pe) h3
    · cases h
  | .ddi neg a b, X, sc, pn, blk, g, e, h => by
    unfold chkC at h
    split at h
    · simp only [Bool.and_eq_true, decide_eq_true_eq, Bool.not_eq_true'] at h
      obtain ⟨⟨⟨h1, ha⟩, hb⟩, hm⟩ := h
      exact ie_ddi h1 (by have := g.units; omega) (pe_fz (okC a g _ ha).pe) (pe_fz (okC b g _ hb).pe) hm
    · cases h
  | .pth p, X, sc, pn, blk, g, e, h => by
    unfold chkC at h
    obtain ⟨a1, a2, a3, a4⟩ := okP g p h
    exact ie_mk (pe_lf (pe_path a1)) a2 a3
  | .ppush p a, X, sc, pn, blk, g, e, h => by
    unfold chkC at h
    split at h
    · simp only [Bool.and_eq_true, decide_eq_true_eq] at h
      obtain ⟨⟨⟨rfl, ho⟩, ha⟩, hl⟩ := h
      obtain ⟨a1, a2, a3, a4⟩ := okP g p ho
      have hA := okC a g _ ha
      exact ie_ppush a1 hA.ns hA.pe (a4 _) hl
    · cases h
  | .ddis ks cs, X, sc, pn, blk, g, e, h => by
    unfold chkC at h
    split at h
    · rename_i es vs pos
      obtain ⟨kfs, h1, h2, h3, h4, h5, h6⟩ := okPs cs g ks es vs pos h
      unfold evC
      rw [h6]
      exact ie_ddis h1 h2 h3 h4 h5
    · cases h
  | .meth c m o cs, X, sc, pn, blk, g, e, h => by
    unfold chkC at h
    split at h
    · rename_i eo m' apos es pos
      simp only [Bool.and_eq_true, decide_eq_true_eq] at h
      obtain ⟨⟨⟨⟨⟨rfl, ho⟩, hi⟩, hc⟩, hfew⟩, hline⟩ := h
      have hO := okC o g _ ho
      obtain ⟨hs, _, hl, hn⟩ := okCs cs g _ hc
      clear ho
      cases eo with
      | Name x p =>
        unfold evC
        cases hf : W.mt c m' (lens cs).length with
        | none => exact ie_bad rfl
        | some r =>
          obtain ⟨C, dv, fe⟩ := r
          dsimp only
          unfold gMeth
          split
          · rename_i hlen
            obtain ⟨k, fa, fd, ps, cl, hm, G, room, ds, dvs, hb, hd, hdv⟩ := g.mt c m' _ C dv fe hf
            have hnn : ∀ e ts e', methA C m' dv (fz (evC W o)) (evCs W cs) e = .ok ts e' → ts.length = fe.np := fun e ts e' hh => by
              obtain ⟨d, e1, k1, k2⟩ := bnd_ok hh
              split at k2
              · split at k2
                · obtain ⟨ts', e2, k3, k4⟩ := bnd_ok k2
                  cases k4
                  have := hn _ _ _ k3
                  simp
                  omega
                · cases k2
              · cases k2
            cases es with
            | nil =>
              refine ie_mk (PE.weak (pe_methG0 (pe_fz hO.pe) cl hm G room g.gd hb hd pass0 (meth_eval rfl rfl hfew hline)) fun σ H Q q => ?_)
              have q2 := call_rd (E := E0) (n := fe.np) hnn q
              have q3 := meth_rd hdv q2 hn
              obtain ⟨e, J, F, s, t, e', h', q4⟩ := q3
              refine ⟨e, J, F, s, t, e', h', fun v H1 J1 F1 s1 r1 tr1 => ?_⟩
              obtain ⟨a, dx, fs, x1, x2, x3, x4⟩ := q4 v H1 J1 F1 s1 r1 tr1
              refine ⟨a, dx, fs, x1, x2, x3, ?_⟩
              cases cs with
              | nil =>
                obtain ⟨e, J, F, s, t, e', h, q3⟩ := x4
                cases h
                have := q3 [] H1 J F [] s ⟨.nil, by simpa using s.nd, fun _ z => nomatch z⟩ (by simpa using Tr.refl) fun j i hj => by simp [lens] at hj
                simpa [tNil] using this
              | val c r => simp [chkCs] at hc
              | own c r => simp [chkCs] at hc
              | lend i r => simp [chkCs] at hc
              | lendL i r => simp [chkCs] at hc
            | cons e1 es =>
              have hs' := hs
              simp only [nstars, Bool.and_eq_true] at hs'
              refine ie_mk (PE.weak (pe_methG (pe_fz hO.pe) cl hm G room g.gd hb hd pass0 hl (star_of hs'.1 es X.env) (stars_none pos hs'.2) (meth_eval rfl (stars_none pos hs) hfew hline)) fun σ H Q q => ?_)
              have q2 := call_rd (E := E0) (n := fe.np) hnn q
              have q3 := meth_rd hdv q2 hn
              obtain ⟨e, J, F, s, t, e', h', q4⟩ := q3
              refine ⟨e, J, F, s, t, e', h', fun v H1 J1 F1 s1 r1 tr1 => ?_⟩
              obtain ⟨a, dx, fs, x1, x2, x3, x4⟩ := q4 v H1 J1 F1 s1 r1 tr1
              refine ⟨a, dx, fs, x1, x2, x3, ?_⟩
              simpa using x4
          · exact ie_bad rfl
      | _ => cases hi
    · cases h
  | .make c cs, X, sc, pn, blk, g, e, h => by
    unfold chkC at h
    split at h
    · rename_i gf a es pos
      simp only [Bool.and_eq_true] at h
      obtain ⟨hg, hc⟩ := h
      obtain ⟨p, rfl, hgl, hd⟩ := gl_name g hg
      obtain ⟨hs, hp, hl, hn⟩ := okCs cs g _ hc
      unfold evC
      cases hf : W.ct c with
      | none => exact ie_bad rfl
      | some r =>
        obtain ⟨C, fe⟩ := r
        obtain ⟨k, fa, fd, ps, oc, M, G, room, hmg, hb⟩ := g.ct c C fe hf
        have hs' := hs
        simp only [nstars, Bool.and_eq_true] at hs'
        exact ie_mk (PE.weak (pe_makeG M G room g.gd hgl hmg hb .nil pass0 hp hd (star_of hs'.1 es X.env) (stars_none pos hs'.2)) fun σ H Q q => make_rd oc q)
    · cases h
theorem okPs : ∀ (c : Cs) {X : Cx} {sc : Scope} {pn : List (Nat × V)} {blk : Bool}, GX X W N sc L pn blk → ∀ (ks : List Key) (es : List (Option Expr)) (vs : List Expr) (pos : Pos), chkPs N L sc c ks es vs = true → ∃ kfs : List (Key × M T), kfs.map (·.1) = ks ∧ PPs X pos es vs (prT X.K pn kfs) ∧ es.all (·.isSome) = true ∧ es.length = vs.length ∧ es.length = kfs.length ∧ evCs W c = seqM (kfs.map (·.2))
  | .nil, X, sc, pn, blk, g, ks, es, vs, pos, h => by
    unfold chkPs at h
    split at h
    · exact ⟨[], rfl, pps_nil, rfl, rfl, rfl, rfl⟩
    · cases h
  | .own c r, X, sc, pn, blk, g, ks, es, vs, pos, h => by
    unfold chkPs at h
    split at h
    · rename_i k ks ek es v vs
      simp only [Bool.and_eq_true] at h
      obtain ⟨⟨h1, h2⟩, h3⟩ := h
      obtain ⟨kfs, q1, q2, q3, q4, q5, q6⟩ := okPs r g ks es vs pos h3
      obtain ⟨k1, _⟩ := con_pe (X := X) h1
      rw [dV_kD] at k1
      exact ⟨(k, evC W c) :: kfs, by simp [q1], pps_cons k1 (okC c g _ h2).pe q2, by simp [q3], by simp [q4], by simp [q5], by unfold evCs; rw [q6]; rfl⟩
    · cases h
  | .val c r, X, sc, pn, blk, g, ks, es, vs, pos, h => by
    unfold chkPs at h
    split at h
    · rename_i k ks ek es v vs
      simp only [Bool.and_eq_true] at h
      obtain ⟨⟨h1, h2⟩, h3⟩ := h
      obtain ⟨kfs, q1, q2, q3, q4, q5, q6⟩ := okPs r g ks es vs pos h3
      obtain ⟨k1, _⟩ := con_pe (X := X) h1
      rw [dV_kD] at k1
      exact ⟨(k, lf (fz (evC W c))) :: kfs, by simp [q1], pps_cons k1 (pe_lf (pe_fz (okC c g _ h2).pe)) q2, by simp [q3], by simp [q4], by simp [q5], by unfold evCs; rw [q6]; rfl⟩
    · cases h
  | .lend _ _, X, sc, pn, blk, g, ks, es, vs, pos, h => by simp [chkPs] at h
  | .lendL _ _, X, sc, pn, blk, g, ks, es, vs, pos, h => by simp [chkPs] at h
theorem okO : ∀ (c : Co) {X : Cx} {sc : Scope} {pn : List (Nat × V)} {blk : Bool}, GX X W N sc L pn blk → ∀ (e : Option Expr), chkO N L sc c e = true → PO X e (rdO X.K pn (evO W c))
  | .no, X, sc, pn, blk, g, e, h => by
    unfold chkO at h
    split at h
    · exact po_none'
    · cases h
  | .so c, X, sc, pn, blk, g, e, h => by
    unfold chkO at h
    split at h
    · exact po_some' (pe_fz (okC c g _ h).pe)
    · cases h
theorem okIf : ∀ (c : Co) {X : Cx} {sc : Scope} {pn : List (Nat × V)} {blk : Bool}, GX X W N sc L pn blk → ∀ {e : List Expr}, chkIf N L sc c e = true → PTs X e (rdT X.K pn (evCond W c))
  | .no, X, sc, pn, blk, g, e, h => by
    unfold chkIf at h
    split at h
    · exact ⟨fun pins s σ H Q I hw => pts_nil.run pins s σ H Q I (by
        obtain ⟨e, J, F, s, t, e', h, q⟩ := hw
        cases h
        exact q H J F s .refl)⟩
    · cases h
  | .so c, X, sc, pn, blk, g, e, h => by
    unfold chkIf at h
    split at h
    · simp only [Bool.and_eq_true] at h
      exact pts_one ((okC c g _ h.1).pt h.2)
    · cases h
theorem okCs : ∀ (c : Cs) {X : Cx} {sc : Scope} {pn : List (Nat × V)} {blk : Bool}, GX X W N sc L pn blk → ∀ (es : List Expr), chkCs N L sc c es = true → nstars es = true ∧ PA X es (rdEs X.K pn (evCs W c)) ∧ PA X es (rdAs X.K pn (lens c) (evCs W c)) ∧ ∀ e ts e', evCs W c e = .ok ts e' → ts.length = (lens c).length
  | .nil, X, sc, pn, blk, g, es, h => by
    unfold chkCs at h
    split at h
    · exact ⟨rfl, pa_nil', al_nil, fun e ts e' h => by cases h; rfl⟩
    · cases h
  | .val c r, X, sc, pn, blk, g, es, h => by
    unfold chkCs at h
    split at h
    · simp only [Bool.and_eq_true] at h
      obtain ⟨s1, p1, a1, n1⟩ := okCs r g _ h.2
      have hc := okC c g _ h.1
      refine ⟨by simp only [nstars, hc.ns, s1, Bool.and_self], pa_cons' (pe_lf (pe_fz hc.pe)) hc.ns p1, al_val (pe_lf (pe_fz hc.pe)) hc.ns a1, fun e ts e' hh => ?_⟩
      obtain ⟨t, e1, k1, k2⟩ := bnd_ok hh
      obtain ⟨ts', e2, k3, k4⟩ := bnd_ok k2
      cases k4
      simp [lens, n1 _ _ _ k3]
    · cases h
  | .own c r, X, sc, pn, blk, g, es, h => by
    unfold chkCs at h
    split at h
    · simp only [Bool.and_eq_true] at h
      obtain ⟨s1, p1, a1, n1⟩ := okCs r g _ h.2
      have hc := okC c g _ h.1
      refine ⟨by simp only [nstars, hc.ns, s1, Bool.and_self], pa_cons' hc.pe hc.ns p1, al_val hc.pe hc.ns a1, fun e ts e' hh => ?_⟩
      obtain ⟨t, e1, k1, k2⟩ := bnd_ok hh
      obtain ⟨ts', e2, k3, k4⟩ := bnd_ok k2
      cases k4
      simp [lens, n1 _ _ _ k3]
    · cases h
  | .lend i r, X, sc, pn, blk, g, es, h => by
    unfold chkCs at h
    split at h
    · simp only [Bool.and_eq_true] at h
      obtain ⟨s1, p1, a1, n1⟩ := okCs r g _ h.2
      obtain ⟨x, p, rfl, hv⟩ := nm_var g h.1
      refine ⟨by simp only [nstars, s1]; rfl, ?_, al_lend hv rfl a1, fun e ts e' hh => ?_⟩
      · exact pa_lend hv rfl p1
      · obtain ⟨t, e1, k1, k2⟩ := bnd_ok hh
        obtain ⟨ts', e2, k3, k4⟩ := bnd_ok k2
        cases k4
        simp [lens, n1 _ _ _ k3]
    · cases h
  | .lendL i r, X, sc, pn, blk, g, es, h => by
    unfold chkCs at h
    split at h
    · simp only [Bool.and_eq_true] at h
      obtain ⟨s1, p1, a1, n1⟩ := okCs r g _ h.2
      obtain ⟨x, p, rfl, hv⟩ := nm_var g h.1
      refine ⟨by simp only [nstars, s1]; rfl, ?_, al_lendL hv rfl a1, fun e ts e' hh => ?_⟩
      · exact pa_lendL hv rfl p1
      · obtain ⟨_, e0, k0, k1⟩ := bnd_ok hh
        obtain ⟨ts', e2, k3, k4⟩ := bnd_ok k1
        obtain ⟨t, e3, k5, k6⟩ := bnd_ok k4
        cases k6
        simp [lens, n1 _ _ _ k3]
    · cases h
theorem okTg : ∀ (t : Tg) {X : Cx} {sc : Scope} {pn : List (Nat × V)} {blk : Bool} {vs : List Nat}, GX X W N sc L pn blk → (∀ i x, blk = true → N[i]? = some x → i ∈ vs → sc.names.lookup x = some .cell → X.fn x = true) → ∀ {e : Expr}, chkTg N L sc blk vs t e = true → PG X e (rdG X.K pn (tgVs t) (evTg W t))
  | .nm i, X, sc, pn, blk, vs, g, hv, e, h => by
    unfold chkTg at h
    split at h
    · rename_i x p
      simp only [Bool.and_eq_true, Bool.or_eq_true, decide_eq_true_eq, Bool.not_eq_true', List.contains_eq_mem, decide_eq_false_iff_not] at h
      obtain ⟨⟨⟨h1, h2⟩, h3⟩, h4⟩ := h
      have hL : Loc X.env.scope x := by
        rw [g.hsc]
        rcases h2 with h2 | h2
        · exact .inl h2
        · exact .inr h2
      have hf : X.fn x = true ∨ X.env.scope.names.lookup x = some .local := by
        rw [g.hsc]
        rcases h2 with h2 | h2
        · exact .inr h2
        · refine .inl ?_
          cases hbk : blk with
          | false => exact g.fnl hbk x
          | true => exact hv i x hbk h1 (h4.resolve_left (by rw [hbk]; decide)) h2
      exact ig_name (pg_name (by rw [g.hN]; exact g.nd) (by rw [g.hN]; exact h1) hL hf) fun p hp z => h3 (z ▸ g.pin p hp)
    · cases h
  | .tp ts, X, sc, pn, blk, vs, g, hv, e, h => by
    unfold chkTg at h
    split at h
    · simp only [Bool.and_eq_true, Bool.not_eq_true'] at h
      obtain ⟨h1, h2, h3, _⟩ := okTgs ts g hv h.1
      exact ig_tup g.calm h1 h2 (h3 h.2)
    · cases h
  | .tps ts, X, sc, pn, blk, vs, g, hv, e, h => by
    unfold chkTg at h
    split at h
    · simp only [Bool.and_eq_true] at h
      obtain ⟨h1, h2, _, h3, h4⟩ := okTgs ts g hv h.1
      have hp := h4 h.2
      exact ig_star g.calm h1 (by rw [h2]; omega) (h3 h.2)
    · cases h
  | .sub i k, X, sc, pn, blk, vs, g, hv, e, h => by
    unfold chkTg at h
    split at h
    · simp only [Bool.and_eq_true] at h
      obtain ⟨⟨h1, h2⟩, h3⟩ := h
      obtain ⟨x, p, rfl, hvv⟩ := nm_var g h1
      refine ig_sub hvv (pe_fz (okC k g _ h2).pe) (ha := fun v => ?_)
      rename_i eb ps
      clear h2
      cases eb <;> first | rfl | cases h3
    · cases h
theorem okTgs : ∀ (t : Tgs) {X : Cx} {sc : Scope} {pn : List (Nat × V)} {blk : Bool} {vs : List Nat}, GX X W N sc L pn blk → (∀ i x, blk = true → N[i]? = some x → i ∈ vs → sc.names.lookup x = some .cell → X.fn x = true) → ∀ {es : List Expr}, chkTgs N L sc blk vs t es = true → PGs X es (rdGs X.K pn (tgsVs t) (evTgs W t)) ∧ (assignEach es X.env).length = tgN t ∧ (starT t = false → (assignEach es X.env).findIdx? (·.1) = none) ∧ (starT t = true → (assignEach es X.env).findIdx? (·.1) = some (tgN t - 1)) ∧ (starT t = true → 0 < tgN t)
  | .nil, X, sc, pn, blk, vs, g, hv, es, h => by
    unfold chkTgs at h
    split at h
    · exact ⟨igs_nil, rfl, fun _ => rfl, fun z => (nomatch z), fun z => (nomatch z)⟩
    · cases h
  | .cons t r, X, sc, pn, blk, vs, g, hv, es, h => by
    unfold chkTgs at h
    split at h
    · rename_i e es
      simp only [Bool.and_eq_true] at h
      have h1 := okTg t g hv h.1
      obtain ⟨h2, h3, h4, h5, h6⟩ := okTgs r g hv h.2
      obtain ⟨k1, k2⟩ : (assignEach (e :: es) X.env).map (·.2) = assign e X.env :: (assignEach es X.env).map (·.2) ∧ ((assignEach (e :: es) X.env).length = (assignEach es X.env).length + 1 ∧ ((assignEach (e :: es) X.env).findIdx? (·.1) = ((assignEach es X.env).findIdx? (·.1)).map (· + 1))) := by
        have hh := h.1
        unfold chkTg at hh
        cases t <;> (simp only at hh; split at hh <;> first | exact ⟨rfl, rfl, by simp [assignEach, List.findIdx?_cons]⟩ | cases hh)
      refine ⟨igs_cons h1 h2 k1, by rw [k2.1, h3]; rfl, fun z => by rw [k2.2, h4 z]; rfl, fun z => ?_, fun z => Nat.succ_pos _⟩
      have p := h6 z
      rw [k2.2, h5 z]
      show some (tgN r - 1 + 1) = some (tgN r + 1 - 1)
      congr 1
      omega
    · cases h
  | .star i, X, sc, pn, blk, vs, g, hv, es, h => by
    unfold chkTgs at h
    split at h
    · rename_i x p p2
      simp only [Bool.and_eq_true, Bool.or_eq_true, decide_eq_true_eq, Bool.not_eq_true', List.contains_eq_mem, decide_eq_false_iff_not] at h
      obtain ⟨⟨⟨h1, h2⟩, h3⟩, h4⟩ := h
      have hL : Loc X.env.scope x := by
        rw [g.hsc]
        rcases h2 with h2 | h2
        · exact .inl h2
        · exact .inr h2
      have hf : X.fn x = true ∨ X.env.scope.names.lookup x = some .local := by
        rw [g.hsc]
        rcases h2 with h2 | h2
        · exact .inr h2
        · refine .inl ?_
          cases hbk : blk with
          | false => exact g.fnl hbk x
          | true => exact hv i x hbk h1 (h4.resolve_left (by rw [hbk]; decide)) h2
      have k := ig_name (i := i) (pn := pn) (pg_name (pos := p) (by rw [g.hN]; exact g.nd) (by rw [g.hN]; exact h1) hL hf) fun p hp z => h3 (z ▸ g.pin p hp)
      exact ⟨igs_star k, rfl, fun z => (nomatch z), fun _ => rfl, fun _ => Nat.one_pos⟩
    · cases h
theorem okI : ∀ (t : It2) {X : Cx} {sc : Scope} {pn : List (Nat × V)} {blk : Bool}, GX X W N sc L pn blk → ∀ {tg e : Expr}, chkI N L sc t tg e = true → PI X tg e (rdI X.K pn (evI W t)) ∧ ∀ x, foldedSetIterable e X.env x = pure x
  | .seq c, X, sc, pn, blk, g, tg, e, h => by
    unfold chkI at h
    simp only [Bool.and_eq_true] at h
    refine ⟨ii_seq (pe_fz (okC c g _ h.1).pe), fun x => ?_⟩
    have h2 := h.2
    cases e <;> first | rfl | cases h2
  | .rng1 cs, X, sc, pn, blk, g, tg, e, h => by
    unfold chkI at h
    split at h
    · simp only [Bool.and_eq_true] at h
      obtain ⟨⟨h1, h2⟩, h3⟩ := h
      obtain ⟨p, rfl, hgl, hd⟩ := gl_name g h1
      exact ⟨ii_rng1 hgl (g.blt _ (by simp [bltNames])) (pa_fzs (okCs cs g _ h2).2.1) (star_of h3 [] X.env), fun x => rfl⟩
    · cases h
  | .rng2 cs, X, sc, pn, blk, g, tg, e, h => by
    unfold chkI at h
    split at h
    · simp only [Bool.and_eq_true] at h
      obtain ⟨⟨⟨h1, h2⟩, h3⟩, h4⟩ := h
      obtain ⟨p, rfl, hgl, hd⟩ := gl_name g h1
      exact ⟨ii_rng2 hgl (g.blt _ (by simp [bltNames])) (pa_fzs (okCs cs g _ h2).2.1) (by rw [star_of h3, star_of h4]; rfl) (star_of h4 [] X.env), fun x => rfl⟩
    · cases h
  | .zip cs, X, sc, pn, blk, g, tg, e, h => by
    unfold chkI at h
    split at h
    · simp only [Bool.and_eq_true] at h
      obtain ⟨⟨⟨h1, h2⟩, h3⟩, h4⟩ := h
      obtain ⟨p, rfl, hgl, hd⟩ := gl_name g h1
      exact ⟨ii_zip hgl (g.blt _ (by simp [bltNames])) (pa_fzs (okCs cs g _ h2).2.1) (by rw [star_of h3, star_of h4]; rfl) (star_of h4 [] X.env), fun x => rfl⟩
    · cases h
  | .enm cs, X, sc, pn, blk, g, tg, e, h => by
    unfold chkI at h
    split at h
    · simp only [Bool.and_eq_true] at h
      obtain ⟨⟨h1, h2⟩, h3⟩ := h
      obtain ⟨p, rfl, hgl, hd⟩ := gl_name g h1
      exact ⟨ii_enum hgl (g.blt _ (by simp [bltNames])) (pa_fzs (okCs cs g _ h2).2.1) (star_of h3 [] X.env), fun x => rfl⟩
    · cases h
  | .rev cs, X, sc, pn, blk, g, tg, e, h => by
    unfold chkI at h
    split at h
    · simp only [Bool.and_eq_true] at h
      obtain ⟨⟨h1, h2⟩, h3⟩ := h
      obtain ⟨p, rfl, hgl, hd⟩ := gl_name g h1
      exact ⟨ii_rev hgl (g.blt _ (by simp [bltNames])) (pa_fzs (okCs cs g _ h2).2.1) (star_of h3 [] X.env), fun x => rfl⟩
    · cases h
end
end
end IL

namespace IL
open PySem PySem.Spec PyProof.Rows L2
section
variable {X : Cx} {W : Wd} {N : List Str} {sc : Scope} {L : List Nat} {pn : List (Nat × V)}
theorem own_neg (g : GX X W N sc L pn false) {i : Nat} (h : (!L.contains i) = true) : ∀ p ∈ pn, p.1 ≠ i := fun p hp z => by
  simp only [Bool.not_eq_true', List.contains_eq_mem, decide_eq_false_iff_not] at h
  exact h (z ▸ g.pin p hp)
theorem passes (g : GX X W N sc L pn false) : PassesOwn (model X.prog X.w) X.A X.env X.xe := by rw [g.xe]; exact PassesOwn.never
theorem swaps_no {e : Expr} (h : notComp e = true) (t : Option Expr) (l : Nat) (env : PySem.Env) : swapsWith e t l env = pure false := by
  cases e <;> first | rfl | cases h
theorem fold_no {e : Expr} {env : PySem.Env} (h : (match e with | .Set .. => false | _ => true) = true) : ∀ x, foldedSetIterable e env x = pure x := fun x => by
  cases e <;> first | rfl | cases h
theorem swaps_cell {elt : Expr} {gs : List Comprehension} {scope : Scope} {q px : Pos} {x : Str} {l : Nat} (hk : X.env.scope.names.lookup x = some .cell) : swapsWith (.ListComp elt gs scope q) (some (.Name x px)) l X.env = pure false := by
  have ky : X.env.kindOf x = some .cell := hk
  unfold swapsWith
  have z : (NameKind.cell == NameKind.local) = false := rfl
  simp only [ky]
  simp [z]
theorem fair_sole {a b : Expr} {l : Nat} {env : PySem.Env} (h : fairTo a b = true) : swapsWithSole [a] b l env = pure false := by
  show swapsWith b (some a) l env = pure false
  cases a with
  | Tuple ts k p => cases b <;> rfl
  | Subscript u v p => cases b <;> rfl
  | _ => cases b <;> cases h
theorem fair_stores {a b : Expr} {env : PySem.Env} (h : fairTo a b = true) : swappedStores [a] b env = pure none := by
  unfold fairTo at h
  split at h
  · split at h
    · unfold swappedStores
      simp
    · unfold swappedStores
      simp
    · rfl
    · cases h
  · rename_i hb
    split at h
    · cases b <;> first | rfl | exact absurd rfl (hb _ _ _)
    · cases b <;> rfl
    · cases h
theorem fair_one {a b : Expr} {env : PySem.Env} (h : fairTo a b = true) : (assignEach [a] env).map (·.2) = [assign a env] := by
  cases a with
  | Tuple ts k p => rfl
  | Subscript u v p => rfl
  | _ => cases b <;> cases h
theorem fm_lt {α β : Type} (f : α → Option β) : ∀ (l : List α) (x : α), x ∈ l → f x = none → (l.filterMap f).length < l.length
  | [], _, h, _ => by cases h
  | y :: l, x, h, hx => by
    have hle : (l.filterMap f).length ≤ l.length := List.length_filterMap_le f l
    rcases List.mem_cons.mp h with rfl | h
    · rw [List.filterMap_cons, hx]
      simp only [List.length_cons]
      omega
    · have := fm_lt f l x h hx
      rw [List.filterMap_cons]
      split <;> simp only [List.length_cons] <;> omega
theorem cell_two {ts : List Expr} {k : Nat} {p : Pos} {vs : List Expr} {kk : Nat} {pp : Pos} {env : PySem.Env} {x : Str} {px : Pos} (hx : .Name x px ∈ ts) (hk : ¬ env.kindOf x = some .local) : swappedStores [.Tuple ts k p] (.Tuple vs kk pp) env = pure none := by
  have hk2 : (env.kindOf x == some .local) = false := by
    cases h : (env.kindOf x == some .local) with
    | true => exact absurd (beq_iff_eq.mp h) hk
    | false => rfl
  unfold swappedStores
  simp only
  split
  · rfl
  · split
    · rfl
    · split
      · rfl
      · rename_i hn
        exfalso
        apply hn
        rw [Bool.or_eq_true]
        left
        rw [bne_iff_ne]
        apply Nat.ne_of_lt
        refine fm_lt _ ts (.Name x px) hx ?_
        simp only [hk2, Bool.false_and]
        rfl
theorem cell_stores {sc : Scope} {a b : Expr} {env : PySem.Env} (hs : env.scope = sc) (h : cellTo sc a b = true) : swappedStores [a] b env = pure none ∧ (∀ l, swapsWithSole [a] b l env = pure false) ∧ (assignEach [a] env).map (·.2) = [assign a env] := by
  have key : ∀ (z : Str), ¬ sc.names.lookup z = some .local → ¬ env.kindOf z = some .local := fun z hz w => hz (by
    rw [← hs]
    exact w)
  unfold cellTo at h
  split at h
  · split at h
    · simp only [Bool.or_eq_true, Bool.not_eq_true', decide_eq_false_iff_not] at h
      refine ⟨?_, fun l => rfl, rfl⟩
      rcases h with h | h
      · exact cell_two List.mem_cons_self (key _ h)
      · exact cell_two (List.mem_cons_of_mem _ List.mem_cons_self) (key _ h)
    · simp only [Bool.or_eq_true, Bool.not_eq_true', decide_eq_false_iff_not] at h
      refine ⟨?_, fun l => rfl, rfl⟩
      rcases h with (h | h) | h
      · exact cell_two List.mem_cons_self (key _ h)
      · exact cell_two (List.mem_cons_of_mem _ List.mem_cons_self) (key _ h)
      · exact cell_two (List.mem_cons_of_mem _ (List.mem_cons_of_mem _ List.mem_cons_self)) (key _ h)
    · cases h
  · cases h
theorem st_no (e : Expr) (h : nstar e = true) : (fun e : Expr => match e with | .Starred .. => true | _ => false) e = false := by
  cases e <;> first | rfl | cases h
theorem nost {a b : Expr} (ha : nstar a = true) (hb : nstar b = true) : ([a, b].any fun | .Starred .. => true | _ => false) = false := by
  simp only [List.any_cons, List.any_nil, Bool.or_false, Bool.or_eq_false_iff]
  exact ⟨st_no a ha, st_no b hb⟩
theorem par_stores {x y : Str} {px py pt : Pos} {kt : Nat} {a b : Expr} {k2 : Nat} {p2 : Pos} (hkd : X.env.scope.kind = .function) (hx : X.env.scope.names.lookup x = some .local) (hy : X.env.scope.names.lookup y = some .local) (ha : nstar a = true) (hb : nstar b = true)
    (hl : (px.line == py.line) = true) (h1 : ([a, b].all (foldedForSure 8)) = false) (h2 : ([a, b].all (constantsAlone 8)) = false) (hxy : x ≠ y) :
    swappedStores [.Tuple [.Name x px, .Name y py] kt pt] (.Tuple [a, b] k2 p2) X.env = pure (some [x, y]) := by
  have kx : X.env.kindOf x = some .local := hx
  have ky : X.env.kindOf y = some .local := hy
  have hbk : X.env.blockKind = .function := by unfold Env.blockKind; rw [hkd]; rfl
  have e1 : px.line = py.line := by simpa using hl
  have hst : ([a, b].any fun | .Starred .. => true | _ => false) = false := nost ha hb
  have hee : (NameKind.local == NameKind.local) = true := rfl
  have hsf : (ScopeKind.function != ScopeKind.function) = false := rfl
  have hed : ([x, y].eraseDups).length = 2 := by
    simp [List.eraseDups_cons, Ne.symm hxy]
  unfold swappedStores
  simp only [hbk, hst, h1, h2, hsf]
  simp [kx, ky, hee, Expr.pos, e1, hed]
  rintro (hh | hh)
  · exact absurd (hh.symm.trans (st_no a ha)) (by decide)
  · exact absurd (hh.symm.trans (st_no b hb)) (by decide)
theorem chk_lc (c : C) {N : List Str} {L : List Nat} {sc : Scope} {e elt tg iter : Expr} {ifs : List Expr} {scope : Scope} {q : Pos} (he : e = .ListComp elt [⟨tg, iter, ifs, 0⟩] scope q) (h : chkC N L sc c e = true) : ∃ vs ctg it t el, c = .comp vs ctg it t el := by
  cases c with
  | comp vs ctg it t el => exact ⟨vs, ctg, it, t, el, rfl⟩
  | _ => (unfold chkC at h; subst he; first | cases h | (simp [isNm, isGl] at h) | (rename_i p; cases p <;> simp [chkP, isNm] at h))
theorem chk_comp {N : List Str} {L : List Nat} {sc : Scope} {vs : List Nat} {ctg : Tg} {it : It2} {t : Co} {el : C} {e elt tg iter : Expr} {ifs : List Expr} {scope : Scope} {q : Pos} (he : e = .ListComp elt [⟨tg, iter, ifs, 0⟩] scope q) (h : chkC N L sc (.comp vs ctg it t el) e = true) :
    (decide ((vs.filterMap fun i => N[i]?.map fun x => (x, i)).map (·.2) = vs) && blkC N sc scope (vs.filterMap fun i => N[i]?.map fun x => (x, i)) && (vs.all fun i => !L.contains i) && (vs.all fun i => ownB N scope i) &&
      chkI N L sc it tg iter && chkTg N L (relS scope sc) true vs ctg tg && chkIf N L (relS scope sc) t ifs && chkC N L (relS scope sc) el elt) = true := by
  unfold chkC at h
  subst he
  exact h
theorem okSetLc (c : C) (g : GX X W N sc L pn false) {i : Nat} {x : Str} {px : Pos} {elt tg iter : Expr} {ifs : List Expr} {scope : Scope} {q p : Pos} (h : chkC N L sc c (.ListComp elt [⟨tg, iter, ifs, 0⟩] scope q) = true) (nd : X.N.Nodup) (hi : X.N[i]? = some x)
    (hy : X.env.scope.names.lookup x = some .local) (hp0 : ∀ p ∈ pn, p.1 ≠ i) (hkd : X.env.scope.kind = .function) (hl : (px.line == q.line) = true) (ha : (scope.names.any fun (n, k) => n == x && (k == .local || k == .cell)) = false) :
    PS X (.Assign [.Name x px] (.ListComp elt [⟨tg, iter, ifs, 0⟩] scope q) p) (rdS X.K pn (gSet i (evC W c))) := by
  obtain ⟨vs, ctg, it, t, el, rfl⟩ := chk_lc c rfl h
  · replace h := chk_comp rfl h
    simp only [Bool.and_eq_true, decide_eq_true_eq] at h
    obtain ⟨⟨⟨⟨⟨⟨⟨h1, h2⟩, h3⟩, h8⟩, h4⟩, h5⟩, h6⟩, h7⟩ := h
    have ok := blkOk_by h2
    have gb : ∀ (s : Shared) (H : Hp) (C : Addr) (cl : List (Str × Addr)) (fp : List Addr), GX (X.blk s H scope (compEnvC scope cl C X.env) fp) W N (relS scope sc) L pn true := fun s H C cl fp => g.block ok.kind
    have hp : ∀ p ∈ pn, p.1 ∉ vs := fun p hp hv => by
      have a1 := List.all_eq_true.mp h3 _ hv
      simp only [Bool.not_eq_true', List.contains_eq_mem, decide_eq_false_iff_not] at a1
      exact a1 (g.pin p hp)
    obtain ⟨ws, hw, hg⟩ : ∃ ws : List Nat, (∀ i ∈ ws, i ∈ vs) ∧ ∀ (s : Shared) (H : Hp) (C : Addr) (cl : List (Str × Addr)) (fp : List Addr), PG (X.blk s H scope (compEnvC scope cl C X.env) fp) tg (rdG X.K pn ws (evTg W ctg)) :=
      ⟨tgVs ctg, okTgVs ctg h5, fun s H C cl fp => okTg ctg (gb s H C cl fp) (own_fn h8) h5⟩
    have hI := okI it g h4
    have okB : BlkOk X.N X.env.scope scope (vs.filterMap fun i => N[i]?.map fun x => (x, i)) := by rw [g.hN, g.hsc]; exact ok
    refine PS.weak (ps_setLc (g := rdG X.K pn ws (evTg W ctg)) (tt := rdT X.K pn (evCond W t)) (te := rdD X.K pn (fz (evC W el))) g.calm nd hi hy (sw_true hkd hy hl ha) hI.1 okB hg (fun s H C cl fp => okIf t (gb s H C cl fp) h6) (fun s H C cl fp => pe_fz (okC el (gb s H C cl fp) _ h7).pe) hI.2) fun D σ H ⟨e, J, F, s, fl, e', h, qq⟩ => ?_
    rw [h1]
    refine tLc_rd hp hw ?_
    obtain ⟨t0, e1, k1, k2⟩ := bnd_ok h
    obtain ⟨_, e2, k3, k4⟩ := bnd_ok k2
    cases k4
    obtain ⟨k5, rfl⟩ := store_ok' k3
    refine ⟨e, J, F, s, t0, e1, k1, fun v H1 J1 F1 fp s1 o1 tr1 => ?_⟩
    obtain ⟨F', s2, hF⟩ := s1.set k5 hp0 o1
    exact qq _ H1 J1 F' s2 (tr1.trans (Tr.sub hF))
mutual
theorem okS : ∀ (s : S) {X : Cx} {sc : Scope} {pn : List (Nat × V)}, GX X W N sc L pn false → ∀ (st : Stmt), chkS N L sc s st = true → PS X st (rdS X.K pn (evS W s))
  | .set i c, X, sc, pn, g, st, h => by
    unfold chkS at h
    split at h
    · rename_i x px e p
      simp only [Bool.and_eq_true, decide_eq_true_eq] at h
      obtain ⟨⟨⟨h1, h2⟩, h3⟩, h4⟩ := h
      have he := okC c g e h3
      have hp := own_neg g h2
      have hi : X.N[i]? = some x := by rw [g.hN]; exact h1
      have nd : X.N.Nodup := by rw [g.hN]; exact g.nd
      have hf : X.fn x = true ∨ X.env.scope.names.lookup x = some .local := .inl (g.fnl rfl x)
      split at h4
      · rename_i hc
        simp only [Bool.or_eq_true, decide_eq_true_eq] at h4
        have hL : Loc X.env.scope x := by
          rw [g.hsc]
          exact h4
        exact is_set nd hi hL hp he (swaps_no hc _ _ _) hf
      · split at h4
        · rename_i elt tg iter ifs scope q _
          simp only [Bool.or_eq_true, Bool.and_eq_true, decide_eq_true_eq, Bool.not_eq_true'] at h4
          rcases h4 with ⟨⟨h5, h6⟩, h7⟩ | h5
          · -- stored within the block's frame
            have hy : X.env.scope.names.lookup x = some .local := by rw [g.hsc]; exact h5
            have hkd : X.env.scope.kind = .function := by rw [g.hsc]; exact g.kd
            exact okSetLc c g h3 nd hi hy hp hkd h6 h7
          · have hL : Loc X.env.scope x := by
              rw [g.hsc]
              exact .inr h5
            exact is_set nd hi hL hp he (swaps_cell (by rw [g.hsc]; exact h5)) hf
        · cases h4
    · cases h
  | .fed i f, X, sc, pn, g, st, h => by
    unfold chkS at h
    split at h
    · rename_i x px gf hh q p
      simp only [Bool.and_eq_true, Bool.or_eq_true, decide_eq_true_eq] at h
      obtain ⟨⟨⟨⟨h1, h2⟩, h3⟩, h4⟩, h5⟩ := h
      unfold evS
      cases hf : W.feed with
      | none => exact ⟨fun pins s σ H D I ⟨e, J, F, s', fl, e', h, q⟩ => by cases h⟩
      | some t =>
        have hL : Loc X.env.scope x := by
          rw [g.hsc]
          exact h5
        exact is_set (by rw [g.hN]; exact g.nd) (by rw [g.hN]; exact h1) hL (own_neg g h2) (ie_mk (g.feed rfl t hf f gf hh q h3 h4)) rfl (.inl (g.fnl rfl x))
    · cases h
  | .asg t c, X, sc, pn, g, st, h => by
    unfold chkS at h
    split at h
    · simp only [Bool.and_eq_true] at h
      obtain ⟨⟨h1, h2⟩, h3⟩ := h
      rw [Bool.or_eq_true] at h3
      rcases h3 with h3 | h3
      · exact is_asg (pe_fz (okC c g _ h2).pe) (okTg t g (fun _ _ z => nomatch z) h1) (fair_sole h3) (fair_stores h3) (fair_one h3)
      · obtain ⟨k1, k2, k3⟩ := cell_stores g.hsc h3
        exact is_asg (pe_fz (okC c g _ h2).pe) (okTg t g (fun _ _ z => nomatch z) h1) (k2 _) k1 k3
    · cases h
  | .dput i k c, X, sc, pn, g, st, h => by
    unfold chkS at h
    split at h
    · simp only [Bool.and_eq_true] at h
      obtain ⟨⟨⟨⟨h1, h2⟩, _⟩, h3⟩, h4⟩ := h
      obtain ⟨x, p, rfl, hv⟩ := nm_var g h1
      exact is_dput (by have := g.units; omega) hv (pe_fz (okC k g _ h2).pe) (pe_fz (okC c g _ h3).pe) (swaps_no h4 _ _ _)
    · cases h
  | .pput p k c, X, sc, pn, g, st, h => by
    unfold chkS at h
    split at h
    · simp only [Bool.and_eq_true] at h
      obtain ⟨⟨⟨⟨h1, h2⟩, h5⟩, h3⟩, h4⟩ := h
      exact is_pput (by have := g.units; omega) (okP g p h1).1 (okK g k h2) (okC c g _ h3).pe (swaps_no h4 _ _ _)
    · cases h
  | .pfld p f c, X, sc, pn, g, st, h => by
    unfold chkS at h
    split at h
    · simp only [Bool.and_eq_true, decide_eq_true_eq] at h
      obtain ⟨⟨⟨rfl, h2⟩, h3⟩, h4⟩ := h
      exact is_pfld g.na (okP g p h2).1 (okC c g _ h3).pe (swaps_no h4 _ _ _)
    · cases h
  | .par i j cs, X, sc, pn, g, st, h => by
    unfold chkS at h
    split at h
    · simp only [Bool.and_eq_true, decide_eq_true_eq, Bool.not_eq_true'] at h
      obtain ⟨⟨⟨⟨⟨⟨⟨⟨⟨⟨⟨⟨⟨a1, a2⟩, a3⟩, a4⟩, a5⟩, a6⟩, a7⟩, a8⟩, a9⟩, a10⟩, a11⟩, a12⟩, a13⟩, a14⟩ := h
      have hkd : X.env.scope.kind = .function := by rw [g.hsc]; exact g.kd
      have lx := a4
      have ly := a5
      rw [← g.hsc] at lx ly
      exact is_par g.calm (by rw [g.hN]; exact g.nd) (by rw [g.hN]; exact a1) (by rw [g.hN]; exact a2) a3 lx ly (own_neg g (by simpa using a6)) (own_neg g (by simpa using a7)) (okCs cs g _ a8).2.1 (par_stores hkd lx ly a9 a10 a11 a12 a13 a14) rfl
    · cases h
  | .ret c, X, sc, pn, g, st, h => by
    unfold chkS at h
    split at h
    · exact is_ret (okC c g _ h)
    · cases h
  | .retN, X, sc, pn, g, st, h => by
    unfold chkS at h
    split at h
    · exact is_retN
    · cases h
  | .exp c, X, sc, pn, g, st, h => by
    unfold chkS at h
    split at h
    · simp only [Bool.and_eq_true] at h
      exact is_exp (okC c g _ h.1) (swaps_no h.2 _ _ _)
    · cases h
  | .ifs c a b, X, sc, pn, g, st, h => by
    unfold chkS at h
    split at h
    · simp only [Bool.and_eq_true] at h
      obtain ⟨⟨⟨h1, h2⟩, h3⟩, h4⟩ := h
      exact is_if (okC c g _ h1) h2 (okSs a g _ h3) (okSs b g _ h4)
    · cases h
  | .whl n c b, X, sc, pn, g, st, h => by
    unfold chkS at h
    split at h
    · simp only [Bool.and_eq_true] at h
      obtain ⟨⟨h1, h2⟩, h3⟩ := h
      exact is_while (passes g) (okC c g _ h1) h2 (okSs b g _ h3)
    · cases h
  | .fore t it b, X, sc, pn, g, st, h => by
    unfold chkS at h
    split at h
    · simp only [Bool.and_eq_true] at h
      obtain ⟨⟨h1, h2⟩, h3⟩ := h
      have hI := okI it g h2
      exact is_for (passes g) g.calm hI.1 (okTg t g (fun _ _ z => nomatch z) h1) (okSs b g _ h3) hI.2
    · cases h
  | .brk, X, sc, pn, g, st, h => by
    unfold chkS at h
    split at h
    · exact is_break
    · cases h
  | .cnt, X, sc, pn, g, st, h => by
    unfold chkS at h
    split at h
    · exact is_cont
    · cases h
  | .pass, X, sc, pn, g, st, h => by
    unfold chkS at h
    split at h
    · exact is_pass
    · cases h
theorem okSs : ∀ (s : Ss) {X : Cx} {sc : Scope} {pn : List (Nat × V)}, GX X W N sc L pn false → ∀ (st : List Stmt), chkSs N L sc s st = true → PSs X st (rdS X.K pn (evSs W s))
  | .nil, X, sc, pn, g, st, h => by
    unfold chkSs at h
    split at h
    · exact is_nil
    · cases h
  | .cons s r, X, sc, pn, g, st, h => by
    unfold chkSs at h
    split at h
    · simp only [Bool.and_eq_true] at h
      exact is_cons (okS s g _ h.1) (okSs r g _ h.2)
    · cases h
end
end
end IL

namespace IL
open PySem PySem.Spec PyProof.Rows L2

/-- the defs and constants around, proved to a level -/
structure Tab (P : Program) (w : World) (K : PySem.W.Frag) (mg : Str → Option Value) (base : Heap) (k : Nat) (W : Wd) : Prop where
  blt : ∀ x ∈ bltNames, mg x = none
  fn : ∀ x fe, W.fn x = some fe → ∃ f fd ps, FnG P w K mg base CX0 k f fd ps (spG K fe.np fe.lent fe.sem) ∧ mg x = some (.ref f) ∧ PySem.W.keepIn K (.ref f) = true ∧ Binds K fd ps []
  glb : ∀ x d, W.glb x = some d → ∃ v u, mg x = some u ∧ RelV v u ∧ ∀ J H, RD K J H v d
  feed : W.feed = none
  na : ∀ (C : Nat) f, W.na C f = true → NoAttr K C f
  mt : ∀ c m n C dv fe, W.mt c m n = some (C, dv, fe) → ∃ f fd ps, Cls K C ∧ Meth K C m f ∧ FnG P w K mg base CX0 k f fd ps (spG K fe.np fe.lent fe.sem) ∧ ∃ ds dvs, Binds K fd ps ds ∧ Vals dvs ds ∧ ∀ J H, RDs K J H dvs dv
  ct : ∀ c C fe, W.ct c = some (C, fe) → ∃ k' f fd ps, k' + 1 ≤ k ∧ ObjC K C ∧ Mk K C f ∧ FnG P w K mg base CX0 k' f fd ps (spG K fe.np fe.lent fe.sem) ∧ mg c = some (.ref C) ∧ Binds K fd ps []
def Wd.addM (W : Wd) (c m : Str) (C : Nat) (dv : Nat → List D) (fe : Fe) : Wd := { W with mt := fun c' m' n => if c' = c ∧ m' = m then some (C, dv n, fe) else W.mt c' m' n }
def Wd.addC (W : Wd) (c : Str) (C : Nat) (fe : Fe) : Wd := { W with ct := fun c' => if c' = c then some (C, fe) else W.ct c' }
def Wd.add (W : Wd) (x : Str) (fe : Fe) : Wd := { W with fn := fun y => if y = x then some fe else W.fn y }
/-- a def as it stands -/
structure Df (K : PySem.W.Frag) (mg : Str → Option Value) (x : Str) (st : Stmt) (N ps : List Str) : Prop where
  fn : ∃ f fd, Fun K x x st f fd ∧ mg x = some (.ref f) ∧ Binds K fd ps []
  sc : FnScope N ps (defScope st)
section
variable {P : Program} {w : World} {K : PySem.W.Frag} {mg : Str → Option Value} {base : Heap}
theorem gx_of {k : Nat} {W : Wd} {X : Cx} {N ps : List Str} {sc : Scope} {L : List Nat} {pn : List (Nat × V)} (t : Tab P w K mg base k W) (S : FnScope N ps sc)
    (h1 : X.prog = P) (h2 : X.w = w) (h3 : X.K = K) (h4 : X.mg = mg) (h5 : X.base = base) (h6 : X.N = N) (h7 : X.env.scope = sc) (h8 : X.calm = true) (h9 : X.xe = fun _ _ => False) (h10 : Room k X.A) (h11 : X.A.guards = some []) (h12 : ∀ y, X.fn y = true) (h13 : ∀ p ∈ pn, p.1 ∈ L) : GX X W N sc L pn false := by
  subst h1 h2 h3 h4 h5
  exact ⟨h8, h9, h6, S.nd, h7, S.kind, by have := h10.un; omega, h11, t.blt, fun x fe hx => by
    obtain ⟨f, fd, ps', G, a, b, c⟩ := t.fn x fe hx
    exact ⟨k, f, fd, ps', G, h10, a, b, c⟩, t.glb, fun _ t' ht => (by rw [t.feed] at ht; cases ht), t.na, fun c m n C dv fe hx => (by
    obtain ⟨f, fd, ps', cl, hm, G, hb⟩ := t.mt c m n C dv fe hx
    exact ⟨k, f, fd, ps', cl, hm, G, h10, hb⟩), fun c C fe hx => (by
    obtain ⟨k', f, fd, ps', hk, oc, M, G, a, b⟩ := t.ct c C fe hx
    exact ⟨k', f, fd, ps', oc, M, G, h10.mono hk, a, b⟩), h13, fun _ => h12⟩
theorem Tab.up {k : Nat} {W : Wd} (t : Tab P w K mg base k W) : Tab P w K mg base (k + 1) W := ⟨t.blt, fun y fe hy => by
    obtain ⟨f', fd', ps', G', a, b, c'⟩ := t.fn y fe hy
    exact ⟨f', fd', ps', G'.mono (Nat.le_succ k), a, b, c'⟩, t.glb, t.feed, t.na, fun c m n C dv fe hx => by
    obtain ⟨f, fd, ps', cl, hm, G, hb⟩ := t.mt c m n C dv fe hx
    exact ⟨f, fd, ps', cl, hm, G.mono (Nat.le_succ k), hb⟩, fun c C fe hx => by
    obtain ⟨k', f, fd, ps', hk, oc, M, G, a, b⟩ := t.ct c C fe hx
    exact ⟨k', f, fd, ps', by omega, oc, M, G, a, b⟩⟩
/-- one def more -/
theorem Tab.add {k : Nat} {W : Wd} (t : Tab P w K mg base k W) {x : Str} {st : Stmt} {N ps : List Str} (d : Df K mg x st N ps) {L : List Nat} {c : Ss} (hc : chkSs N L (defScope st) c (defBody st) = true) {np : Nat} (hnp : ps.length = np) {F : FSem}
    (hF : ∀ ts r, ts.length = np → F ts = some r → runM N.length np L (evSs W c) ts = some r) : Tab P w K mg base (k + 1) (W.add x ⟨np, L, F⟩) := by
  subst hnp
  obtain ⟨f, fd, Fu, hmg, hb⟩ := d.fn
  have G : FnG P w K mg base CX0 (k + 1) f fd ps (spG K ps.length L F) := by
    have G0 := fnG_body (P := P) (w := w) (mg := mg) (base := base) (k := k) (L := L) (g := evSs W c) (.of Fu) d.sc fun X pn h1 h2 h3 h4 h5 h6 h7 h8 h9 h10 h11 h12 h13 =>
      okSs c (gx_of t d.sc h1 h2 h3 h4 h5 h6 h7 h8 h9 h10 h11 h12 h13) _ hc
    exact (G0.imp runM_sp).imp (spG.imp hF)
  have t1 := t.up
  refine ⟨t.blt, fun y fe hy => ?_, t.glb, t.feed, t.na, t1.mt, t1.ct⟩
  unfold Wd.add at hy
  simp only at hy
  split at hy
  · rename_i e
    subst e
    cases hy
    exact ⟨f, fd, ps, G, hmg, Fu.kp, hb⟩
  · exact t1.fn y fe hy
/-- a def that calls itself: what it tells in m turns -/
theorem Tab.recur {k : Nat} {W : Wd} (t : Tab P w K mg base k W) {x : Str} {st : Stmt} {N ps : List Str} (d : Df K mg x st N ps) {L : List Nat} {c : Ss} (hc : chkSs N L (defScope st) c (defBody st) = true) {np : Nat} (hnp : ps.length = np) {F : Nat → FSem}
    (h0 : ∀ ts, F 0 ts = none) (hF : ∀ m ts r, ts.length = np → F (m + 1) ts = some r → runM N.length np L (evSs (W.add x ⟨np, L, F m⟩) c) ts = some r) : ∀ m, Tab P w K mg base (k + m) (W.add x ⟨np, L, F m⟩)
  | 0 => by
    subst hnp
    obtain ⟨f, fd, Fu, hmg, hb⟩ := d.fn
    refine ⟨t.blt, fun y fe hy => ?_, t.glb, t.feed, t.na, t.mt, t.ct⟩
    unfold Wd.add at hy
    simp only at hy
    split at hy
    · rename_i e
      subst e
      cases hy
      exact ⟨f, fd, ps, ⟨fun vs H Q E h => h.1, fun B o s H args us vs Q E hr hg he hb hv h => by
        obtain ⟨_, J, fp, ts, _, t, outs, hF, _⟩ := h
        simp only [h0] at hF
        cases hF⟩, hmg, Fu.kp, hb⟩
    · exact t.fn y fe hy
  | m + 1 => by
    have t' := Tab.recur t d hc hnp h0 hF m
    have t2 := t'.add d hc hnp (hF m)
    have e : ((W.add x ⟨np, L, F m⟩).add x ⟨np, L, F (m + 1)⟩) = W.add x ⟨np, L, F (m + 1)⟩ := by
      unfold Wd.add
      simp only
      congr
      funext y
      split <;> rfl
    rw [e] at t2
    exact t2
/-- a method as it stands -/
structure DfM (K : PySem.W.Frag) (C : Nat) (m qual : Str) (st : Stmt) (N ps : List Str) (dv : Nat → List D) : Prop where
  fn : ∃ f fd, FunQ K m qual st f fd ∧ Meth K C m f ∧ ∀ n, ∃ ds dvs, Binds K fd ps ds ∧ Vals dvs ds ∧ ∀ J H, RDs K J H dvs (dv n)
  cl : Cls K C
  sc : FnScope N ps (defScope st)
theorem Tab.fnG {k : Nat} {W : Wd} (t : Tab P w K mg base k W) {x qual : Str} {st : Stmt} {N ps : List Str} {f : Addr} {fd : FuncData} (Fu : FunQ K x qual st f fd) (sc : FnScope N ps (defScope st)) {L : List Nat} {c : Ss} (hc : chkSs N L (defScope st) c (defBody st) = true) {np : Nat} (hnp : ps.length = np) {F : FSem}
    (hF : ∀ ts r, ts.length = np → F ts = some r → runM N.length np L (evSs W c) ts = some r) : FnG P w K mg base CX0 (k + 1) f fd ps (spG K np L F) := by
  subst hnp
  have G0 := fnG_body (P := P) (w := w) (mg := mg) (base := base) (k := k) (L := L) (g := evSs W c) Fu sc fun X pn h1 h2 h3 h4 h5 h6 h7 h8 h9 h10 h11 h12 h13 =>
    okSs c (gx_of t sc h1 h2 h3 h4 h5 h6 h7 h8 h9 h10 h11 h12 h13) _ hc
  exact (G0.imp runM_sp).imp (spG.imp hF)
/-- one method more -/
theorem Tab.addM {k : Nat} {W : Wd} (t : Tab P w K mg base k W) {cn m qual : Str} {C : Nat} {st : Stmt} {N ps : List Str} {dv : Nat → List D} (d : DfM K C m qual st N ps dv) {L : List Nat} {c : Ss} (hc : chkSs N L (defScope st) c (defBody st) = true) {np : Nat} (hnp : ps.length = np) {F : FSem}
    (hF : ∀ ts r, ts.length = np → F ts = some r → runM N.length np L (evSs W c) ts = some r) : Tab P w K mg base (k + 1) (W.addM cn m C dv ⟨np, L, F⟩) := by
  obtain ⟨f, fd, Fu, hm, hb⟩ := d.fn
  have G := t.fnG Fu d.sc hc hnp hF
  have t1 := t.up
  refine ⟨t.blt, t1.fn, t.glb, t.feed, t.na, fun c' m' n' C' dv' fe hy => ?_, t1.ct⟩
  unfold Wd.addM at hy
  simp only at hy
  split at hy
  · rename_i e
    obtain ⟨rfl, rfl⟩ := e
    cases hy
    exact ⟨f, fd, ps, d.cl, hm, G, hb _⟩
  · exact t1.mt _ _ _ _ _ _ hy
/-- a method that calls itself -/
theorem Tab.recurM {k : Nat} {W : Wd} (t : Tab P w K mg base k W) {cn m qual : Str} {C : Nat} {st : Stmt} {N ps : List Str} {dv : Nat → List D} (d : DfM K C m qual st N ps dv) {L : List Nat} {c : Ss} (hc : chkSs N L (defScope st) c (defBody st) = true) {np : Nat} (hnp : ps.length = np) {F : Nat → FSem}
    (h0 : ∀ ts, F 0 ts = none) (hF : ∀ n ts r, ts.length = np → F (n + 1) ts = some r → runM N.length np L (evSs (W.addM cn m C dv ⟨np, L, F n⟩) c) ts = some r) : ∀ n, Tab P w K mg base (k + n) (W.addM cn m C dv ⟨np, L, F n⟩)
  | 0 => by
    subst hnp
    obtain ⟨f, fd, Fu, hm, hb⟩ := d.fn
    refine ⟨t.blt, t.fn, t.glb, t.feed, t.na, fun c' m' n' C' dv' fe hy => ?_, t.ct⟩
    unfold Wd.addM at hy
    simp only at hy
    split at hy
    · rename_i e
      obtain ⟨rfl, rfl⟩ := e
      cases hy
      exact ⟨f, fd, ps, d.cl, hm, ⟨fun vs H Q E h => h.1, fun B o s H args us vs Q E hr hg he hb hv h => by
        obtain ⟨_, J, fp, ts, _, t, outs, hF, _⟩ := h
        simp only [h0] at hF
        cases hF⟩, hb _⟩
    · exact t.mt _ _ _ _ _ _ hy
  | n + 1 => by
    have t' := Tab.recurM t d hc hnp h0 hF n
    have t2 := t'.addM (cn := cn) d hc hnp (hF n)
    have e : ((W.addM cn m C dv ⟨np, L, F n⟩).addM cn m C dv ⟨np, L, F (n + 1)⟩) = W.addM cn m C dv ⟨np, L, F (n + 1)⟩ := by
      unfold Wd.addM
      simp only
      congr
      funext y z u
      split <;> rfl
    rw [e] at t2
    exact t2
/-- a class as it stands, its __init__ -/
structure DfC (K : PySem.W.Frag) (mg : Str → Option Value) (cn qual : Str) (C : Nat) (st : Stmt) (N ps : List Str) : Prop where
  fn : ∃ f fd, FunQ K "__init__" qual st f fd ∧ Mk K C f ∧ Binds K fd ps []
  oc : ObjC K C
  mg : mg cn = some (.ref C)
  sc : FnScope N ps (defScope st)
theorem Tab.addC {k : Nat} {W : Wd} (t : Tab P w K mg base k W) {cn qual : Str} {C : Nat} {st : Stmt} {N ps : List Str} (d : DfC K mg cn qual C st N ps) {L : List Nat} {c : Ss} (hc : chkSs N L (defScope st) c (defBody st) = true) {np : Nat} (hnp : ps.length = np) {F : FSem}
    (hF : ∀ ts r, ts.length = np → F ts = some r → runM N.length np L (evSs W c) ts = some r) : Tab P w K mg base (k + 2) (W.addC cn C ⟨np, L, F⟩) := by
  obtain ⟨f, fd, Fu, M, hb⟩ := d.fn
  have G := t.fnG Fu d.sc hc hnp hF
  have t1 := t.up.up
  refine ⟨t.blt, t1.fn, t.glb, t.feed, t.na, t1.mt, fun c' C' fe hy => ?_⟩
  unfold Wd.addC at hy
  simp only at hy
  split at hy
  · rename_i e
    subst e
    cases hy
    exact ⟨k + 1, f, fd, ps, Nat.le_refl _, d.oc, M, G, d.mg, hb⟩
  · exact t1.ct _ _ _ hy
end
end IL

namespace IL
open PySem PySem.Spec PyProof.Rows L2

/-! ### what a law is fed -/
def spFeed (K : PySem.W.Frag) : Sp := fun vs H Q _ => ∃ (a : Addr) (ns : List Int), vs = [.ref a] ∧ SqL K H a (ns.map V.int) ∧ ns.length ≤ 63 ∧
  ∀ H' p c, p ≠ c → H' p = some (.lst [.ref c, .int 0, .int 0, .int 0]) → H' c = some (.lst (ns.map V.int)) → Q (.ref p) H'
theorem cut63 (xs : List V) (h : xs.length ≤ 63) : cutV xs none (some 63) = xs := by
  unfold cutV
  rw [HT.sIx_none, show HT.sIx xs.length xs.length (some 63) = min 63 xs.length from HT.sIx_nat _ _ 63]
  rw [Nat.min_eq_right h, List.drop_zero, Nat.sub_zero, List.take_length]
section
variable {P : Program} {w : World} {K : PySem.W.Frag} {mg : Str → Option Value} {base : Heap}
theorem feed_ok {k : Nat} {f : Addr} {x : Str} {st : Stmt} {fd : FuncData} {s : Str} {p1 p2 p3 p4 p5 p6 p7 p8 p9 : Pos} {j1 j2 j3 j4 : Nat} (F : Fun K x x st f fd) (S : FnScope [s] [s] (defScope st)) (hv : Vis (defScope st) s) (hd : nmOk s = true)
    (hb : defBody st = [.Return (some (.List [.Subscript (.Name s p1) (.Slice none (some (.Constant (.int 63) j1 p2)) none p3) p4, .Constant (.int 0) j2 p5, .Constant (.int 0) j3 p6, .Constant (.int 0) j4 p7] p8)) p9]) :
    FnG P w K mg base CX0 (k + 1) f fd [s] (spFeed K) := by
  refine fnG_of (.of F) S (fun vs H Q E h => by obtain ⟨a, ns, rfl, _⟩ := h; rfl) fun cdv B around s1 H vs Q E hr hg h => ?_
  obtain ⟨a, ns, rfl, hS, hl, q⟩ := h
  rw [hb]
  obtain ⟨d1, d2⟩ := nmOk_d hd
  have hvar : PE (cxOf CX0 P w K mg base [s] x (defScope st) f cdv B around s1 H E) (.Name s p1) (tVar 0) := pe_var rfl hv d1 d2
  refine ⟨_, pss_one (ps_ret (pe_lst (pa_cons (pe_slice sl_list hvar po_none (po_some pe_int)) (pa_cons pe_int (pa_cons pe_int (pa_cons pe_int pa_nil)))))), ?_⟩
  refine ⟨.ref a, rfl, 63, rfl, a, ns.map V.int, rfl, hS, fun c hc => ?_⟩
  refine ⟨by show 4 ≤ sizeLine; decide, fun p hp => ?_⟩
  have hpc : p ≠ c := fun z => by
    subst z
    rw [upd_same] at hp
    cases hp
  rw [cut63 _ (by rw [List.length_map]; exact hl)] at hp ⊢
  exact q _ p c hpc upd_same (by rw [upd_ne (Ne.symm hpc), upd_same])
def spLawG (K : PySem.W.Frag) : Sp := fun vs H Q _ => ∃ (a : Addr) (ns : List Int), vs = [.ref a] ∧ SqL K H a (ns.map V.int) ∧ ns.length ≤ 63 ∧ ∀ H', Q (.bl true) H'
/-- the feed as a tree -/
def feedT (cells : List Int) : T := .lst [.leaf (.list (cells.map .int)), .leaf (.int 0), .leaf (.int 0), .leaf (.int 0)]
theorem re_none {J : Addr → Prop} {H : Hp} : ∀ σ : L2.St, RE K J H σ (List.replicate σ.length none) []
  | [] => .nil
  | _ :: σ => .out (re_none σ)
theorem rds_ints {J : Addr → Prop} {H : Hp} : ∀ ns : List Int, RDs K J H (ns.map V.int) (ns.map PyData.int)
  | [] => .nil
  | n :: r => .cons (.int n) (rds_ints r)
theorem law_ok {k i : Nat} {W : Wd} {f ff : Addr} {fd ffd : FuncData} {st : Stmt} {N : List Str} {s y fe : Str} {c : Ss} {rest : List Stmt} {p1 p2 p3 p4 p5 : Pos} (t : Tab P w K mg base k W)
    (F : Fun K "law" "law" st f fd) (S : FnScope N [s] (defScope st)) (G : FnG P w K mg base CX0 k ff ffd [s] (spFeed K)) (hmg : mg fe = some (.ref ff)) (hkp : PySem.W.keepIn K (.ref ff) = true) (hbi : Binds K ffd [s] [])
    (hb : defBody st = .Assign [.Name y p1] (.Call (.Name fe p2) [.Name s p3] [] p4) p5 :: rest) (hi : N[i]? = some y) (h0 : N[0]? = some s) (hy : Loc (defScope st) y) (hs : visB (defScope st) s = true) (hd : nmOk s = true) (hfe : gloB (defScope st) fe = true) (hfd : nmOk fe = true)
    (hc : chkSs N [] (defScope st) c rest = true)
    (hrun : ∀ cells : List Int, cells.length ≤ 63 → ∃ e', evSs W c ((List.replicate N.length none).set i (some (feedT cells))) = .ok (.rt (.leaf (.bool true))) e') : FnG P w K mg base CX0 (k + 1) f fd [s] (spLawG K) := by
  refine fnG_of (.of F) S (fun vs H Q E h => by obtain ⟨a, ns, rfl, _⟩ := h; rfl) fun cdv B around s1 H vs Q E hr hg h => ?_
  obtain ⟨a, ns, rfl, hS, hl, q⟩ := h
  have g : GX (cxOf CX0 P w K mg base N "law" (defScope st) f cdv B around s1 H E).nox W N (defScope st) [] [] false := gx_of t S rfl rfl rfl rfl rfl rfl rfl rfl rfl hr hg (fun _ => rfl) (fun _ h => (nomatch h))
  have hrest := okSs c g rest hc
  obtain ⟨d1, d2⟩ := nmOk_d hd
  have hgl : Gl (cxOf CX0 P w K mg base N "law" (defScope st) f cdv B around s1 H E).nox fe := by
    unfold gloB at hfe
    split at hfe
    · assumption
    · cases hfe
  have hvar : PE (cxOf CX0 P w K mg base N "law" (defScope st) f cdv B around s1 H E).nox (.Name s p3) (tVar 0) := pe_var h0 (visB_vis hs) d1 d2
  have hcall := pe_callG (X := (cxOf CX0 P w K mg base N "law" (defScope st) f cdv B around s1 H E).nox) (pos := p4) (p := p2) G hr hg hgl hmg hkp hbi .nil pass0 (pa_cons hvar pa_nil) (nmOk_d hfd).1 rfl rfl
  have hset := ps_set (X := (cxOf CX0 P w K mg base N "law" (defScope st) f cdv B around s1 H E).nox) (pos := p5) (pos' := p1) S.nd hi hy hcall rfl (.inl rfl)
  rw [hb]
  refine ⟨_, PSs.nox (pss_cons hset hrest), ?_⟩
  have hps : 1 ≤ N.length := by
    have := (List.getElem?_eq_some_iff.mp h0).1
    omega
  have hst : (L2.start N [V.ref a])[0]? = some (some (.ref a)) := rfl
  refine ⟨.ref a, hst, a, ns, rfl, hS, hl, fun H' p cc hpc hp hcc => ?_⟩
  obtain ⟨e', he⟩ := hrun ns hl
  have hlen : (L2.start N [V.ref a]).length = N.length := by
    unfold L2.start
    simp
    omega
  have s0 : SR K [] (L2.start N [V.ref a]) H' (List.replicate N.length none) (fun b => b = cc) [] := by
    refine ⟨by rw [← hlen]; exact re_none _, .nil, fun _ h => (nomatch h), fun b z => ?_, fun _ h => (nomatch h)⟩
    subst z
    rw [hcc]
    exact fun z => nomatch z
  have ow : Own K (fun b => b = cc) H' [] (.ref p) (feedT ns) [p] := by
    refine ⟨.lst hp (.cons (f := []) (.leaf (.lst rfl hcc (rds_ints ns))) (.cons (f := []) (.leaf (.int 0)) (.cons (f := []) (.leaf (.int 0)) (.cons (f := []) (.leaf (.int 0)) .nil)))), by simp, fun b hb => ?_⟩
    simp at hb
    subst hb
    exact hpc
  have hilt : i < N.length := (List.getElem?_eq_some_iff.mp hi).1
  obtain ⟨F1, s2, _⟩ := s0.set (i := i) (by simpa using hilt) (fun _ h => (nomatch h)) ow
  exact ⟨_, _, F1, s2, _, e', he, fun v σ' H2 J' F' fp s' o' tr => by
    obtain ⟨rfl, _⟩ := own_bool o'
    exact q H2⟩
end

/-! ### the law's call, from the heap behind the top -/
theorem lawG_call {P : Program} {w : World} {K : PySem.W.Frag} {mg nb : Str → Option Value} {k : Nat} {fa a : Addr} {fd : FuncData} {x : Str} {sp : Sp} {s : Shared} {us : List Value} {ns : List Int}
    (inK : K.In s.heap) (glob : s.heap.Ns mainGlobals mg) (blts : s.heap.Ns builtinsNs nb) (bltsAre : ∀ x : Str, x ≠ "__name__" → nb x = bootBuiltins x) (nolim : s.heap.NoLimit) (nogen : s.gens = #[])
    (here : s.heap.get? a = some { cls := .type "list", data := .seq us.toArray }) (are : IntsAre us ns) (few : ns.length ≤ sizeLine) (room : Room k callerA)
    (G : ∀ base : Heap, K.In base → base.Ns mainGlobals mg → FnG P w K mg base CX0 k fa fd [x] sp) (bd : ∀ (s : Shared) (u : Value), BindsTo s fd ⟨[u], []⟩ [(x, u)])
    (want : ∀ H : Hp, SqL K H a (ns.map V.int) → sp [.ref a] H (fun v _ => v = .bl true) fun _ _ _ => False) :
    codeAny (model P w) callerA (.call (.ref fa) ⟨[.ref a], []⟩) (fun r s' => r = .ok (.ret (.bool true)) ∧ OldK s.heap s'.heap ∧ s'.os = s.os ∧ AllBare s'.gens) s := by
  have vals := vals_ints are
  have usLen := are.length
  have go : ∀ H : Hp, (∀ b, H b = none ∨ ∃ o xs, H b = some (.frz o (.lst xs))) → SqL K H a (ns.map V.int) → HOk P w H s.heap → (∀ b, H b ≠ none → b = a) → (H a ≠ none → K.lookup a = none) →
      codeAny (model P w) callerA (.call (.ref fa) ⟨[.ref a], []⟩) (fun r s' => r = .ok (.ret (.bool true)) ∧ OldK s.heap s'.heap ∧ s'.os = s.os ∧ AllBare s'.gens) s := by
    intro H lone hS good just notK
    have shown : ∀ {b : Addr} {o : Obj}, s.heap.get? b = some o → H b = none → (hidT s.heap H).get? b = some o := fun e n => hidT_get e n
    have apart : ∀ {b : Addr} {o : Obj}, s.heap.get? b = some o → (∀ us n, o.data ≠ .seq us n) → H b = none := fun {b o} e d => by
      cases q : H b with
      | none => rfl
      | some u =>
        have z : b = a := just b (by rw [q]; exact fun z => (nomatch z))
        rw [z, here] at e
        cases e
        exact absurd rfl (d _ _)
    have nsOf : ∀ {b : Addr} {m : Str → Option Value}, s.heap.Ns b m → (hidT s.heap H).Ns b m := by
      rintro b m ⟨o, es, ep, e, d, r⟩
      exact ⟨o, es, ep, shown e (apart e fun us n z => by rw [d] at z; cases z), d, r⟩
    have inB : K.In (hidT s.heap H) := fun b o e => shown (inK b o e) (by
      cases q : H b with
      | none => rfl
      | some u =>
        have nz : H b ≠ none := by rw [q]; exact fun z => nomatch z
        have z : b = a := just b nz
        subst z
        rw [notK nz] at e
        cases e)
    obtain ⟨ml, l1, l2⟩ := nolim
    have md : Mod K mg (hidT s.heap H) := ⟨inB, nsOf glob, ⟨nb, nsOf blts, bltsAre⟩, ml, nsOf l1, l2⟩
    have env : Env0 P w K mg (hidT s.heap H) callerA [] s H := ⟨rfl, md, fun b o e => of_hidT e, Nat.le_of_eq (hidT_size _ _), trivial, fun b hb => (nomatch hb), good, .of_eq nogen⟩
    refine codeAny_mono ((G _ inB (nsOf glob)).run callerA [] s H ⟨[.ref a], []⟩ [.ref a] [.ref a] _ _ room rfl env (bd s (.ref a)) (.cons rfl .nil) (want H hS)) ?_
    rintro r s' hq
    match r, hq with
    | .error e, hq => exact hq.elim
    | .ok .next, hq => exact hq.elim
    | .ok .brk, hq => exact hq.elim
    | .ok .cont, hq => exact hq.elim
    | .ok (.ret u), ⟨v, H', os, bare, un, good', ru, q⟩ =>
      have q2 : v = .bl true := q
      subst q2
      have ru2 : u = Value.bool true := ru
      subst ru2
      refine ⟨rfl, OldK.of_keep fun b o e => ?_, os, bare⟩
      rcases lone b with n | ⟨ob, xs, z⟩
      · exact un.keep b o e n (fun z => (nomatch z)) (fun z => (nomatch z))
      · obtain ⟨e1, _⟩ := good b _ z
        obtain ⟨e2, _⟩ := good' b _ (un.frzs b ob _ z)
        rw [e] at e1
        cases e1
        exact e2
  cases hk : K.lookup a with
  | some o =>
    have e := inK a o hk
    rw [here] at e
    cases e
    exact go (fun _ => none) (fun _ => .inl rfl) (.inr ⟨_, us.toArray, _, hk, rfl, rfl, rfl, by rw [List.size_toArray, usLen]; exact few, by simpa using vals⟩) (fun b u z => by cases z) (fun b z => absurd rfl z) fun z => absurd rfl z
  | none =>
    have fz : ∀ b, (fun b => if b = a then some (HO.frz { cls := .type "list", data := .seq us.toArray } (.lst (ns.map V.int))) else none) b = if b = a then some (HO.frz { cls := .type "list", data := .seq us.toArray } (.lst (ns.map V.int))) else none := fun _ => rfl
    refine go (fun b => if b = a then some (.frz { cls := .type "list", data := .seq us.toArray } (.lst (ns.map V.int))) else none) (fun b => ?_) (.inl (.inr ⟨{ cls := .type "list", data := .seq us.toArray }, if_pos rfl⟩)) (fun b u z => ?_) (fun b z => ?_) fun _ => hk
    · by_cases hb : b = a
      · exact .inr ⟨_, _, if_pos hb⟩
      · exact .inl (if_neg hb)
    · by_cases hb : b = a
      · have z2 := (if_pos hb).symm.trans z
        cases z2
        subst hb
        exact ⟨here, by rw [List.length_map]; exact few, us, _, vals, here⟩
      · have z2 := (if_neg hb).symm.trans z
        cases z2
    · by_cases hb : b = a
      · exact hb
      · exact absurd (if_neg hb) z
theorem walkG {l : PySem.W.OpenLaw} {n k : Nat} {q : Program} {loose : List Str} {XP : (Str → Option Value) → Heap → Prop} {YP : World → Heap → Prop} {d : DefRec} {K : Params → PySem.W.Frag} {sp : World → Sp} {x : Str}
    (most : l.most = some n) (few : n ≤ sizeLine) (nodef : d.params.defaults = []) (room : Room k callerA)
    (inK : ∀ (w : World) (h : Heap), YP w h → (K w.params).In h)
    (F : ∀ (w : World) (mg : Str → Option Value) (fa : Addr) (h : Heap), (K w.params).In h → h.Ns mainGlobals mg → mg d.name = some (.ref fa) →
      ∃ fd : FuncData, (∀ (s : Shared) (u : Value), BindsTo s fd ⟨[u], []⟩ [(x, u)]) ∧
        ∀ base : Heap, (K w.params).In base → base.Ns mainGlobals mg → FnG l.prog w (K w.params) mg base CX0 k fa fd [x] (sp w))
    (want : ∀ (w : World) (H : Hp) (a : Addr) (ns : List Int), ns.length ≤ n → SqL (K w.params) H a (ns.map V.int) → sp w [.ref a] H (fun v _ => v = .bl true) fun _ _ _ => False) :
    PySem.W.WalkO q loose XP YP l.row.toRowW d [] (fun f vs => PySem.call f vs) := by
  refine Att.attach_call most nodef ?_
  intro w s₀ s mg nb fa o pm cd doc a us ns Gd Y ho hd hcd hmg hobj hints hlen hgen
  have KX := inK w _ Y
  obtain ⟨fd, bd, hF⟩ := F w mg fa _ KX Gd.T.g hmg
  exact lawG_call KX Gd.T.g Gd.T.b Gd.T.builtins Gd.T.nolimit hgen hobj hints (Nat.le_trans hlen few) room hF bd fun H hS => want w H a ns hlen hS
theorem rv_int (i : Int) (t : Tok) : RelV (.int i) (.int i t) := ⟨_, rfl⟩
theorem rv_str (i : Str) (t : Tok) : RelV (.str i) (.str i t) := ⟨_, rfl⟩
theorem rv_bl (b : Bool) : RelV (.bl b) (.bool b) := rfl
theorem rv_ref (a : Addr) : RelV (.ref a) (.ref a) := rfl
end IL

namespace IL
open PySem PySem.Spec PyProof.Rows L2
/-! the frame of the laws that ask of the script's bits, and of those fed by list(script[:63]) -/
theorem bits_log {n : Int} (h : Builtin.Int.intBits n ≤ 1048576) : n.natAbs.log2 ≤ 1048576 := by
  unfold Builtin.Int.intBits at h
  split at h
  · rename_i hz
    have : n = 0 := by simpa using hz
    subst this
    decide
  · omega
section
variable {P : Program} {w : World} {K : PySem.W.Frag} {mg : Str → Option Value} {base : Heap}
theorem feed_okL {k : Nat} {f : Addr} {x : Str} {st : Stmt} {fd : FuncData} {s : Str} {p1 p2 p3 p4 p5 p6 p7 p8 p9 q1 q2 : Pos} {j1 j2 j3 j4 : Nat} (F : Fun K x x st f fd) (S : FnScope [s] [s] (defScope st)) (hv : Vis (defScope st) s) (hd : nmOk s = true)
    (hgl : gloB (defScope st) "list" = true) (hmg : mg "list" = none)
    (hb : defBody st = [.Return (some (.List [.Call (.Name "list" q1) [.Subscript (.Name s p1) (.Slice none (some (.Constant (.int 63) j1 p2)) none p3) p4] [] q2, .Constant (.int 0) j2 p5, .Constant (.int 0) j3 p6, .Constant (.int 0) j4 p7] p8)) p9]) :
    FnG P w K mg base CX0 (k + 1) f fd [s] (spFeed K) := by
  refine fnG_of (.of F) S (fun vs H Q E h => by obtain ⟨a, ns, rfl, _⟩ := h; rfl) fun cdv B around s1 H vs Q E hr hg h => ?_
  obtain ⟨a, ns, rfl, hS, hl, q⟩ := h
  rw [hb]
  obtain ⟨d1, d2⟩ := nmOk_d hd
  have hvar : PE (cxOf CX0 P w K mg base [s] x (defScope st) f cdv B around s1 H E) (.Name s p1) (tVar 0) := pe_var rfl hv d1 d2
  have hgl' : Gl (cxOf CX0 P w K mg base [s] x (defScope st) f cdv B around s1 H E) "list" := by
    unfold gloB at hgl
    split at hgl
    · assumption
    · cases hgl
  refine ⟨_, pss_one (ps_ret (pe_lst (pa_cons (pe_callTy call_list_of hgl' hmg (by decide +kernel) (pa_cons (pe_slice sl_list hvar po_none (po_some pe_int)) pa_nil)) (pa_cons pe_int (pa_cons pe_int (pa_cons pe_int pa_nil)))))), ?_⟩
  refine ⟨.ref a, rfl, 63, rfl, a, ns.map V.int, rfl, hS, fun c hc => ?_⟩
  rw [cut63 _ (by rw [List.length_map]; exact hl)]
  refine ⟨c, ns.map V.int, rfl, .inl (.inl (.inl upd_same)), fun c2 hc2 => ?_⟩
  refine ⟨by show 4 ≤ sizeLine; decide, fun p hp => ?_⟩
  have hpc : p ≠ c2 := fun z => by
    subst z
    rw [upd_same] at hp
    cases hp
  exact q _ p c2 hpc upd_same (by rw [upd_ne (Ne.symm hpc), upd_same])
def spLawB (K : PySem.W.Frag) : Sp := fun vs H Q _ => ∃ (a : Addr) (ns : List Int), vs = [.ref a] ∧ SqL K H a (ns.map V.int) ∧ ns.length ≤ 63 ∧ (∀ n ∈ ns, Builtin.Int.intBits n ≤ 1048576) ∧ ∀ H', Q (.bl true) H'
theorem law_okB {k i : Nat} {W : Wd} {f ff : Addr} {fd ffd : FuncData} {st : Stmt} {N : List Str} {s y fe : Str} {c : Ss} {rest : List Stmt} {p1 p2 p3 p4 p5 : Pos} (t : Tab P w K mg base k W)
    (F : Fun K "law" "law" st f fd) (S : FnScope N [s] (defScope st)) (G : FnG P w K mg base CX0 k ff ffd [s] (spFeed K)) (hmg : mg fe = some (.ref ff)) (hkp : PySem.W.keepIn K (.ref ff) = true) (hbi : Binds K ffd [s] [])
    (hb : defBody st = .Assign [.Name y p1] (.Call (.Name fe p2) [.Name s p3] [] p4) p5 :: rest) (hi : N[i]? = some y) (h0 : N[0]? = some s) (hy : Loc (defScope st) y) (hs : visB (defScope st) s = true) (hd : nmOk s = true) (hfe : gloB (defScope st) fe = true) (hfd : nmOk fe = true)
    (hc : chkSs N [] (defScope st) c rest = true)
    (hrun : ∀ cells : List Int, cells.length ≤ 63 → (∀ n ∈ cells, n.natAbs.log2 ≤ 1048576) → ∃ e', evSs W c ((List.replicate N.length none).set i (some (feedT cells))) = .ok (.rt (.leaf (.bool true))) e') : FnG P w K mg base CX0 (k + 1) f fd [s] (spLawB K) := by
  refine fnG_of (.of F) S (fun vs H Q E h => by obtain ⟨a, ns, rfl, _⟩ := h; rfl) fun cdv B around s1 H vs Q E hr hg h => ?_
  obtain ⟨a, ns, rfl, hS, hl, hbt, q⟩ := h
  have g : GX (cxOf CX0 P w K mg base N "law" (defScope st) f cdv B around s1 H E).nox W N (defScope st) [] [] false := gx_of t S rfl rfl rfl rfl rfl rfl rfl rfl rfl hr hg (fun _ => rfl) (fun _ h => (nomatch h))
  have hrest := okSs c g rest hc
  obtain ⟨d1, d2⟩ := nmOk_d hd
  have hgl : Gl (cxOf CX0 P w K mg base N "law" (defScope st) f cdv B around s1 H E).nox fe := by
    unfold gloB at hfe
    split at hfe
    · assumption
    · cases hfe
  have hvar : PE (cxOf CX0 P w K mg base N "law" (defScope st) f cdv B around s1 H E).nox (.Name s p3) (tVar 0) := pe_var h0 (visB_vis hs) d1 d2
  have hcall := pe_callG (X := (cxOf CX0 P w K mg base N "law" (defScope st) f cdv B around s1 H E).nox) (pos := p4) (p := p2) G hr hg hgl hmg hkp hbi .nil pass0 (pa_cons hvar pa_nil) (nmOk_d hfd).1 rfl rfl
  have hset := ps_set (X := (cxOf CX0 P w K mg base N "law" (defScope st) f cdv B around s1 H E).nox) (pos := p5) (pos' := p1) S.nd hi hy hcall rfl (.inl rfl)
  rw [hb]
  refine ⟨_, PSs.nox (pss_cons hset hrest), ?_⟩
  have hps : 1 ≤ N.length := by
    have := (List.getElem?_eq_some_iff.mp h0).1
    omega
  have hst : (L2.start N [V.ref a])[0]? = some (some (.ref a)) := rfl
  refine ⟨.ref a, hst, a, ns, rfl, hS, hl, fun H' p cc hpc hp hcc => ?_⟩
  obtain ⟨e', he⟩ := hrun ns hl fun n hn => bits_log (hbt n hn)
  have hlen : (L2.start N [V.ref a]).length = N.length := by
    unfold L2.start
    simp
    omega
  have s0 : SR K [] (L2.start N [V.ref a]) H' (List.replicate N.length none) (fun b => b = cc) [] := by
    refine ⟨by rw [← hlen]; exact re_none _, .nil, fun _ h => (nomatch h), fun b z => ?_, fun _ h => (nomatch h)⟩
    subst z
    rw [hcc]
    exact fun z => nomatch z
  have ow : Own K (fun b => b = cc) H' [] (.ref p) (feedT ns) [p] := by
    refine ⟨.lst hp (.cons (f := []) (.leaf (.lst rfl hcc (rds_ints ns))) (.cons (f := []) (.leaf (.int 0)) (.cons (f := []) (.leaf (.int 0)) (.cons (f := []) (.leaf (.int 0)) .nil)))), by simp, fun b hb => ?_⟩
    simp at hb
    subst hb
    exact hpc
  have hilt : i < N.length := (List.getElem?_eq_some_iff.mp hi).1
  obtain ⟨F1, s2, _⟩ := s0.set (i := i) (by simpa using hilt) (fun _ h => (nomatch h)) ow
  exact ⟨_, _, F1, s2, _, e', he, fun v σ' H2 J' F' fp s' o' tr => by
    obtain ⟨rfl, _⟩ := own_bool o'
    exact q H2⟩
end
theorem walkGB {l : PySem.W.OpenLaw} {n k : Nat} {q : Program} {loose : List Str} {XP : (Str → Option Value) → Heap → Prop} {YP : World → Heap → Prop} {d : DefRec} {K : Params → PySem.W.Frag} {sp : World → Sp} {x : Str}
    (most : l.most = some n) (few : n ≤ sizeLine) (nodef : d.params.defaults = []) (room : Room k callerA)
    (inK : ∀ (w : World) (h : Heap), YP w h → (K w.params).In h)
    (F : ∀ (w : World) (mg : Str → Option Value) (fa : Addr) (h : Heap), (K w.params).In h → h.Ns mainGlobals mg → mg d.name = some (.ref fa) →
      ∃ fd : FuncData, (∀ (s : Shared) (u : Value), BindsTo s fd ⟨[u], []⟩ [(x, u)]) ∧
        ∀ base : Heap, (K w.params).In base → base.Ns mainGlobals mg → FnG l.prog w (K w.params) mg base CX0 k fa fd [x] (sp w))
    (want : ∀ (w : World) (H : Hp) (a : Addr) (ns : List Int), ns.length ≤ n → (∀ k ∈ ns, Builtin.Int.intBits k ≤ 1048576) → SqL (K w.params) H a (ns.map V.int) → sp w [.ref a] H (fun v _ => v = .bl true) fun _ _ _ => False) :
    PySem.W.WalkO q loose XP YP l.row.toRowW d [] (fun f vs => PySem.call f vs) := by
  refine Att.attach_callB most nodef ?_
  intro w s₀ s mg nb fa o pm cd doc a us ns Gd Y ho hd hcd hmg hobj hints hlen hbits hgen
  have KX := inK w _ Y
  obtain ⟨fd, bd, hF⟩ := F w mg fa _ KX Gd.T.g hmg
  exact lawG_call KX Gd.T.g Gd.T.b Gd.T.builtins Gd.T.nolimit hgen hobj hints (Nat.le_trans hlen few) room hF bd fun H hS => want w H a ns hlen hbits hS
end IL

namespace IL
open PySem PySem.Spec PyProof.Rows L2
/-- a method of two parameters, a text the second's default -/
theorem bind_one {K : PySem.W.Frag} {x qual : Str} {params : Arguments} {body : List Stmt} {scope : Scope} {oc : Value} {od : Option Addr} {T : Addr} {kV doc pm : Value} {an : Option Addr} {cdv ct : Value} {osl : Array (Option Value)} {f : Addr} {z : Str} {t : Tok} {Td : Option Addr} {Tn : Nat} {Ts : Array (Option Value)} {p1 p2 : Str}
    (l : K.lookup f = some ⟨oc, od, .func (PySem.W.fnOf x qual params body scope (.ref T) kV doc pm an cdv ct), osl⟩) (lT : K.lookup T = some ⟨.type "tuple", Td, .seq ([.str z t] : List Value).toArray Tn, Ts⟩) (hc : PySem.W.codeIn K cdv qual = true) (hk : PySem.W.keepIn K (.ref f) = true)
    (h1 : ∀ (T : Addr) (kV doc pm : Value) (an : Option Addr) (cdv ct : Value) (us its : List Value), us.length = 1 → its.length = 1 →
      ∃ k, bindArgs (PySem.W.fnOf x qual params body scope (.ref T) kV doc pm an cdv ct) ⟨us, []⟩ = seqItems? (.ref T) >>= k ∧ k (some its.toArray) = pure ([p1, p2].zip (us ++ its.drop 0)))
    (h2 : ∀ (T : Addr) (kV doc pm : Value) (an : Option Addr) (cdv ct : Value) (us its : List Value), us.length = 2 → its.length = 1 →
      ∃ k, bindArgs (PySem.W.fnOf x qual params body scope (.ref T) kV doc pm an cdv ct) ⟨us, []⟩ = seqItems? (.ref T) >>= k ∧ k (some its.toArray) = pure ([p1, p2].zip (us ++ its.drop 1))) :
    ∀ n, ∃ (ds : List Value) (dvs : List V), Binds K (PySem.W.fnOf x qual params body scope (.ref T) kV doc pm an cdv ct) [p1, p2] ds ∧ Vals dvs ds ∧ ∀ J H, RDs K J H dvs (if n = 0 then [.str z] else []) := by
  have F : FunD K x qual params body scope [V.str z] [] f (PySem.W.fnOf x qual params body scope (.ref T) kV doc pm an cdv ct) :=
    ⟨⟨oc, od, _, kV, doc, pm, an, cdv, ct, osl, rfl, l, hc, .inr ⟨by simp, T, _, [.str z t], Tn, rfl, lT, rfl, .cons ⟨t, rfl⟩ .nil⟩, .inl rfl⟩, hk⟩
  intro n
  by_cases hn : n = 0
  · rw [if_pos hn]
    obtain ⟨ds, v, b⟩ := F.binds1 (ps := [p1, p2]) 1 0 (by simp) rfl h1
    exact ⟨ds, _, b, v, fun _ _ => .cons (.str z) .nil⟩
  · rw [if_neg hn]
    obtain ⟨ds, v, b⟩ := F.binds1 (ps := [p1, p2]) 2 1 (by simp) rfl h2
    exact ⟨ds, _, b, v, fun _ _ => .nil⟩
end IL

namespace IL
open PySem PySem.Spec PyProof.Rows L2
/-! ### how a run is reckoned -/
/-- a def that turns nothing of what it is handed -/
def pureF (np : Nat) (g : List D → Option D) : FSem := fun ts => match leaves ts with
  | some ds => (match g ds with
    | some d => some (.leaf d, List.replicate np none)
    | none => none)
  | none => none
theorem leaves_eq : ∀ {ts : List T} {ds : List D}, leaves ts = some ds → ts = ds.map T.leaf
  | [], _, h => by cases h; rfl
  | t :: ts, ds, h => by
    cases t with
    | leaf d =>
      unfold leaves at h
      split at h
      · rename_i ds' h'
        cases h
        rw [leaves_eq h']
        rfl
      · cases h
    | lst _ => cases h
    | tup _ => cases h
    | dct _ => cases h
    | obj _ _ => cases h
theorem maskN_nil : ∀ (e : List (Option T)) (k : Nat), maskN [] k e = List.replicate e.length none
  | [], _ => rfl
  | o :: r, k => by simp [maskN, maskN_nil r, List.replicate_succ]
def tell (m : M Fl) (e : En) : Option T := match m e with
  | .ok (.rt t) _ => some t
  | .ok .nx _ => some (.leaf .none)
  | _ => none
theorem pure_ok {nN np : Nat} {g : List D → Option D} {m : M Fl}
    (h : ∀ ds d, ds.length = np → g ds = some d → tell m (ds.map (fun d => some (T.leaf d)) ++ List.replicate (nN - np) none) = some (.leaf d)) :
    ∀ ts r, ts.length = np → pureF np g ts = some r → runM nN np [] m ts = some r := by
  intro ts r hl hp
  unfold pureF at hp
  split at hp
  · rename_i ds hds
    have e := leaves_eq hds
    subst e
    split at hp
    · rename_i d hd
      cases hp
      have he := h ds d (by simpa using hl) hd
      have e2 : (ds.map T.leaf).map some = ds.map (fun d => some (T.leaf d)) := by simp
      unfold runM runF
      rw [e2]
      unfold tell at he
      split at he
      · rename_i t e' h'
        cases he
        try rw [h']
        simp [maskN_nil]
      · rename_i e' h'
        cases he
        try rw [h']
        simp [maskN_nil]
      · cases he
    · cases hp
  · cases hp
/-- the same where an own list comes back, given up -/
theorem call_ret {F : FSem} {L : List Nat} {ls : List (Option Nat)} {fa : M (List T)} {e e1 : En} {ts : List T} {t : T} {outs : List (Option T)} (h1 : fa e = .ok ts e1) (h2 : F ts = some (t, outs)) : gCallF F L ls fa e = .ok t (putBack ls (maskN L 0 outs) e1) := by
  unfold gCallF bnd
  rw [h1]
  simp only [h2]
@[simp] theorem putBack_none (n m : Nat) : ∀ (e : En), putBack (List.replicate n none) (List.replicate m none) e = e := by
  induction n generalizing m with
  | zero => intro e; cases m <;> rfl
  | succ n ih =>
    intro e
    cases m with
    | zero => rfl
    | succ m => exact ih m e
def fr (a b : Int) : D := .tuple [.int a, .int b]
def fq (r : Rat) : D := fr r.num r.den
def lim (k : Nat) (i : Int) : Prop := i.natAbs < 2 ^ k
instance (k : Nat) (i : Int) : Decidable (lim k i) := inferInstanceAs (Decidable (_ < _))
theorem mulOk_lim {k l : Nat} {a b : Int} (ha : lim k a) (hb : lim l b) (h : k + l < 900000) : mulOk a b = true := by
  have h1 := wide_mul (a := k + 1) (b := l + 1) (Nat.lt_of_lt_of_le ha (Nat.pow_le_pow_right (by decide) (by omega))) (Nat.lt_of_lt_of_le hb (Nat.pow_le_pow_right (by decide) (by omega))) (by omega) (by omega) (by omega)
  have h2 : a.natAbs.log2 + b.natAbs.log2 < 1000000 := h1
  exact decide_eq_true (show a.natAbs.log2 + b.natAbs.log2 < 4000000 by omega)
theorem divOk_lim {k : Nat} {a b : Int} (h0 : b ≠ 0) (hb : lim k b) (h : k < 8000) : divOk a b = true := by
  refine decide_eq_true ⟨h0, ?_⟩
  by_cases hb0 : b.natAbs = 0
  · rw [hb0]; decide
  · exact (Nat.log2_lt hb0).mpr (Nat.lt_of_lt_of_le hb (Nat.pow_le_pow_right (by decide) (by omega)))
theorem lim_mul {k l : Nat} {a b : Int} (ha : lim k a) (hb : lim l b) : lim (k + l) (a * b) := by
  unfold lim at *
  rw [Int.natAbs_mul, Nat.pow_add]
  by_cases h0 : b.natAbs = 0
  · rw [h0, Nat.mul_zero]
    exact Nat.mul_pos (Nat.pow_pos (by decide)) (Nat.pow_pos (by decide))
  · exact Nat.mul_lt_mul'' ha hb
theorem lim_add {k : Nat} {a b : Int} (ha : lim k a) (hb : lim k b) : lim (k + 1) (a + b) := by
  unfold lim at *
  rw [Nat.pow_succ]
  have := Int.natAbs_add_le a b
  omega
theorem lim_sub {k : Nat} {a b : Int} (ha : lim k a) (hb : lim k b) : lim (k + 1) (a - b) := by
  unfold lim at *
  rw [Nat.pow_succ]
  have := Int.natAbs_sub_le a b
  omega
theorem lim_mono {k l : Nat} {a : Int} (ha : lim k a) (h : k ≤ l) : lim l a := Nat.lt_of_lt_of_le ha (Nat.pow_le_pow_right (by decide) h)

/-! ### the greatest common divisor, by rests -/
def swapBody : M Fl := gSeq (gPar 0 1 (consM (lf (gVar 1)) (consM (gBin modD (fz (lf (gVar 0))) (fz (lf (gVar 1)))) (ret [])))) (ret .nx)
theorem fmod_nat (x y : Nat) : (x : Int).fmod (y : Int) = ((x % y : Nat) : Int) := by
  rw [Int.fmod_eq_emod_of_nonneg _ (by omega)]
  rfl
theorem swap_step (x y : Nat) (hy : y ≠ 0) (rest : En) : swapBody (some (.leaf (.int x)) :: some (.leaf (.int y)) :: rest) = .ok .nx (some (.leaf (.int y)) :: some (.leaf (.int ((x % y : Nat) : Int))) :: rest) := by
  have h : decide ((y : Int) ≠ 0) = true := decide_eq_true (by omega)
  simp only [swapBody, gSeq, gPar, consM, lf, fz, gVar, gBin, modD, int2, bnd, ret, opt, List.getElem?_cons_zero, List.getElem?_cons_succ, List.set_cons_zero, List.set_cons_succ, frz, store, List.length_cons, h, if_true, fmod_nat]
  simp [ret]
theorem gcd_loop (cnd : M Bool) (hc : ∀ (x y : Nat) (rest : En), cnd (some (.leaf (.int x)) :: some (.leaf (.int y)) :: rest) = .ok (decide (y ≠ 0)) (some (.leaf (.int x)) :: some (.leaf (.int y)) :: rest)) :
    ∀ (k : Nat) (x y n : Nat) (rest : En), y < 2 ^ k → 2 * k + 1 ≤ n → gWhile n cnd swapBody (some (.leaf (.int x)) :: some (.leaf (.int y)) :: rest) = .ok .nx (some (.leaf (.int (Nat.gcd x y : Nat))) :: some (.leaf (.int 0)) :: rest) := by
  have stop : ∀ (x n : Nat) (rest : En), 1 ≤ n → gWhile n cnd swapBody (some (.leaf (.int x)) :: some (.leaf (.int ((0 : Nat) : Int))) :: rest) = .ok .nx (some (.leaf (.int (Nat.gcd x 0 : Nat))) :: some (.leaf (.int 0)) :: rest) := by
    intro x n rest hn
    obtain ⟨m, rfl⟩ : ∃ m, n = m + 1 := ⟨n - 1, by omega⟩
    unfold gWhile bnd
    rw [hc]
    simp [ret]
  have go : ∀ (x y n : Nat) (rest : En), y ≠ 0 → gWhile (n + 1) cnd swapBody (some (.leaf (.int x)) :: some (.leaf (.int y)) :: rest) = gWhile n cnd swapBody (some (.leaf (.int y)) :: some (.leaf (.int ((x % y : Nat) : Int))) :: rest) := by
    intro x y n rest hy
    conv => lhs; unfold gWhile bnd
    rw [hc]
    have : decide (y ≠ 0) = true := decide_eq_true hy
    simp only [this, if_true, bnd]
    rw [swap_step x y hy]
  intro k
  induction k with
  | zero =>
    intro x y n rest hy hn
    have : y = 0 := by simpa using hy
    subst this
    exact stop x n rest (by omega)
  | succ k ih =>
    intro x y n rest hy hn
    by_cases h0 : y = 0
    · subst h0
      exact stop x n rest (by omega)
    · obtain ⟨m, rfl⟩ : ∃ m, n = m + 1 + 1 := ⟨n - 2, by omega⟩
      rw [go x y (m + 1) rest h0]
      have hlt : x % y < y := Nat.mod_lt _ (by omega)
      by_cases h1 : x % y = 0
      · rw [h1, stop y (m + 1) rest (by omega)]
        rw [Nat.gcd_comm x y, Nat.gcd_rec y x, h1, Nat.gcd_comm 0 y]
      · rw [go y (x % y) m rest h1]
        have hlt2 : y % (x % y) < x % y := Nat.mod_lt _ (by omega)
        have hd : y % (x % y) + (x % y) ≤ y := by
          have := Nat.div_add_mod y (x % y)
          have h2 : 1 ≤ y / (x % y) := (Nat.one_le_div_iff (by omega)).mpr (by omega)
          have h3 : x % y * 1 ≤ x % y * (y / (x % y)) := Nat.mul_le_mul_left _ h2
          omega
        have hp : y % (x % y) < 2 ^ k := by rw [Nat.pow_succ] at hy; omega
        rw [ih (x % y) (y % (x % y)) m rest hp (by omega)]
        rw [Nat.gcd_comm x y, Nat.gcd_rec y x, Nat.gcd_comm (x % y) y, Nat.gcd_comm y (x % y), Nat.gcd_rec (x % y) y]
        rw [Nat.gcd_comm]

/-! ### the reckoning's rows -/
section
variable {α β : Type} {e e1 : En} {W : Wd}
@[simp] theorem ap_ret (a : α) : (IL.ret a : M α) e = .ok a e := rfl
@[simp] theorem ap_bad : (IL.bad : M α) e = .bad := rfl
@[simp] theorem ap_bnd (f : M α) (g : α → M β) : bnd f g e = match f e with
  | .ok a e' => g a e'
  | .bad => .bad
  | .exc x e' => .exc x e' := rfl
@[simp] theorem ap_optS (a : α) : opt (some a) e = .ok a e := rfl
@[simp] theorem ap_optN : opt (none : Option α) e = .bad := rfl
@[simp] theorem ap_lf (f : M D) : lf f = bnd f fun d => IL.ret (.leaf d) := rfl
@[simp] theorem ap_fz (f : M T) : fz f = bnd f fun t => IL.ret (frz t) := rfl
@[simp] theorem ap_fzs (f : M (List T)) : fzs f = bnd f fun t => IL.ret (frzs t) := rfl
@[simp] theorem frz_leaf (d : D) : frz (.leaf d) = d := by simp [frz]
@[simp] theorem frz_lst (ts : List T) : frz (.lst ts) = .list (ts.map frz) := by simp [frz, frzs_map]
@[simp] theorem frz_tup (ts : List T) : frz (.tup ts) = .tuple (ts.map frz) := by simp [frz, frzs_map]
@[simp] theorem frzs_eq (ts : List T) : frzs ts = ts.map frz := frzs_map ts
@[simp] theorem ap_var (i : Nat) : gVar i e = match e[i]? with
  | some (some t) => .ok (frz t) (e.set i (some (.leaf (frz t))))
  | _ => .bad := rfl
@[simp] theorem ap_held (i : Nat) : held i e = match e[i]? with
  | some (some _) => .ok () e
  | _ => .bad := rfl
@[simp] theorem ap_peek (i : Nat) (g : T → Option α) : peek i g e = match e[i]? with
  | some (some t) => opt (g t) e
  | _ => .bad := rfl
@[simp] theorem ap_store (i : Nat) (t : T) : store i t e = if i < e.length then .ok () (e.set i (some t)) else .bad := rfl
@[simp] theorem ap_take (i : Nat) : gTake i e = match e[i]? with
  | some (some t) => .ok t (e.set i none)
  | _ => .bad := rfl
@[simp] theorem ap_consM (f : M T) (g : M (List T)) : consM f g = bnd f fun t => bnd g fun ts => IL.ret (t :: ts) := rfl
@[simp] theorem ap_consL (i : Nat) (g : M (List T)) : consL i g = bnd (held i) fun _ => bnd g fun ts => bnd (gTake i) fun t => IL.ret (t :: ts) := rfl
@[simp] theorem ap_bin (g : D → D → Option T) (f h : M D) : gBin g f h = bnd f fun x => bnd h fun y => opt (g x y) := rfl
@[simp] theorem ap_chain (g g' : D → D → Option T) (fa fb fc : M D) : gChain g g' fa fb fc = bnd fa fun x => bnd fb fun y => bnd (opt (g x y)) fun t => bnd (opt (asB t)) fun b => if b then bnd fc fun z => opt (g' y z) else IL.ret (.leaf (.bool false)) := rfl
@[simp] theorem ap_vcmp (g : D → D → Option T) (i : Nat) (fb : M D) : gVcmp g i fb = bnd (held i) fun _ => bnd fb fun y => peek i fun t => onlyB (g (frz t) y) := rfl
@[simp] theorem ap_and (f g : M T) : gAnd f g = bnd f fun t => bnd (opt (asB t)) fun b => if b then g else IL.ret (.leaf (.bool false)) := rfl
@[simp] theorem ap_or (f g : M T) : gOr f g = bnd f fun t => bnd (opt (asB t)) fun b => if b then IL.ret (.leaf (.bool true)) else g := rfl
@[simp] theorem ap_not (f : M T) : gNot f = bnd f fun t => bnd (opt (asB t)) fun b => IL.ret (.leaf (.bool (!b))) := rfl
@[simp] theorem asB_bool (b : Bool) : asB (.leaf (.bool b)) = some b := rfl
@[simp] theorem ap_tst (f : M T) : tst f = bnd f fun t => opt (asB t) := rfl
@[simp] theorem ap_cond (f : M Bool) (g k : M α) : cond f g k = bnd f fun b => if b then g else k := rfl
@[simp] theorem ap_ix (f g : M D) : gIx f g = bnd f fun x => bnd g fun y => opt (ixD x y) := rfl
@[simp] theorem ap_vix (i : Nat) (g : M D) : gVix i g = bnd (held i) fun _ => bnd g fun y => peek i fun t => tIx t y := rfl
@[simp] theorem ap_seq (f g : M Fl) : gSeq f g = bnd f fun fl => match fl with
  | .nx => g
  | .bk => IL.ret .bk
  | .ct => IL.ret .ct
  | .rt t => IL.ret (.rt t) := rfl
@[simp] theorem ap_set (i : Nat) (f : M T) : gSet i f = bnd f fun t => bnd (store i t) fun _ => IL.ret .nx := rfl
@[simp] theorem ap_retS (f : M T) : gRet f = bnd f fun t => IL.ret (.rt t) := rfl
@[simp] theorem ap_exp (f : M T) : gExp f = bnd f fun _ => IL.ret .nx := rfl
@[simp] theorem ap_ifS (c : M Bool) (f g : M Fl) : gIfS c f g = cond c f g := rfl
@[simp] theorem ap_asg (f : M D) (bd : D → M Unit) : gAsg f bd = bnd f fun d => bnd (bd d) fun _ => IL.ret .nx := rfl
@[simp] theorem ap_call (g : List D → Option T) (f : M (List D)) : gCall g f = bnd f fun xs => opt (g xs) := rfl
@[simp] theorem ap_isi (t : Ty) (f : M D) : isiG t f = bnd f fun d => IL.ret (.leaf (.bool (isiB t d))) := rfl
@[simp] theorem ap_tup (f : M (List T)) : gTup f = bnd f fun ts => if ts.length ≤ most then IL.ret (mkTup ts) else IL.bad := rfl
@[simp] theorem ap_lst (f : M (List T)) : gLst f = bnd f fun ts => if ts.length ≤ most then IL.ret (.lst ts) else IL.bad := rfl
@[simp] theorem leaves_nil : leaves [] = some [] := rfl
@[simp] theorem leaves_cons (d : D) (r : List T) : leaves (.leaf d :: r) = match leaves r with
  | some ds => some (d :: ds)
  | none => none := rfl
@[simp] theorem ap_callF (F : FSem) (L : List Nat) (ls : List (Option Nat)) (fa : M (List T)) : gCallF F L ls fa = bnd fa fun ts => fun e => match F ts with
  | some (t, outs) => .ok t (putBack ls (maskN L 0 outs) e)
  | none => .bad := rfl
@[simp] theorem mask_nil (k : Nat) (e : List (Option T)) : maskN [] k e = List.replicate e.length none := maskN_nil e k
@[simp] theorem put_nil (ls : List (Option Nat)) (e : En) : putBack ls [] e = e := by cases ls <;> first | rfl | (rename_i l r; cases l <;> rfl)
@[simp] theorem put_none (ls : List (Option Nat)) (o : Option T) (r : List (Option T)) (e : En) : putBack (none :: ls) (o :: r) e = putBack ls r e := rfl
@[simp] theorem put_some (ls : List (Option Nat)) (i : Nat) (t : T) (r : List (Option T)) (e : En) : putBack (some i :: ls) (some t :: r) e = putBack ls r (match e[i]? with
  | some none => e.set i (some t)
  | _ => e) := rfl
@[simp] theorem most_ok {n : Nat} (h : n ≤ 100000) : n ≤ most := h
theorem ev_int (n : Int) : evC W (.int n) = lf (IL.ret (.int n)) := by simp [evC]
end
end IL

namespace IL
open PySem L2
theorem gcd_pos {a b : Int} (hb : b ≠ 0) : 0 < Int.gcd a b := Int.gcd_pos_of_ne_zero_right a hb
theorem rat_pos {a b : Int} (hb : 0 < b) : fr (a.fdiv (Int.gcd a b : Nat)) (b.fdiv (Int.gcd a b : Nat)) = fq (Rat.divInt a b) := by
  have hg := gcd_pos (a := a) (b := b) (by omega)
  unfold fq
  rw [Rat.num_divInt, Rat.den_divInt, if_neg (by omega), Int.sign_eq_one_of_pos hb, Int.one_mul, Int.gcd_comm b a]
  rw [Int.fdiv_eq_ediv_of_nonneg _ (by omega), Int.fdiv_eq_ediv_of_nonneg _ (by omega)]
  congr 1
  rw [Int.natCast_ediv]
  congr 1
  omega
theorem fdiv_neg_dvd {a d : Int} (hd : d ≠ 0) (h : d ∣ a) : a.fdiv (0 - d) = (-a) / d := by
  obtain ⟨q, rfl⟩ := h
  have e1 : d * q = (0 - d) * (-q) := by rw [Int.zero_sub, Int.neg_mul_neg]
  rw [e1, Int.mul_fdiv_cancel_left _ (by omega)]
  have e2 : -((0 - d) * -q) = d * -q := by rw [Int.zero_sub, Int.neg_mul_neg, Int.mul_neg]
  rw [e2, Int.mul_ediv_cancel_left _ hd]
theorem rat_neg {a b : Int} (hb : b < 0) : fr (a.fdiv (0 - (Int.gcd a b : Nat))) (b.fdiv (0 - (Int.gcd a b : Nat))) = fq (Rat.divInt a b) := by
  have hg := gcd_pos (a := a) (b := b) (by omega)
  unfold fq
  rw [Rat.num_divInt, Rat.den_divInt, if_neg (by omega), Int.sign_eq_neg_one_of_neg hb, Int.gcd_comm b a]
  rw [fdiv_neg_dvd (by omega) (Int.gcd_dvd_left ..), fdiv_neg_dvd (by omega) (Int.gcd_dvd_right ..)]
  rw [Int.neg_one_mul]
  congr 1
  rw [Int.natCast_ediv]
  congr 1
  omega
theorem gcd_abs (a b : Int) : (Nat.gcd (if a < 0 then -a else a).toNat (if b < 0 then -b else b).toNat) = Int.gcd a b := by
  unfold Int.gcd
  congr 1
  · split <;> omega
  · split <;> omega
theorem gcd_lim {k : Nat} {a b : Int} (hb : b ≠ 0) (h : lim k b) : lim k (Int.gcd a b : Nat) := by
  unfold lim at *
  have : Int.gcd a b ≤ b.natAbs := by
    have h1 := Int.gcd_dvd_natAbs_right a b
    exact Nat.le_of_dvd (by omega) h1
  simp
  omega
theorem lim_neg {k : Nat} {a : Int} : lim k (0 - a) ↔ lim k a := by unfold lim; rw [Int.zero_sub, Int.natAbs_neg]
/-! ### the operators' rows -/
@[simp] theorem abs_int (i : Int) : absD [.int i] = some (.leaf (.int (i.natAbs : Int))) := by
  show some (T.leaf (PyData.int (if i < 0 then -i else i))) = _
  congr 3
  split <;> omega
@[simp] theorem add_int (i j : Int) : addD (.int i) (.int j) = some (.leaf (.int (i + j))) := rfl
@[simp] theorem sub_int (i j : Int) : subD (.int i) (.int j) = some (.leaf (.int (i - j))) := rfl
@[simp] theorem mul_int (i j : Int) : mulD (.int i) (.int j) = if mulOk i j = true then some (.leaf (.int (i * j))) else none := by
  unfold mulD orr int2 tupRep
  split <;> simp_all
@[simp] theorem fdv_int (i j : Int) : fdvD (.int i) (.int j) = if divOk i j = true then some (.leaf (.int (i.fdiv j))) else none := rfl
@[simp] theorem mod_int (i j : Int) : modD (.int i) (.int j) = if j ≠ 0 then some (.leaf (.int (i.fmod j))) else none := by
  unfold modD int2
  simp
@[simp] theorem lt_int (i j : Int) : ltD (.int i) (.int j) = some (.leaf (.bool (decide (i < j)))) := rfl
@[simp] theorem le_int (i j : Int) : leD (.int i) (.int j) = some (.leaf (.bool (decide (i ≤ j)))) := rfl
@[simp] theorem gt_int (i j : Int) : gtD (.int i) (.int j) = some (.leaf (.bool (decide (j < i)))) := rfl
@[simp] theorem ge_int (i j : Int) : geD (.int i) (.int j) = some (.leaf (.bool (decide (j ≤ i)))) := rfl
@[simp] theorem eq_int (i j : Int) : eqD (.int i) (.int j) = some (.leaf (.bool (decide (i = j)))) := by
  show some (T.leaf (PyData.bool (i == j))) = _
  congr 3
@[simp] theorem ne_int (i j : Int) : neD (.int i) (.int j) = some (.leaf (.bool (decide (i ≠ j)))) := by
  show some (T.leaf (PyData.bool (!(i == j)))) = _
  by_cases h : i = j <;> simp [h]
@[simp] theorem pow_int (i j : Int) : powD (.int i) (.int j) = if powOk i j = true then some (.leaf (.int (i ^ j.toNat))) else none := rfl
@[simp] theorem mkTup2 (a b : D) : mkTup [.leaf a, .leaf b] = .leaf (.tuple [a, b]) := rfl
@[simp] theorem mkTup3 (a b c : D) : mkTup [.leaf a, .leaf b, .leaf c] = .leaf (.tuple [a, b, c]) := rfl
@[simp] theorem ix_tup0 (a : D) (r : List D) : ixD (.tuple (a :: r)) (.int 0) = some a := by simp [ixD, L2.atI, ixN]
@[simp] theorem ix_tup1 (a b : D) (r : List D) : ixD (.tuple (a :: b :: r)) (.int 1) = some b := by
  have : (1 : Int) < (r.length : Int) + 1 + 1 := by omega
  simp [ixD, L2.atI, ixN, this]
@[simp] theorem tix_leaf (d y : D) : tIx (.leaf d) y = ixD d y := rfl
theorem leaves_map : ∀ ds : List D, leaves (ds.map T.leaf) = some ds
  | [] => rfl
  | d :: r => by rw [List.map_cons, leaves_cons, leaves_map r]
end IL

namespace IL
open PySem PySem.Spec PyProof.Rows L2
/-! ### what repr may be asked of -/
structure Fine (n b : Nat) (d : D) : Prop where
  lay : d.canLay0 = true
  sho : d.showable = true
  sm : d.leavesShort 1000 = true
  dep : d.depth ≤ n
  blk : d.bulk ≤ b
theorem fine_int {i : Int} (h : lim 900 i) : Fine 0 0 (.int i) := by
  have hl : i.natAbs.log2 < 900 := by
    by_cases h0 : i.natAbs = 0
    · rw [h0]; decide
    · exact (Nat.log2_lt h0).mpr h
  refine ⟨by simp [PyData.canLay0], ?_, ?_, by simp [PyData.depth], by simp [PyData.bulk]⟩
  · simp only [PyData.showable, decide_eq_true_eq]; omega
  · simp only [PyData.leavesShort, decide_eq_true_eq, PyData.shown_int]
    have := int_text_length_le (a := i) (k := 900) (by decide) hl
    have e := PySem.ofString_length (toString i)
    omega
theorem fine_alls {n b : Nat} : ∀ {ds : List D}, (∀ d ∈ ds, Fine n b d) → PyData.canLayAll0 ds = true ∧ PyData.showableAll ds = true ∧ PyData.leavesShortAll 1000 ds = true ∧ PyData.depthAll ds ≤ n ∧ PyData.bulkAll ds ≤ ds.length * (b + 1)
  | [], _ => ⟨by simp [PyData.canLayAll0], by simp [PyData.showableAll], by simp [PyData.leavesShortAll], by simp [PyData.depthAll], by simp [PyData.bulkAll]⟩
  | d :: r, h => by
    obtain ⟨h1, h2, h3, h4, h5⟩ := fine_alls (ds := r) fun x hx => h x (.tail _ hx)
    have z := h d (.head _)
    refine ⟨by simp [PyData.canLayAll0, h1, z.lay], by simp [PyData.showableAll, h2, z.sho], by simp [PyData.leavesShortAll, h3, z.sm], ?_, ?_⟩
    · have := z.dep
      simp only [PyData.depthAll]
      omega
    · have := z.blk
      simp only [PyData.bulkAll, List.length_cons, Nat.add_mul]
      omega
theorem fine_tup {n b m : Nat} {ds : List D} (h : ∀ d ∈ ds, Fine n b d) (hm : ds.length ≤ m) : Fine (n + 1) (m * (b + 1)) (.tuple ds) := by
  obtain ⟨h1, h2, h3, h4, h5⟩ := fine_alls h
  have := Nat.mul_le_mul_right (b + 1) hm
  exact ⟨by simpa [PyData.canLay0] using h1, by simpa [PyData.showable] using h2, by simpa [PyData.leavesShort] using h3, by simp only [PyData.depth]; omega, by simp only [PyData.bulk]; omega⟩
theorem fine_lst {n b m : Nat} {ds : List D} (h : ∀ d ∈ ds, Fine n b d) (hm : ds.length ≤ m) : Fine (n + 1) (m * (b + 1)) (.list ds) := by
  obtain ⟨h1, h2, h3, h4, h5⟩ := fine_alls h
  have := Nat.mul_le_mul_right (b + 1) hm
  exact ⟨by simpa [PyData.canLay0] using h1, by simpa [PyData.showable] using h2, by simpa [PyData.leavesShort] using h3, by simp only [PyData.depth]; omega, by simp only [PyData.bulk]; omega⟩
theorem Fine.mono {n b n' b' : Nat} {d : D} (h : Fine n b d) (h1 : n ≤ n') (h2 : b ≤ b') : Fine n' b' d := ⟨h.lay, h.sho, h.sm, Nat.le_trans h.dep h1, Nat.le_trans h.blk h2⟩
theorem Fine.ok {d : D} (h : Fine 60 16000 d) : reprOk d = true := by
  have h1 := PyData.shown_le_bulk 1000 (by decide) d h.sm
  have h2 := h.blk
  have h3 := h.dep
  have h4 : (1000 + 2) * d.bulk ≤ 1002 * 16000 := Nat.mul_le_mul (by decide) h2
  simp only [reprOk, h.lay, h.sho, Bool.and_true, Bool.true_and, Bool.and_eq_true, decide_eq_true_eq, sizeLine_eq]
  omega
theorem repr_fine {d : D} (h : Fine 60 16000 d) : reprD [d] = some (.leaf (.str d.shown)) := by
  exact if_pos h.ok
@[simp] theorem ne_str_self (a : Str) : neD (.str a) (.str a) = some (.leaf (.bool false)) := by
  simp [neD, eqB, scalEq, bT]
/-! ### fractions within limits -/
def limQ (k : Nat) (r : Rat) : Prop := lim k r.num ∧ lim k (r.den : Int)
instance (k : Nat) (r : Rat) : Decidable (limQ k r) := inferInstanceAs (Decidable (_ ∧ _))
def px (p c : Rat) : D := .tuple [fq p, fq c]
theorem fine_fq {r : Rat} (h : limQ 900 r) : Fine 1 2 (fq r) := fine_tup (n := 0) (b := 0) (m := 2) (by
  intro d hd
  simp only [List.mem_cons, List.not_mem_nil, or_false] at hd
  rcases hd with rfl | rfl
  · exact fine_int h.1
  · exact fine_int h.2) (by simp)
theorem fine_px {p c : Rat} (h : limQ 900 p) (h' : limQ 900 c) : Fine 2 6 (px p c) := fine_tup (n := 1) (b := 2) (m := 2) (by
  intro d hd
  simp only [List.mem_cons, List.not_mem_nil, or_false] at hd
  rcases hd with rfl | rfl
  · exact fine_fq h
  · exact fine_fq h') (by simp)
theorem limQ.mono {k l : Nat} {r : Rat} (h : limQ k r) (hk : k ≤ l) : limQ l r := ⟨lim_mono h.1 hk, lim_mono h.2 hk⟩
theorem limQ_divInt {k : Nat} {a b : Int} (h0 : b ≠ 0) (ha : lim k a) (hb : lim k b) : limQ k (Rat.divInt a b) := by
  unfold limQ
  rw [Rat.num_divInt, Rat.den_divInt, if_neg h0]
  unfold lim at *
  constructor
  · have h1 : (b.sign * a / ((b.gcd a : Nat) : Int)).natAbs ≤ a.natAbs := by
      have e1 := Int.natAbs_ediv_le_natAbs (b.sign * a) ((b.gcd a : Nat) : Int)
      have e2 : (b.sign * a).natAbs = a.natAbs := by
        rw [Int.natAbs_mul, Int.natAbs_sign_of_ne_zero h0, Nat.one_mul]
      omega
    omega
  · have h1 := Nat.div_le_self b.natAbs (b.gcd a)
    rw [Int.natAbs_natCast]
    omega
theorem limQ.add {k l : Nat} {r s : Rat} (h : limQ k r) (h' : limQ l s) : limQ (k + l + 1) (r + s) := by
  have e : r + s = Rat.divInt (r.num * s.den + s.num * r.den) (r.den * s.den) := by
    conv => lhs; rw [← Rat.num_divInt_den r, ← Rat.num_divInt_den s]
    exact Rat.divInt_add_divInt _ _ (by have := r.den_pos; omega) (by have := s.den_pos; omega)
  rw [e]
  have d1 := r.den_pos
  have d2 := s.den_pos
  refine limQ_divInt (Int.mul_ne_zero (by omega) (by omega)) (lim_add (lim_mul h.1 h'.2) ?_) (lim_mono (lim_mul h.2 h'.2) (by omega))
  rw [Nat.add_comm k l]
  exact lim_mul h'.1 h.2
theorem limQ.sub {k l : Nat} {r s : Rat} (h : limQ k r) (h' : limQ l s) : limQ (k + l + 1) (r - s) := by
  rw [Rat.sub_eq_add_neg]
  refine h.add ⟨?_, ?_⟩
  · unfold lim; rw [Rat.neg_num, Int.natAbs_neg]; exact h'.1
  · rw [Rat.neg_den]; exact h'.2
theorem limQ.mul {k l : Nat} {r s : Rat} (h : limQ k r) (h' : limQ l s) : limQ (k + l) (r * s) := by
  have e : r * s = Rat.divInt (r.num * s.num) (r.den * s.den) := by
    conv => lhs; rw [← Rat.num_divInt_den r, ← Rat.num_divInt_den s]
    exact Rat.divInt_mul_divInt _ _
  rw [e]
  have d1 := r.den_pos
  have d2 := s.den_pos
  exact limQ_divInt (Int.mul_ne_zero (by omega) (by omega)) (lim_mul h.1 h'.1) (lim_mul h.2 h'.2)
theorem limQ_one : limQ 1 1 := by decide
theorem limQ_zero : limQ 1 0 := by decide
/-! ### runs -/
theorem run_pure {nN np : Nat} {m : M Fl} {ts : List T} {t : T} (h : tell m (ts.map some ++ List.replicate (nN - np) none) = some t) : runM nN np [] m ts = some (t, List.replicate np none) := by
  unfold tell at h
  unfold runM runF
  split at h
  · rename_i t' e' h'
    cases h
    try rw [h']
    simp [maskN_nil]
  · rename_i e' h'
    cases h
    try rw [h']
    simp [maskN_nil]
  · cases h
theorem gFor_inv {bd : D → M Unit} {b : M Fl} (Inv : Nat → En → Prop) : ∀ (ds : List D) (k : Nat) (e : En), Inv k e → (∀ i d e, ds[i]? = some d → Inv (k + i) e → ∃ e', (bnd (bd d) fun _ => b) e = .ok .nx e' ∧ Inv (k + i + 1) e') → ∃ e', gFor bd b ds e = .ok .nx e' ∧ Inv (k + ds.length) e'
  | [], k, e, h, _ => ⟨e, rfl, h⟩
  | d :: ds, k, e, h, st => by
    obtain ⟨e1, h1, i1⟩ := st 0 d e rfl h
    obtain ⟨e2, h2, i2⟩ := gFor_inv Inv ds (k + 1) e1 i1 fun i d' e' hi hI => by
      have := st (i + 1) d' e' hi (by rw [show k + (i + 1) = k + 1 + i by omega]; exact hI)
      rw [show k + (i + 1) + 1 = k + 1 + i + 1 by omega] at this
      exact this
    refine ⟨e2, ?_, by rw [List.length_cons, show k + (ds.length + 1) = k + 1 + ds.length by omega]; exact i2⟩
    unfold gFor
    unfold bnd at h1 ⊢
    split at h1
    · rename_i a e' h'
      have h3 : b e' = .ok .nx e1 := h1
      simp only [h3, h2]
    · cases h1
    · cases h1
theorem gLc_inv {vs : List Nat} {bd : D → M Unit} {tt : M Bool} {el : M D} (Inv : Nat → List D → En → Prop) : ∀ (ds : List D) (k : Nat) (acc : List D) (e : En), acc.length + ds.length ≤ most → Inv k acc e →
    (∀ i d acc e, ds[i]? = some d → Inv (k + i) acc e → ∃ e' x, (bnd (wipeM vs) fun _ => bnd (bd d) fun _ => bnd tt fun b => if b then el else bad) e = .ok x e' ∧ Inv (k + i + 1) (acc ++ [x]) e') →
    ∃ e' acc', gLc vs bd tt el ds acc e = (bnd (wipeM vs) fun _ => IL.ret (.lst (acc'.map .leaf))) e' ∧ acc'.length = acc.length + ds.length ∧ Inv (k + ds.length) acc' e'
  | [], k, acc, e, hm, h, _ => ⟨e, acc, rfl, rfl, h⟩
  | d :: ds, k, acc, e, hm, h, st => by
    obtain ⟨e1, x, h1, i1⟩ := st 0 d acc e rfl h
    simp only [List.length_cons] at hm
    obtain ⟨e2, acc2, h2, l2, i2⟩ := gLc_inv Inv ds (k + 1) (acc ++ [x]) e1 (by simp; omega) i1 fun i d' a' e' hi hI => by
      have := st (i + 1) d' a' e' hi (by rw [show k + (i + 1) = k + 1 + i by omega]; exact hI)
      rw [show k + (i + 1) + 1 = k + 1 + i + 1 by omega] at this
      exact this
    refine ⟨e2, acc2, ?_, by simp at l2 ⊢; omega, by rw [List.length_cons, show k + (ds.length + 1) = k + 1 + ds.length by omega]; exact i2⟩
    rw [← h2]
    have hw : wipeM vs e = .ok () (wipeE e vs) := rfl
    conv => lhs; unfold gLc
    simp only [bnd, hw] at h1 ⊢
    cases k1 : bd d (wipeE e vs) with
    | ok a e3 =>
      simp only [k1] at h1 ⊢
      cases k2 : tt e3 with
      | ok t e4 =>
        simp only [k2] at h1 ⊢
        cases t with
        | true =>
          simp only [if_true] at h1 ⊢
          simp only [if_pos (show acc.length < most by omega)]
          simp only [bnd, h1]
        | false => cases h1
      | bad => simp only [k2] at h1; cases h1
      | exc x e4 => simp only [k2] at h1; cases h1
    | bad => simp only [k1] at h1; cases h1
    | exc x e3 => simp only [k1] at h1; cases h1
end IL

namespace IL
open PySem PySem.Spec PyProof.Rows L2
/-! ### plain data of bounded depth and bulk -/
def leafOk : D → Bool
  | .none => true
  | .bool _ => true
  | .int i => decide (lim 400 i)
  | .str s => (PyData.str s).canLay0 && (PyData.str s).showable && (PyData.str s).leavesShort 1000
  | _ => false
/-- plain data: leaves, and tuples and lists, n deep -/
def Lv : Nat → D → Prop
  | 0, d => leafOk d = true
  | n + 1, d => leafOk d = true ∨ ∃ ds, (d = .tuple ds ∨ d = .list ds) ∧ ∀ x ∈ ds, Lv n x
theorem Lv.leaf : ∀ {n : Nat} {d : D}, leafOk d = true → Lv n d
  | 0, _, h => h
  | _ + 1, _, h => .inl h
theorem Lv.mono : ∀ {n n' : Nat} {d : D}, Lv n d → n ≤ n' → Lv n' d
  | 0, _, _, h, _ => .leaf h
  | n + 1, 0, _, _, hn => absurd hn (by omega)
  | n + 1, n' + 1, d, h, hn => by
    rcases h with h | ⟨ds, h1, h3⟩
    · exact .inl h
    · exact .inr ⟨ds, h1, fun x hx => (h3 x hx).mono (by omega)⟩
theorem fine_leaf {d : D} (h : leafOk d = true) : Fine 0 d.bulk d := by
  cases d with
  | none => exact ⟨by simp [PyData.canLay0], by simp [PyData.showable], by simp [PyData.leavesShort], by simp [PyData.depth], by simp [PyData.bulk]⟩
  | bool b => exact ⟨by simp [PyData.canLay0], by simp [PyData.showable], by simp [PyData.leavesShort], by simp [PyData.depth], by simp [PyData.bulk]⟩
  | int i => exact (fine_int (lim_mono (of_decide_eq_true h) (by decide))).mono (by omega) (by omega)
  | str s =>
    simp only [leafOk, Bool.and_eq_true] at h
    exact ⟨h.1.1, h.1.2, h.2, by simp [PyData.depth], Nat.le_refl _⟩
  | list _ => cases h
  | tuple _ => cases h
  | dict _ => cases h
theorem bulk_tup (ds : List D) : (PyData.tuple ds).bulk = PyData.bulkAll ds := by simp only [PyData.bulk]
theorem bulk_lst (ds : List D) : (PyData.list ds).bulk = PyData.bulkAll ds := by simp only [PyData.bulk]
theorem fine_all {n : Nat} : ∀ {ds : List D}, (∀ d ∈ ds, Fine n d.bulk d) → PyData.canLayAll0 ds = true ∧ PyData.showableAll ds = true ∧ PyData.leavesShortAll 1000 ds = true ∧ PyData.depthAll ds ≤ n
  | [], _ => ⟨by simp [PyData.canLayAll0], by simp [PyData.showableAll], by simp [PyData.leavesShortAll], by simp [PyData.depthAll]⟩
  | d :: r, h => by
    obtain ⟨h1, h2, h3, h4⟩ := fine_all (ds := r) fun x hx => h x (.tail _ hx)
    have z := h d (.head _)
    refine ⟨by simp [PyData.canLayAll0, h1, z.lay], by simp [PyData.showableAll, h2, z.sho], by simp [PyData.leavesShortAll, h3, z.sm], ?_⟩
    have := z.dep
    simp only [PyData.depthAll]
    omega
theorem Lv.fine : ∀ {n : Nat} {d : D}, Lv n d → Fine n d.bulk d
  | 0, _, h => (fine_leaf h).mono (by omega) (by omega)
  | n + 1, d, h => by
    rcases h with h | ⟨ds, h1 | h1, h3⟩
    · exact (fine_leaf h).mono (by omega) (by omega)
    · subst h1
      obtain ⟨q1, q2, q3, q4⟩ := fine_all fun x hx => (h3 x hx).fine
      exact ⟨by simpa [PyData.canLay0] using q1, by simpa [PyData.showable] using q2, by simpa [PyData.leavesShort] using q3, by simp only [PyData.depth]; omega, Nat.le_refl _⟩
    · subst h1
      obtain ⟨q1, q2, q3, q4⟩ := fine_all fun x hx => (h3 x hx).fine
      exact ⟨by simpa [PyData.canLay0] using q1, by simpa [PyData.showable] using q2, by simpa [PyData.leavesShort] using q3, by simp only [PyData.depth]; omega, Nat.le_refl _⟩
/-- plain, n deep, of bulk b -/
structure Dt (n b : Nat) (d : D) : Prop where
  lv : Lv n d
  blk : d.bulk ≤ b
theorem Dt.mono {n n' b b' : Nat} {d : D} (h : Dt n b d) (h1 : n ≤ n') (h2 : b ≤ b') : Dt n' b' d := ⟨h.lv.mono h1, Nat.le_trans h.blk h2⟩
theorem Dt.fine {n b : Nat} {d : D} (h : Dt n b d) : Fine n b d := h.lv.fine.mono (Nat.le_refl _) h.blk
theorem bulkAll_append (a b : List D) : PyData.bulkAll (a ++ b) = PyData.bulkAll a + PyData.bulkAll b := by
  induction a with
  | nil => simp [PyData.bulkAll]
  | cons x a ih => simp only [List.cons_append, PyData.bulkAll, ih]; omega
theorem bulkAll_mem {x : D} : ∀ {ds : List D}, x ∈ ds → x.bulk + 1 ≤ PyData.bulkAll ds
  | d :: ds, h => by
    rcases List.mem_cons.mp h with rfl | h
    · simp only [PyData.bulkAll]; omega
    · have := bulkAll_mem h
      simp only [PyData.bulkAll]; omega
theorem bulkAll_len : ∀ ds : List D, ds.length ≤ PyData.bulkAll ds
  | [] => by simp [PyData.bulkAll]
  | d :: ds => by
    have := bulkAll_len ds
    simp only [PyData.bulkAll, List.length_cons]; omega
theorem bulkAll_split (ds : List D) (j : Nat) : PyData.bulkAll (ds.take j) + PyData.bulkAll (ds.drop j) = PyData.bulkAll ds := by
  rw [← bulkAll_append, List.take_append_drop]
theorem bulkAll_at {ds : List D} {j : Nat} {x : D} (h : ds[j]? = some x) : PyData.bulkAll (ds.take j) + (x.bulk + 1) + PyData.bulkAll (ds.drop (j + 1)) = PyData.bulkAll ds := by
  obtain ⟨hj, e⟩ := List.getElem?_eq_some_iff.mp h
  have h1 := bulkAll_split ds j
  rw [List.drop_eq_getElem_cons hj, e] at h1
  simp only [PyData.bulkAll] at h1
  omega
theorem bulkAll_set {x : D} : ∀ (ds : List D) (j : Nat), PyData.bulkAll (ds.set j x) ≤ PyData.bulkAll ds + (x.bulk + 1)
  | [], _ => by simp [PyData.bulkAll]
  | d :: ds, 0 => by simp only [List.set_cons_zero, PyData.bulkAll]; omega
  | d :: ds, j + 1 => by
    have := bulkAll_set (x := x) ds j
    simp only [List.set_cons_succ, PyData.bulkAll]; omega
theorem bulkAll_sub {a b : List D} (h : a.Sublist b) : PyData.bulkAll a ≤ PyData.bulkAll b := by
  induction h with
  | slnil => exact Nat.le_refl _
  | cons a h ih => simp only [PyData.bulkAll]; omega
  | cons_cons a h ih => simp only [PyData.bulkAll]; omega
theorem dt_tup {n b : Nat} {ds : List D} (h : ∀ x ∈ ds, Lv n x) (hb : PyData.bulkAll ds ≤ b) : Dt (n + 1) b (.tuple ds) := ⟨.inr ⟨ds, .inl rfl, h⟩, by rw [bulk_tup]; exact hb⟩
theorem dt_lst {n b : Nat} {ds : List D} (h : ∀ x ∈ ds, Lv n x) (hb : PyData.bulkAll ds ≤ b) : Dt (n + 1) b (.list ds) := ⟨.inr ⟨ds, .inr rfl, h⟩, by rw [bulk_lst]; exact hb⟩
theorem lv_tup {n : Nat} {ds : List D} (h : Lv n (.tuple ds)) : ∃ n', n = n' + 1 ∧ ∀ x ∈ ds, Lv n' x := by
  cases n with
  | zero => cases h
  | succ n =>
    rcases h with h | ⟨es, h1 | h1, h3⟩
    · cases h
    · cases h1; exact ⟨n, rfl, h3⟩
    · cases h1
theorem lv_lst {n : Nat} {ds : List D} (h : Lv n (.list ds)) : ∃ n', n = n' + 1 ∧ ∀ x ∈ ds, Lv n' x := by
  cases n with
  | zero => cases h
  | succ n =>
    rcases h with h | ⟨es, h1 | h1, h3⟩
    · cases h
    · cases h1
    · cases h1; exact ⟨n, rfl, h3⟩
theorem Dt.tup {n b : Nat} {ds : List D} (h : Dt n b (.tuple ds)) : ∃ n', n = n' + 1 ∧ (∀ x ∈ ds, Lv n' x) ∧ PyData.bulkAll ds ≤ b := by
  obtain ⟨n', e, h1⟩ := lv_tup h.lv
  have := h.blk
  rw [bulk_tup] at this
  exact ⟨n', e, h1, this⟩
theorem Dt.item {n b : Nat} {ds : List D} (h : Dt n b (.tuple ds)) {x : D} (hx : x ∈ ds) : Dt n b x := by
  obtain ⟨n', e, h1, h2⟩ := h.tup
  have := bulkAll_mem hx
  exact ⟨(h1 x hx).mono (by omega), by omega⟩
theorem lv_int {n : Nat} {i : Int} (h : Lv n (.int i)) : lim 400 i := by
  cases n with
  | zero => exact of_decide_eq_true h
  | succ n =>
    rcases h with h | ⟨_, h | h, _⟩
    · exact of_decide_eq_true h
    · cases h
    · cases h
theorem Dt.pair {n b : Nat} {x y : Int} (h : Dt n b (.tuple [.int x, .int y])) : lim 400 x ∧ lim 400 y :=
  ⟨lv_int (h.item (x := .int x) (by simp)).lv, lv_int (h.item (x := .int y) (by simp)).lv⟩
abbrev Pd (d : D) : Prop := Dt 40 16000 d
theorem Dt.big {d : D} (h : Pd d) : Fine 60 16000 d := h.fine.mono (by decide) (by decide)
theorem Fine.shaped {d : D} (h : Fine 60 16000 d) : SeqAt.shaped d = true := by
  have := h.dep
  simp only [SeqAt.shaped, h.lay, Bool.true_and, decide_eq_true_eq]
  omega
theorem dt_int {n b : Nat} {i : Int} (h : lim 400 i) : Dt n b (.int i) := ⟨.leaf (decide_eq_true h), by simp [PyData.bulk]⟩
theorem dt_bool {n b : Nat} {k : Bool} : Dt n b (.bool k) := ⟨.leaf rfl, by simp [PyData.bulk]⟩
theorem dt_none {n b : Nat} : Dt n b .none := ⟨.leaf rfl, by simp [PyData.bulk]⟩
theorem dt_str {n b : Nat} {s : Str} (h : leafOk (.str s) = true) (hb : s.cps.size ≤ b) : Dt n b (.str s) := ⟨.leaf h, by simpa [PyData.bulk] using hb⟩
/-- filtered items of a plain tuple are a plain list -/
theorem dt_filter {n b : Nat} {ds : List D} (h : Dt n b (.tuple ds)) (p : D → Bool) : Dt n b (.list (ds.filter p)) := by
  obtain ⟨n', e, h1, h2⟩ := h.tup
  subst e
  exact dt_lst (fun x hx => h1 x (List.mem_filter.mp hx).1) (Nat.le_trans (bulkAll_sub List.filter_sublist) h2)
/-! ### comprehensions with a test, and of a map -/
theorem gLc_filter {vs : List Nat} {bd : D → M Unit} {tt : M Bool} {el : M D} (p : D → Bool) (g : D → D) (Inv : En → Prop) : ∀ (ds : List D) (acc : List D) (e : En), acc.length + ds.length ≤ most → Inv e →
    (∀ d e, d ∈ ds → Inv e → ∃ e1, bd d (wipeE e vs) = .ok () e1 ∧ ∃ e2, tt e1 = .ok (p d) e2 ∧ (p d = true → ∃ e3, el e2 = .ok (g d) e3 ∧ Inv e3) ∧ (p d = false → Inv e2)) →
    ∃ e', gLc vs bd tt el ds acc e = (bnd (wipeM vs) fun _ => IL.ret (.lst ((acc ++ (ds.filter p).map g).map .leaf))) e' ∧ Inv e'
  | [], acc, e, hm, h, _ => ⟨e, by simp [gLc], h⟩
  | d :: ds, acc, e, hm, h, st => by
    obtain ⟨e1, k1, e2, k2, k3, k4⟩ := st d e List.mem_cons_self h
    simp only [List.length_cons] at hm
    have hw : wipeM vs e = .ok () (wipeE e vs) := rfl
    cases hp : p d with
    | true =>
      obtain ⟨e3, k5, k6⟩ := k3 hp
      obtain ⟨e', q1, q2⟩ := gLc_filter p g Inv ds (acc ++ [g d]) e3 (by simp; omega) k6 fun x e hx hi => st x e (List.mem_cons_of_mem _ hx) hi
      refine ⟨e', ?_, q2⟩
      rw [List.filter_cons_of_pos hp, List.map_cons]
      simp only [List.append_assoc, List.singleton_append] at q1
      rw [← q1]
      conv => lhs; unfold gLc
      rw [hp] at k2
      simp only [bnd, hw, k1, k2, if_true, k5]
      rw [if_pos (by omega)]
    | false =>
      obtain ⟨e', q1, q2⟩ := gLc_filter p g Inv ds acc e2 (by omega) (k4 hp) fun x e hx hi => st x e (List.mem_cons_of_mem _ hx) hi
      refine ⟨e', ?_, q2⟩
      rw [List.filter_cons_of_neg (by rw [hp]; exact Bool.false_ne_true), ← q1]
      conv => lhs; unfold gLc
      rw [hp] at k2
      simp only [bnd, hw, k1, k2]
      rfl
end IL

namespace IL
open PySem PySem.Spec PyProof.Rows L2
theorem ev_comp' {W : Wd} {vs : List Nat} {tg : Tg} {it : It2} {t : Co} {el : C} : evC W (.comp vs tg it t el) = bnd (evI W it) fun ds => gLc vs (evTg W tg) (evCond W t) (fz (evC W el)) ds [] := by simp only [evC]
theorem comp_ok {W : Wd} {vs : List Nat} {tg : Tg} {it : It2} {t : Co} {el : C} {e e0 : En} {ds : List D} (p : D → Bool) (g : D → D) (Inv : En → Prop) (hI : evI W it e = .ok ds e0) (h0 : Inv e0) (hm : ds.length ≤ most)
    (st : ∀ d e, d ∈ ds → Inv e → ∃ e1, evTg W tg d (wipeE e vs) = .ok () e1 ∧ ∃ e2, evCond W t e1 = .ok (p d) e2 ∧ (p d = true → ∃ e3, fz (evC W el) e2 = .ok (g d) e3 ∧ Inv e3) ∧ (p d = false → Inv e2)) :
    ∃ e', evC W (.comp vs tg it t el) e = .ok (.lst (((ds.filter p).map g).map .leaf)) (wipeE e' vs) ∧ Inv e' := by
  obtain ⟨e', h1, h2⟩ := gLc_filter (vs := vs) (bd := evTg W tg) (tt := evCond W t) (el := fz (evC W el)) p g Inv ds [] e0 (by simpa using hm) h0 st
  refine ⟨e', ?_, h2⟩
  rw [ev_comp', ap_bnd, hI]
  exact h1
@[simp] theorem ap_itr' (f : M D) : gItr f = bnd f fun d => opt (seqD d) := rfl
@[simp] theorem seq_tup' (ds : List D) : seqD (.tuple ds) = some ds := rfl
@[simp] theorem seq_lst' (ds : List D) : seqD (.list ds) = some ds := rfl
@[simp] theorem filter_true {α : Type} (ds : List α) : ds.filter (fun _ => true) = ds := List.filter_eq_self.mpr fun _ _ => rfl
/-- [f(one) for one in thing] -/
theorem comp2 {W : Wd} {f : Str} {F : FSem} (hf : W.fn f = some ⟨1, [], F⟩) (g : D → D) {ds : List D} (hs : ∀ d ∈ ds, F [.leaf d] = some (.leaf (g d), [none])) (hm : ds.length ≤ most) (y : Option T) :
    evC W (.comp [1] (.nm 1) (.seq (.var 0)) .no (.call f (.val (.var 1) .nil))) [some (.leaf (.tuple ds)), y] = .ok (.lst ((ds.map g).map .leaf)) [some (.leaf (.tuple ds)), none] := by
  obtain ⟨e', h1, y', rfl⟩ := comp_ok (W := W) (vs := [1]) (tg := .nm 1) (it := .seq (.var 0)) (t := .no) (el := .call f (.val (.var 1) .nil)) (e := [some (.leaf (.tuple ds)), y]) (ds := ds) (fun _ => true) g (fun e => ∃ y, e = [some (.leaf (.tuple ds)), y]) (e0 := [some (.leaf (.tuple ds)), y]) (by simp [evI, evC]) ⟨y, rfl⟩ hm (by
    rintro d e hd ⟨y, rfl⟩
    refine ⟨[some (.leaf (.tuple ds)), some (.leaf d)], by simp [evTg, wipeE], _, by simp [evCond]; rfl, fun _ => ⟨[some (.leaf (.tuple ds)), some (.leaf d)], ?_, ⟨_, rfl⟩⟩, fun h => by cases h⟩
    simp [evC, evCs, hf, lens, hs d hd])
  rw [h1]
  simp [wipeE]
theorem bools_map {α : Type} (p : α → Bool) : ∀ ds : List α, boolsD (ds.map fun d => PyData.bool (p d)) = some (ds.map p)
  | [] => rfl
  | d :: ds => by simp [boolsD, bools_map p ds]
theorem all_bools {α : Type} (p : α → Bool) (ds : List α) : allD [.list (ds.map fun d => PyData.bool (p d))] = some (.leaf (.bool (ds.all p))) := by
  simp only [allD, bools_map, Option.map_some]
  congr 3
  simp [List.all_map, Function.comp_def]
/-- a loop over things all of which must pass -/
theorem gFor_all {bd : D → M Unit} {b : M Fl} (p : D → Bool) (Inv : List D → En → Prop) (r : T) : ∀ (ds pre : List D) (e : En), Inv pre e →
    (∀ pre1 d e, d ∈ ds → pre1.length < pre.length + ds.length → Inv pre1 e → ∃ e', (p d = true → (bnd (bd d) fun _ => b) e = .ok .nx e' ∧ Inv (pre1 ++ [d]) e') ∧ (p d = false → (bnd (bd d) fun _ => b) e = .ok (.rt r) e')) →
    ∃ e', (ds.all p = true → gFor bd b ds e = .ok .nx e' ∧ Inv (pre ++ ds) e') ∧ (ds.all p = false → gFor bd b ds e = .ok (.rt r) e')
  | [], pre, e, h, _ => ⟨e, fun _ => ⟨rfl, by simpa using h⟩, fun h => by simp at h⟩
  | d :: ds, pre, e, h, st => by
    obtain ⟨e1, h1, h2⟩ := st pre d e List.mem_cons_self (by simp) h
    cases hp : p d with
    | false =>
      refine ⟨e1, fun h => by simp [hp] at h, fun _ => ?_⟩
      have h3 := h2 hp
      unfold gFor
      unfold bnd at h3 ⊢
      split at h3
      · have q2 : b _ = .ok (.rt r) e1 := h3
        simp only [q2]; rfl
      · cases h3
      · cases h3
    | true =>
      obtain ⟨h3, i3⟩ := h1 hp
      obtain ⟨e2, k1, k2⟩ := gFor_all p Inv r ds (pre ++ [d]) e1 i3 fun pre1 x e hx hl hi => st pre1 x e (List.mem_cons_of_mem _ hx) (by simp at hl ⊢; omega) hi
      have go : ∀ o, gFor bd b ds e1 = o → gFor bd b (d :: ds) e = o := by
        intro o ho
        conv => lhs; unfold gFor
        unfold bnd at h3 ⊢
        split at h3
        · rename_i a e3 q
          have q2 : b e3 = .ok .nx e1 := h3
          simp only [q2, ho]
        · cases h3
        · cases h3
      refine ⟨e2, fun h => ?_, fun h => ?_⟩
      · have := k1 (by simpa [hp] using h)
        exact ⟨go _ this.1, by simpa using this.2⟩
      · exact go _ (k2 (by simpa [hp] using h))
end IL

namespace Fc
open PySem PySem.Spec PyProof.Rows L2 IL
def n__wall : List Str := ["k"]
def c__wall : Ss := (.cons (.whl 4096 (.bl true) (.cons .pass .nil)) .nil)
def n_common_divisor : List Str := ["one", "other"]
def c_common_divisor : Ss := (.cons (.whl 4096 (.cmp .ne (.var 1) (.int 0)) (.cons (.par 0 1 (.own (.var 1) (.own (.bin .mod (.var 0) (.var 1)) .nil))) .nil)) (.cons (.ret (.var 0)) .nil))
def n_ratio : List Str := ["a", "b", "divisor"]
def c_ratio : Ss := (.cons (.set 2 (.call "common_divisor" (.val (.bif .abs (.val (.var 0) .nil)) (.val (.bif .abs (.val (.var 1) .nil)) .nil)))) (.cons (.ifs (.cmp .lt (.var 1) (.int 0))
    (.cons (.set 2 (.bin .sub (.int 0) (.var 2))) .nil)
    .nil) (.cons (.ret (.tup (.own (.bin .fdv (.var 0) (.var 2)) (.own (.bin .fdv (.var 1) (.var 2)) .nil)))) .nil)))
def n_added : List Str := ["one", "other"]
def c_added : Ss := (.cons (.ret (.call "ratio" (.val (.bin .add (.bin .mul (.vix 0 (.int 0)) (.vix 1 (.int 1))) (.bin .mul (.vix 1 (.int 0)) (.vix 0 (.int 1)))) (.val (.bin .mul (.vix 0 (.int 1)) (.vix 1 (.int 1))) .nil)))) .nil)
def n_less : List Str := ["one", "other"]
def c_less : Ss := (.cons (.ret (.call "ratio" (.val (.bin .sub (.bin .mul (.vix 0 (.int 0)) (.vix 1 (.int 1))) (.bin .mul (.vix 1 (.int 0)) (.vix 0 (.int 1)))) (.val (.bin .mul (.vix 0 (.int 1)) (.vix 1 (.int 1))) .nil)))) .nil)
def n_times : List Str := ["one", "other"]
def c_times : Ss := (.cons (.ret (.call "ratio" (.val (.bin .mul (.vix 0 (.int 0)) (.vix 1 (.int 0))) (.val (.bin .mul (.vix 0 (.int 1)) (.vix 1 (.int 1))) .nil)))) .nil)
def n_laid_on : List Str := ["one", "other", "rest"]
def c_laid_on : Ss := (.cons (.set 2 (.call "less" (.val (.glb "WHOLE") (.val (.vix 0 (.int 1)) .nil)))) (.cons (.ret (.tup (.own (.call "added" (.val (.vix 0 (.int 0)) (.val (.call "times" (.val (.var 2) (.val (.vix 1 (.int 0)) .nil))) .nil))) (.own (.call "added" (.val (.vix 0 (.int 1)) (.val (.call "times" (.val (.var 2) (.val (.vix 1 (.int 1)) .nil))) .nil))) .nil)))) .nil))
def n_faded : List Str := ["pixel", "opacity"]
def c_faded : Ss := (.cons (.ret (.tup (.own (.call "times" (.val (.vix 0 (.int 0)) (.val (.var 1) .nil))) (.own (.call "times" (.val (.vix 0 (.int 1)) (.val (.var 1) .nil))) .nil)))) .nil)
def n_has_cell : List Str := ["region", "cell", "x", "y", "left", "top", "right", "bottom"]
def c_has_cell : Ss := (.cons (.asg (.tp (.cons (.nm 2) (.cons (.nm 3) .nil))) (.var 1)) (.cons (.ret (.bif .any (.val (.comp [4, 5, 6, 7] (.tp (.cons (.nm 4) (.cons (.nm 5) (.cons (.nm 6) (.cons (.nm 7) .nil))))) (.seq (.var 0)) .no (.and (.chain .le .lt (.var 4) (.var 2) (.var 6)) (.chain .le .lt (.var 5) (.var 3) (.var 7)))) .nil))) .nil))
def n_rectangle_region : List Str := ["rectangle"]
def c_rectangle_region : Ss := (.cons (.ret (.tup (.own (.var 0) .nil))) .nil)
def n_Boughs___init__ : List Str := ["self", "scene", "node", "name", "parent", "x", "y", "rest", "left", "top"]
def c_Boughs___init__ : Ss := (.cons (.pfld (.var 0) "by_name" (.dlit [])) (.cons (.pfld (.var 0) "beneath" (.ddis [.inr ""] (.own (.lst .nil) .nil))) (.cons (.pfld (.var 0) "corners" (.ddis [.inr ""] (.own (.tup (.own (.int 0) (.own (.int 0) .nil))) .nil))) (.cons (.pfld (.var 0) "chains" (.ddis [.inr ""] (.own (.tup .nil) .nil))) (.cons (.fore (.nm 2) (.seq (.vix 1 (.int 3)))
    (.cons (.asg (.tps (.cons (.nm 3) (.cons (.nm 4) (.cons (.nm 5) (.cons (.nm 6) (.star 7)))))) (.var 2)) (.cons (.asg (.tp (.cons (.nm 8) (.cons (.nm 9) .nil))) (.pth (.ky (.fld (.var 0) "corners") (.var 4)))) (.cons (.pput (.fld (.var 0) "by_name") (.var 3) (.var 2)) (.cons (.pput (.fld (.var 0) "beneath") (.var 3) (.lst .nil)) (.cons (.exp (.ppush (.ky (.fld (.var 0) "beneath") (.var 4)) (.var 3))) (.cons (.pput (.fld (.var 0) "corners") (.var 3) (.tup (.own (.bin .add (.var 8) (.var 5)) (.own (.bin .add (.var 9) (.var 6)) .nil)))) (.cons (.pput (.fld (.var 0) "chains") (.var 3) (.bin .add (.pth (.ky (.fld (.var 0) "chains") (.var 4))) (.tup (.own (.var 3) .nil)))) .nil)))))))) .nil)))))
def n_Boughs_is_out : List Str := ["self", "name", "cell", "clip", "opacity", "hidden", "content", "left", "top"]
def c_Boughs_is_out : Ss := (.cons (.asg (.tp (.cons (.nm 3) (.cons (.nm 4) (.cons (.nm 5) (.cons (.nm 6) .nil))))) (.sl (.dgt (.fld (.var 0) "by_name") (.var 1)) (.so (.int 4)) .no)) (.cons (.ifs (.or (.var 5) (.cmp .eq (.var 4) (.glb "ZERO")))
    (.cons (.ret (.bl true)) .nil)
    .nil) (.cons (.asg (.tp (.cons (.nm 7) (.cons (.nm 8) .nil))) (.dgt (.fld (.var 0) "corners") (.var 1))) (.cons (.ret (.and (.cmp .isnt (.var 3) .non) (.not (.call "has_cell" (.val (.call "rectangle_region" (.val (.var 3) .nil)) (.val (.tup (.own (.bin .sub (.vix 2 (.int 0)) (.var 7)) (.own (.bin .sub (.vix 2 (.int 1)) (.var 8)) .nil))) .nil)))))) .nil))))
def n_Boughs_own_pixel : List Str := ["self", "name", "cell", "content", "left", "top", "x", "y"]
def c_Boughs_own_pixel : Ss := (.cons (.set 3 (.ix (.dgt (.fld (.var 0) "by_name") (.var 1)) (.int 7))) (.cons (.asg (.tp (.cons (.nm 4) (.cons (.nm 5) .nil))) (.dgt (.fld (.var 0) "corners") (.var 1))) (.cons (.par 6 7 (.own (.bin .sub (.vix 2 (.int 0)) (.var 4)) (.own (.bin .sub (.vix 2 (.int 1)) (.var 5)) .nil))) (.cons (.ifs (.or (.cmp .is (.var 3) .non) (.or (.not (.chain .le .lt (.int 0) (.var 7) (.bif .len (.val (.var 3) .nil)))) (.not (.chain .le .lt (.int 0) (.var 6) (.bif .len (.val (.vix 3 (.int 0)) .nil))))))
    (.cons (.ret (.glb "NOTHING")) .nil)
    .nil) (.cons (.ret (.ix (.ix (.vix 3 (.var 7)) (.var 6)) (.int 1))) .nil)))))
def n_Boughs_is_there : List Str := ["self", "name", "cell"]
def c_Boughs_is_there : Ss := (.cons (.exp (.call "_wall" (.val (.int 0) .nil))) .nil)
def n_Boughs_order : List Str := ["self", "name"]
def c_Boughs_order : Ss := (.cons (.exp (.call "_wall" (.val (.int 1) .nil))) .nil)
def n_screen_rows : List Str := ["scene", "y", "x"]
def c_screen_rows : Ss := (.cons (.ret (.comp [1] (.nm 1) (.rng1 (.val (.vix 0 (.int 1)) .nil)) .no (.comp [2] (.nm 2) (.rng1 (.val (.vix 0 (.int 0)) .nil)) .no (.tup (.own (.var 2) (.own (.var 1) .nil)))))) .nil)
def n_picture_at : List Str := ["boughs", "name", "cell", "found", "one"]
def c_picture_at : Ss := (.cons (.ifs (.meth "Boughs" "is_out" (.var 0) (.val (.var 1) (.val (.var 2) .nil)))
    (.cons (.ret (.glb "NOTHING")) .nil)
    .nil) (.cons (.set 3 (.meth "Boughs" "own_pixel" (.var 0) (.val (.var 1) (.val (.var 2) .nil)))) (.cons (.fore (.nm 4) (.seq (.dgt (.fld (.var 0) "beneath") (.var 1)))
    (.cons (.set 3 (.call "laid_on" (.val (.call "picture_at" (.val (.var 0) (.val (.var 4) (.val (.var 2) .nil)))) (.val (.var 3) .nil)))) .nil)) (.cons (.ret (.call "faded" (.val (.var 3) (.val (.ix (.dgt (.fld (.var 0) "by_name") (.var 1)) (.int 5)) .nil)))) .nil))))
def n_shown_at : List Str := ["scene", "boughs", "cell", "found", "name"]
def c_shown_at : Ss := (.cons (.set 3 (.vix 0 (.int 2))) (.cons (.fore (.nm 4) (.seq (.dgt (.fld (.var 1) "beneath") (.str "")))
    (.cons (.set 3 (.call "laid_on" (.val (.call "picture_at" (.val (.var 1) (.val (.var 4) (.val (.var 2) .nil)))) (.val (.var 3) .nil)))) .nil)) (.cons (.ret (.var 3)) .nil)))
def n_shows : List Str := ["scene", "cell"]
def c_shows : Ss := (.cons (.ret (.call "shown_at" (.val (.var 0) (.val (.make "Boughs" (.val (.var 0) .nil)) (.val (.var 1) .nil))))) .nil)
def n_plain_painting : List Str := ["scene", "boughs", "row", "cell"]
def c_plain_painting : Ss := (.cons (.set 1 (.make "Boughs" (.val (.var 0) .nil))) (.cons (.ret (.bif .tuple (.val (.comp [2] (.nm 2) (.seq (.call "screen_rows" (.val (.var 0) .nil))) .no (.bif .tuple (.val (.comp [3] (.nm 3) (.seq (.var 2)) .no (.call "shown_at" (.val (.var 0) (.val (.var 1) (.val (.var 3) .nil))))) .nil))) .nil))) .nil))
def n__law_draw : List Str := ["feed", "many", "cell", "figure", "mixed"]
def c__law_draw : Ss := (.cons (.asg (.sub 0 (.int 1)) (.bin .add (.vix 0 (.int 1)) (.int 1))) (.cons (.whl 4096 (.and (.cmp .eq (.vix 0 (.int 2)) (.int 0)) (.cmp .lt (.vix 0 (.int 3)) (.bif .len (.val (.vix 0 (.int 0)) .nil)))) (.cons (.set 2 (.bif .abs (.val (.ix (.vix 0 (.int 0)) (.vix 0 (.int 3))) .nil))) (.cons (.asg (.sub 0 (.int 2)) (.bin .mul (.var 2) (.bif .int (.val (.cmp .ge (.var 2) (.bin .pow (.int 10) (.int 18))) .nil)))) (.cons (.asg (.sub 0 (.int 3)) (.bin .add (.vix 0 (.int 3)) (.int 1))) .nil)))) (.cons (.ifs (.cmp .gt (.vix 0 (.int 2)) (.int 0))
    (.cons (.set 3 (.bin .mod (.vix 0 (.int 2)) (.var 1))) (.cons (.asg (.sub 0 (.int 2)) (.bin .fdv (.vix 0 (.int 2)) (.var 1))) (.cons (.ret (.var 3)) .nil)))
    .nil) (.cons (.set 2 (.ite (.cmp .ne (.vix 0 (.int 0)) (.lst .nil)) (.ix (.vix 0 (.int 0)) (.bin .mod (.vix 0 (.int 1)) (.bif .len (.val (.vix 0 (.int 0)) .nil)))) (.int 5))) (.cons (.set 4 (.bin .mod (.bin .pow (.bin .add (.bin .add (.bin .mod (.var 2) (.int 1000003)) (.bin .mul (.bin .mul (.int 613) (.vix 0 (.int 1))) (.bin .add (.vix 0 (.int 1)) (.int 7)))) (.int 17)) (.int 5)) (.int 2147483647))) (.cons (.ret (.bin .mod (.bin .fdv (.bin .mod (.bin .pow (.bin .add (.var 4) (.bin .mul (.int 4099) (.vix 0 (.int 1)))) (.int 5)) (.int 2147483587)) (.int 7)) (.var 1))) .nil))))))
def n__law_frac : List Str := ["top", "bottom", "one", "other"]
def c__law_frac : Ss := (.cons (.asg (.tp (.cons (.nm 0) (.cons (.nm 1) .nil))) (.ite (.cmp .gt (.var 1) (.int 0)) (.tup (.own (.var 0) (.own (.var 1) .nil))) (.tup (.own (.bin .sub (.int 0) (.var 0)) (.own (.bin .sub (.int 0) (.var 1)) .nil))))) (.cons (.par 2 3 (.own (.bif .abs (.val (.var 0) .nil)) (.own (.var 1) .nil))) (.cons (.whl 4096 (.cmp .gt (.var 3) (.int 0)) (.cons (.par 2 3 (.own (.var 3) (.own (.bin .mod (.var 2) (.var 3)) .nil))) .nil)) (.cons (.ret (.tup (.own (.bin .fdv (.var 0) (.var 2)) (.own (.bin .fdv (.var 1) (.var 2)) .nil)))) .nil))))
def n__law_point : List Str := ["feed", "cover"]
def c__law_point : Ss := (.cons (.set 1 (.ix (.lst (.own (.int 0) (.own (.int 16) (.own (.int 16) (.own (.call "_law_draw" (.lend 0 (.val (.int 17) .nil))) .nil))))) (.call "_law_draw" (.lend 0 (.val (.int 4) .nil))))) (.cons (.ret (.tup (.own (.call "_law_frac" (.val (.call "_law_draw" (.lend 0 (.val (.bin .add (.var 1) (.int 1)) .nil))) (.val (.int 16) .nil))) (.own (.call "_law_frac" (.val (.var 1) (.val (.int 16) .nil))) .nil)))) .nil))
def n__law_content : List Str := ["feed", "wide", "tall", "some", "commit", "lines", "y", "line", "x", "own", "k"]
def c__law_content : Ss := (.cons (.set 3 (.comp [10] (.nm 10) (.rng1 (.val (.int 4) .nil)) .no (.call "_law_point" (.lend 0 .nil)))) (.cons (.set 4 (.bin .add (.int 1) (.call "_law_draw" (.lend 0 (.val (.int 9) .nil))))) (.cons (.set 5 (.lst .nil)) (.cons (.fore (.nm 6) (.rng1 (.val (.var 2) .nil))
    (.cons (.set 7 (.lst .nil)) (.cons (.fore (.nm 8) (.rng1 (.val (.var 1) .nil))
    (.cons (.set 9 (.tup (.own (.var 4) (.own (.var 8) (.own (.var 6) .nil))))) (.cons (.ifs (.cmp .eq (.call "_law_draw" (.lend 0 (.val (.int 5) .nil))) (.int 0))
    (.cons (.set 9 (.tup (.own (.call "_law_draw" (.lend 0 (.val (.int 9) .nil))) (.own (.call "_law_draw" (.lend 0 (.val (.int 9) .nil))) (.own (.var 6) .nil))))) .nil)
    .nil) (.cons (.exp (.push 7 (.tup (.own (.var 9) (.own (.vix 3 (.call "_law_draw" (.lend 0 (.val (.int 4) .nil)))) .nil))))) .nil)))) (.cons (.exp (.push 5 (.bif .tuple (.val (.var 7) .nil)))) .nil)))) (.cons (.ret (.bif .tuple (.val (.var 5) .nil))) .nil)))))
def n__law_node : List Str := ["feed", "name", "parent", "wide", "x", "y", "left", "top", "clip", "opacity", "hidden", "content"]
def c__law_node : Ss := (.cons (.par 4 5 (.own (.bin .sub (.call "_law_draw" (.lend 0 (.val (.int 9) .nil))) (.int 3)) (.own (.bin .sub (.call "_law_draw" (.lend 0 (.val (.int 7) .nil))) (.int 3)) .nil))) (.cons (.par 6 7 (.own (.bin .sub (.call "_law_draw" (.lend 0 (.val (.int 5) .nil))) (.int 1)) (.own (.bin .sub (.call "_law_draw" (.lend 0 (.val (.int 5) .nil))) (.int 1)) .nil))) (.cons (.set 8 (.tup (.own (.var 6) (.own (.var 7) (.own (.bin .add (.bin .add (.var 6) (.int 1)) (.call "_law_draw" (.lend 0 (.val (.int 6) .nil)))) (.own (.bin .add (.bin .add (.var 7) (.int 1)) (.call "_law_draw" (.lend 0 (.val (.int 6) .nil)))) .nil)))))) (.cons (.set 8 (.ite (.cmp .eq (.call "_law_draw" (.lend 0 (.val (.int 4) .nil))) (.int 0)) (.var 8) .non)) (.cons (.set 9 (.call "_law_frac" (.val (.ix (.lst (.own (.int 16) (.own (.int 16) (.own (.int 16) (.own (.call "_law_draw" (.lend 0 (.val (.int 17) .nil))) (.own (.int 0) .nil)))))) (.call "_law_draw" (.lend 0 (.val (.int 5) .nil)))) (.val (.int 16) .nil)))) (.cons (.set 10 (.cmp .eq (.call "_law_draw" (.lend 0 (.val (.int 9) .nil))) (.int 0))) (.cons (.set 11 .non) (.cons (.ifs (.cmp .gt (.call "_law_draw" (.lend 0 (.val (.int 6) .nil))) (.int 0))
    (.cons (.set 11 (.call "_law_content" (.lendL 0 (.val (.bin .add (.int 1) (.call "_law_draw" (.lend 0 (.val (.var 3) .nil)))) (.val (.bin .add (.int 1) (.call "_law_draw" (.lend 0 (.val (.var 3) .nil)))) .nil))))) .nil)
    .nil) (.cons (.ret (.tup (.own (.var 1) (.own (.var 2) (.own (.var 4) (.own (.var 5) (.own (.var 8) (.own (.var 9) (.own (.var 10) (.own (.var 11) .nil)))))))))) .nil)))))))))
def n__law_scene : List Str := ["feed", "most", "wide", "pool", "tree", "k", "parent", "back"]
def c__law_scene : Ss := (.cons (.set 3 (.lst (.own (.str "a") (.own (.str "aa") (.own (.str "b") (.own (.str "cy") (.own (.str "root") (.own (.str "zzzzzzzz") .nil)))))))) (.cons (.set 4 (.lst .nil)) (.cons (.fore (.nm 5) (.rng1 (.val (.call "_law_draw" (.lend 0 (.val (.bin .add (.var 1) (.int 1)) .nil))) .nil))
    (.cons (.set 6 (.ite (.and (.cmp .gt (.var 5) (.int 0)) (.cmp .eq (.call "_law_draw" (.lend 0 (.val (.int 2) .nil))) (.int 0))) (.ix (.vix 4 (.call "_law_draw" (.lend 0 (.val (.var 5) .nil)))) (.int 0)) (.str ""))) (.cons (.exp (.push 4 (.call "_law_node" (.lendL 0 (.val (.pop 3 (.call "_law_draw" (.lend 0 (.val (.vlen 3) .nil)))) (.val (.var 6) (.val (.var 2) .nil))))))) .nil))) (.cons (.set 7 (.tup (.own (.call "_law_frac" (.val (.call "_law_draw" (.lend 0 (.val (.int 17) .nil))) (.val (.int 16) .nil))) (.own (.tup (.own (.int 1) (.own (.int 1) .nil))) .nil)))) (.cons (.ret (.tup (.own (.bin .add (.int 1) (.call "_law_draw" (.lend 0 (.val (.int 8) .nil)))) (.own (.bin .add (.int 1) (.call "_law_draw" (.lend 0 (.val (.int 6) .nil)))) (.own (.var 7) (.own (.bif .tuple (.val (.var 4) .nil)) .nil)))))) .nil)))))
def n__law_corners : List Str := ["scene", "spots", "above", "node", "name", "parent"]
def c__law_corners : Ss := (.cons (.par 1 2 (.own (.ddis [.inr ""] (.val (.tup (.own (.int 0) (.own (.int 0) .nil))) .nil)) (.own (.ddis [.inr ""] (.val (.lst .nil) .nil)) .nil))) (.cons (.fore (.nm 3) (.seq (.vix 0 (.int 3)))
    (.cons (.par 4 5 (.own (.vix 3 (.int 0)) (.own (.vix 3 (.int 1)) .nil))) (.cons (.dput 1 (.var 4) (.tup (.own (.bin .add (.ix (.dix 1 (.var 5)) (.int 0)) (.vix 3 (.int 2))) (.own (.bin .add (.ix (.dix 1 (.var 5)) (.int 1)) (.vix 3 (.int 3))) .nil)))) (.cons (.dput 2 (.var 4) (.bin .add (.dix 2 (.var 5)) (.lst (.own (.var 4) .nil)))) .nil)))) (.cons (.ret (.tup (.own (.var 1) (.own (.var 2) .nil)))) .nil)))
def n__law_out : List Str := ["node", "corner_of", "cell", "clip", "left", "top"]
def c__law_out : Ss := (.cons (.set 3 (.vix 0 (.int 4))) (.cons (.par 4 5 (.own (.bin .sub (.vix 2 (.int 0)) (.vix 1 (.int 0))) (.own (.bin .sub (.vix 2 (.int 1)) (.vix 1 (.int 1))) .nil))) (.cons (.ifs (.or (.vix 0 (.int 6)) (.cmp .eq (.ix (.vix 0 (.int 5)) (.int 0)) (.int 0)))
    (.cons (.ret (.bl true)) .nil)
    .nil) (.cons (.ret (.and (.cmp .isnt (.var 3) .non) (.not (.and (.chain .le .lt (.vix 3 (.int 0)) (.var 4) (.vix 3 (.int 2))) (.chain .le .lt (.vix 3 (.int 1)) (.var 5) (.vix 3 (.int 3))))))) .nil))))
def n__law_own : List Str := ["node", "corner_of", "cell", "content", "x", "y", "paint", "cover"]
def c__law_own : Ss := (.cons (.set 3 (.vix 0 (.int 7))) (.cons (.par 4 5 (.own (.bin .sub (.vix 2 (.int 0)) (.vix 1 (.int 0))) (.own (.bin .sub (.vix 2 (.int 1)) (.vix 1 (.int 1))) .nil))) (.cons (.ifs (.or (.cmp .is (.var 3) .non) (.or (.not (.chain .le .lt (.int 0) (.var 5) (.bif .len (.val (.var 3) .nil)))) (.not (.chain .le .lt (.int 0) (.var 4) (.bif .len (.val (.vix 3 (.int 0)) .nil))))))
    (.cons (.ret (.tup (.own (.int 0) (.own (.int 0) .nil)))) .nil)
    .nil) (.cons (.asg (.tp (.cons (.nm 6) (.cons (.nm 7) .nil))) (.ix (.ix (.vix 3 (.var 5)) (.var 4)) (.int 1))) (.cons (.ret (.tup (.own (.bin .fdv (.bin .mul (.vix 6 (.int 0)) (.int 16)) (.vix 6 (.int 1))) (.own (.bin .fdv (.bin .mul (.vix 7 (.int 0)) (.int 16)) (.vix 7 (.int 1))) .nil)))) .nil)))))
def n__law_lay : List Str := ["one", "other", "left"]
def c__law_lay : Ss := (.cons (.set 2 (.bin .sub (.vix 0 (.int 2)) (.vix 0 (.int 1)))) (.cons (.ret (.tup (.own (.bin .add (.bin .mul (.vix 0 (.int 0)) (.vix 1 (.int 2))) (.bin .mul (.var 2) (.vix 1 (.int 0)))) (.own (.bin .add (.bin .mul (.vix 0 (.int 1)) (.vix 1 (.int 2))) (.bin .mul (.var 2) (.vix 1 (.int 1)))) (.own (.bin .mul (.vix 0 (.int 2)) (.vix 1 (.int 2))) .nil))))) .nil))
def n__law_picture : List Str := ["scene", "spots", "at", "cell", "node", "found", "k", "top", "bottom"]
def c__law_picture : Ss := (.cons (.set 4 (.ix (.vix 0 (.int 3)) (.var 2))) (.cons (.ifs (.call "_law_out" (.val (.var 4) (.val (.dix 1 (.vix 4 (.int 0))) (.val (.var 3) .nil))))
    (.cons (.ret (.tup (.own (.int 0) (.own (.int 0) (.own (.int 1) .nil))))) .nil)
    .nil) (.cons (.set 5 (.bin .add (.call "_law_own" (.val (.var 4) (.val (.dix 1 (.vix 4 (.int 0))) (.val (.var 3) .nil)))) (.tup (.own (.int 16) .nil)))) (.cons (.fore (.nm 6) (.rng2 (.val (.bin .add (.var 2) (.int 1)) (.val (.bif .len (.val (.vix 0 (.int 3)) .nil)) .nil)))
    (.cons (.ifs (.cmp .eq (.ix (.ix (.vix 0 (.int 3)) (.var 6)) (.int 1)) (.vix 4 (.int 0)))
    (.cons (.set 5 (.call "_law_lay" (.val (.call "_law_picture" (.val (.var 0) (.val (.var 1) (.val (.var 6) (.val (.var 3) .nil))))) (.val (.var 5) .nil)))) .nil)
    .nil) .nil)) (.cons (.asg (.tp (.cons (.nm 7) (.cons (.nm 8) .nil))) (.vix 4 (.int 5))) (.cons (.ret (.tup (.own (.bin .mul (.vix 5 (.int 0)) (.var 7)) (.own (.bin .mul (.vix 5 (.int 1)) (.var 7)) (.own (.bin .mul (.vix 5 (.int 2)) (.var 8)) .nil))))) .nil))))))
def n__law_told_pixel : List Str := ["one"]
def c__law_told_pixel : Ss := (.cons (.ret (.tup (.own (.call "_law_frac" (.val (.vix 0 (.int 0)) (.val (.vix 0 (.int 2)) .nil))) (.own (.call "_law_frac" (.val (.vix 0 (.int 1)) (.val (.vix 0 (.int 2)) .nil))) .nil)))) .nil)
def n__law_shown : List Str := ["scene", "spots", "cell", "paint", "found", "k"]
def c__law_shown : Ss := (.cons (.set 3 (.ix (.vix 0 (.int 2)) (.int 0))) (.cons (.set 4 (.tup (.own (.vix 3 (.int 0)) (.own (.vix 3 (.int 1)) (.own (.vix 3 (.int 1)) .nil))))) (.cons (.fore (.nm 5) (.rng1 (.val (.bif .len (.val (.vix 0 (.int 3)) .nil)) .nil))
    (.cons (.ifs (.cmp .eq (.ix (.ix (.vix 0 (.int 3)) (.var 5)) (.int 1)) (.str ""))
    (.cons (.set 4 (.call "_law_lay" (.val (.call "_law_picture" (.val (.var 0) (.val (.var 1) (.val (.var 5) (.val (.var 2) .nil))))) (.val (.var 4) .nil)))) .nil)
    .nil) .nil)) (.cons (.ret (.call "_law_told_pixel" (.val (.var 4) .nil))) .nil))))
def n__law_right : List Str := ["scene", "spots", "above", "lines", "y", "cells", "x", "cell"]
def c__law_right : Ss := (.cons (.asg (.tp (.cons (.nm 1) (.cons (.nm 2) .nil))) (.call "_law_corners" (.val (.var 0) .nil))) (.cons (.set 3 (.lst .nil)) (.cons (.fore (.nm 4) (.rng1 (.val (.vix 0 (.int 1)) .nil))
    (.cons (.exp (.push 3 (.bif .tuple (.val (.comp [6] (.nm 6) (.rng1 (.val (.vix 0 (.int 0)) .nil)) .no (.call "_law_shown" (.val (.var 0) (.val (.var 1) (.val (.tup (.own (.var 6) (.own (.var 4) .nil))) .nil))))) .nil)))) .nil)) (.cons (.ifs (.cmp .ne (.bif .repr (.val (.call "plain_painting" (.val (.var 0) .nil)) .nil)) (.bif .repr (.val (.bif .tuple (.val (.var 3) .nil)) .nil)))
    (.cons (.ret (.bl false)) .nil)
    .nil) (.cons (.set 5 (.lst (.own (.tup (.own (.int 0) (.own (.int 0) .nil))) (.own (.tup (.own (.bin .sub (.vix 0 (.int 0)) (.int 1)) (.own (.bin .sub (.vix 0 (.int 1)) (.int 1)) .nil))) (.own (.tup (.own (.bin .fdv (.vix 0 (.int 0)) (.int 2)) (.own (.bin .fdv (.vix 0 (.int 1)) (.int 2)) .nil))) (.own (.tup (.own (.int 0) (.own (.bin .sub (.vix 0 (.int 1)) (.int 1)) .nil))) .nil)))))) (.cons (.ret (.cmp .eq (.comp [7] (.nm 7) (.seq (.var 5)) (.so (.cmp .ne (.bif .repr (.val (.call "shows" (.val (.var 0) (.val (.var 7) .nil))) .nil)) (.bif .repr (.val (.ix (.vix 3 (.vix 7 (.int 1))) (.vix 7 (.int 0))) .nil)))) (.var 7)) (.lst .nil))) .nil))))))
def n_law : List Str := ["script", "feed", "wide", "some", "kept", "scene"]
def c_law : Ss := (.cons (.set 2 (.ite (.cmp .eq (.call "_law_draw" (.lend 1 (.val (.int 8) .nil))) (.int 0)) (.int 8) (.int 5))) (.cons (.set 3 (.lst (.own (.call "_law_scene" (.lend 1 (.val (.int 6) (.val (.var 2) .nil)))) (.own (.call "_law_scene" (.lend 1 (.val (.int 3) (.val (.int 4) .nil)))) .nil)))) (.cons (.set 4 (.bif .repr (.val (.var 3) .nil))) (.cons (.fore (.nm 5) (.seq (.bin .add (.bin .add (.var 3) (.sl (.var 3) .no (.so (.int 1)))) (.lst (.own (.tup (.own (.int 2) (.own (.int 1) (.own (.tup (.own (.tup (.own (.int 5) (.own (.int 16) .nil))) (.own (.tup (.own (.int 1) (.own (.int 1) .nil))) .nil))) (.own (.tup .nil) .nil))))) .nil))))
    (.cons (.ifs (.or (.not (.call "_law_right" (.val (.var 5) .nil))) (.cmp .ne (.bif .repr (.val (.var 3) .nil)) (.var 4)))
    (.cons (.ret (.bl false)) .nil)
    .nil) .nil)) (.cons (.ret (.bl true)) .nil)))))
def dr_s0 : S := (.asg (.sub 0 (.int 1)) (.bin .add (.vix 0 (.int 1)) (.int 1)))
def dr_s1 : S := (.whl 4096 (.and (.cmp .eq (.vix 0 (.int 2)) (.int 0)) (.cmp .lt (.vix 0 (.int 3)) (.bif .len (.val (.vix 0 (.int 0)) .nil)))) (.cons (.set 2 (.bif .abs (.val (.ix (.vix 0 (.int 0)) (.vix 0 (.int 3))) .nil))) (.cons (.asg (.sub 0 (.int 2)) (.bin .mul (.var 2) (.bif .int (.val (.cmp .ge (.var 2) (.bin .pow (.int 10) (.int 18))) .nil)))) (.cons (.asg (.sub 0 (.int 3)) (.bin .add (.vix 0 (.int 3)) (.int 1))) .nil))))
def dr_s2 : S := (.ifs (.cmp .gt (.vix 0 (.int 2)) (.int 0))
    (.cons (.set 3 (.bin .mod (.vix 0 (.int 2)) (.var 1))) (.cons (.asg (.sub 0 (.int 2)) (.bin .fdv (.vix 0 (.int 2)) (.var 1))) (.cons (.ret (.var 3)) .nil)))
    .nil)
def dr_s3 : S := (.set 2 (.ite (.cmp .ne (.vix 0 (.int 0)) (.lst .nil)) (.ix (.vix 0 (.int 0)) (.bin .mod (.vix 0 (.int 1)) (.bif .len (.val (.vix 0 (.int 0)) .nil)))) (.int 5)))
def dr_s4 : S := (.set 4 (.bin .mod (.bin .pow (.bin .add (.bin .add (.bin .mod (.var 2) (.int 1000003)) (.bin .mul (.bin .mul (.int 613) (.vix 0 (.int 1))) (.bin .add (.vix 0 (.int 1)) (.int 7)))) (.int 17)) (.int 5)) (.int 2147483647)))
def dr_s5 : S := (.ret (.bin .mod (.bin .fdv (.bin .mod (.bin .pow (.bin .add (.var 4) (.bin .mul (.int 4099) (.vix 0 (.int 1)))) (.int 5)) (.int 2147483587)) (.int 7)) (.var 1)))
def dr_r6 : Ss := .nil
def dr_r5 : Ss := .cons dr_s5 dr_r6
def dr_r4 : Ss := .cons dr_s4 dr_r5
def dr_r3 : Ss := .cons dr_s3 dr_r4
def dr_r2 : Ss := .cons dr_s2 dr_r3
def dr_r1 : Ss := .cons dr_s1 dr_r2
def dr_r0 : Ss := .cons dr_s0 dr_r1
theorem dr_eq : c__law_draw = dr_r0 := rfl
def fc_s0 : S := (.asg (.tp (.cons (.nm 0) (.cons (.nm 1) .nil))) (.ite (.cmp .gt (.var 1) (.int 0)) (.tup (.own (.var 0) (.own (.var 1) .nil))) (.tup (.own (.bin .sub (.int 0) (.var 0)) (.own (.bin .sub (.int 0) (.var 1)) .nil)))))
def fc_s1 : S := (.par 2 3 (.own (.bif .abs (.val (.var 0) .nil)) (.own (.var 1) .nil)))
def fc_s2 : S := (.whl 4096 (.cmp .gt (.var 3) (.int 0)) (.cons (.par 2 3 (.own (.var 3) (.own (.bin .mod (.var 2) (.var 3)) .nil))) .nil))
def fc_s3 : S := (.ret (.tup (.own (.bin .fdv (.var 0) (.var 2)) (.own (.bin .fdv (.var 1) (.var 2)) .nil))))
def fc_r4 : Ss := .nil
def fc_r3 : Ss := .cons fc_s3 fc_r4
def fc_r2 : Ss := .cons fc_s2 fc_r3
def fc_r1 : Ss := .cons fc_s1 fc_r2
def fc_r0 : Ss := .cons fc_s0 fc_r1
theorem fc_eq : c__law_frac = fc_r0 := rfl
def ct_s0 : S := (.set 3 (.comp [10] (.nm 10) (.rng1 (.val (.int 4) .nil)) .no (.call "_law_point" (.lend 0 .nil))))
def ct_s1 : S := (.set 4 (.bin .add (.int 1) (.call "_law_draw" (.lend 0 (.val (.int 9) .nil)))))
def ct_s2 : S := (.set 5 (.lst .nil))
def ct_s3 : S := (.fore (.nm 6) (.rng1 (.val (.var 2) .nil))
    (.cons (.set 7 (.lst .nil)) (.cons (.fore (.nm 8) (.rng1 (.val (.var 1) .nil))
    (.cons (.set 9 (.tup (.own (.var 4) (.own (.var 8) (.own (.var 6) .nil))))) (.cons (.ifs (.cmp .eq (.call "_law_draw" (.lend 0 (.val (.int 5) .nil))) (.int 0))
    (.cons (.set 9 (.tup (.own (.call "_law_draw" (.lend 0 (.val (.int 9) .nil))) (.own (.call "_law_draw" (.lend 0 (.val (.int 9) .nil))) (.own (.var 6) .nil))))) .nil)
    .nil) (.cons (.exp (.push 7 (.tup (.own (.var 9) (.own (.vix 3 (.call "_law_draw" (.lend 0 (.val (.int 4) .nil)))) .nil))))) .nil)))) (.cons (.exp (.push 5 (.bif .tuple (.val (.var 7) .nil)))) .nil))))
def ct_s4 : S := (.ret (.bif .tuple (.val (.var 5) .nil)))
def ct_r5 : Ss := .nil
def ct_r4 : Ss := .cons ct_s4 ct_r5
def ct_r3 : Ss := .cons ct_s3 ct_r4
def ct_r2 : Ss := .cons ct_s2 ct_r3
def ct_r1 : Ss := .cons ct_s1 ct_r2
def ct_r0 : Ss := .cons ct_s0 ct_r1
def ct_b3_s0 : S := (.set 7 (.lst .nil))
def ct_b3_s1 : S := (.fore (.nm 8) (.rng1 (.val (.var 1) .nil))
    (.cons (.set 9 (.tup (.own (.var 4) (.own (.var 8) (.own (.var 6) .nil))))) (.cons (.ifs (.cmp .eq (.call "_law_draw" (.lend 0 (.val (.int 5) .nil))) (.int 0))
    (.cons (.set 9 (.tup (.own (.call "_law_draw" (.lend 0 (.val (.int 9) .nil))) (.own (.call "_law_draw" (.lend 0 (.val (.int 9) .nil))) (.own (.var 6) .nil))))) .nil)
    .nil) (.cons (.exp (.push 7 (.tup (.own (.var 9) (.own (.vix 3 (.call "_law_draw" (.lend 0 (.val (.int 4) .nil)))) .nil))))) .nil))))
def ct_b3_s2 : S := (.exp (.push 5 (.bif .tuple (.val (.var 7) .nil))))
def ct_b3_r3 : Ss := .nil
def ct_b3_r2 : Ss := .cons ct_b3_s2 ct_b3_r3
def ct_b3_r1 : Ss := .cons ct_b3_s1 ct_b3_r2
def ct_b3_r0 : Ss := .cons ct_b3_s0 ct_b3_r1
def ct_b3_b1_s0 : S := (.set 9 (.tup (.own (.var 4) (.own (.var 8) (.own (.var 6) .nil)))))
def ct_b3_b1_s1 : S := (.ifs (.cmp .eq (.call "_law_draw" (.lend 0 (.val (.int 5) .nil))) (.int 0))
    (.cons (.set 9 (.tup (.own (.call "_law_draw" (.lend 0 (.val (.int 9) .nil))) (.own (.call "_law_draw" (.lend 0 (.val (.int 9) .nil))) (.own (.var 6) .nil))))) .nil)
    .nil)
def ct_b3_b1_s2 : S := (.exp (.push 7 (.tup (.own (.var 9) (.own (.vix 3 (.call "_law_draw" (.lend 0 (.val (.int 4) .nil)))) .nil)))))
def ct_b3_b1_r3 : Ss := .nil
def ct_b3_b1_r2 : Ss := .cons ct_b3_b1_s2 ct_b3_b1_r3
def ct_b3_b1_r1 : Ss := .cons ct_b3_b1_s1 ct_b3_b1_r2
def ct_b3_b1_r0 : Ss := .cons ct_b3_b1_s0 ct_b3_b1_r1
def ct_b3_i1 : It2 := (.rng1 (.val (.var 1) .nil))
theorem ct_b3_s1_eq : ct_b3_s1 = .fore (.nm 8) ct_b3_i1 ct_b3_b1_r0 := rfl
def ct_i3 : It2 := (.rng1 (.val (.var 2) .nil))
theorem ct_s3_eq : ct_s3 = .fore (.nm 6) ct_i3 ct_b3_r0 := rfl
theorem ct_eq : c__law_content = ct_r0 := rfl
def nd_s0 : S := (.par 4 5 (.own (.bin .sub (.call "_law_draw" (.lend 0 (.val (.int 9) .nil))) (.int 3)) (.own (.bin .sub (.call "_law_draw" (.lend 0 (.val (.int 7) .nil))) (.int 3)) .nil)))
def nd_s1 : S := (.par 6 7 (.own (.bin .sub (.call "_law_draw" (.lend 0 (.val (.int 5) .nil))) (.int 1)) (.own (.bin .sub (.call "_law_draw" (.lend 0 (.val (.int 5) .nil))) (.int 1)) .nil)))
def nd_s2 : S := (.set 8 (.tup (.own (.var 6) (.own (.var 7) (.own (.bin .add (.bin .add (.var 6) (.int 1)) (.call "_law_draw" (.lend 0 (.val (.int 6) .nil)))) (.own (.bin .add (.bin .add (.var 7) (.int 1)) (.call "_law_draw" (.lend 0 (.val (.int 6) .nil)))) .nil))))))
def nd_s3 : S := (.set 8 (.ite (.cmp .eq (.call "_law_draw" (.lend 0 (.val (.int 4) .nil))) (.int 0)) (.var 8) .non))
def nd_s4 : S := (.set 9 (.call "_law_frac" (.val (.ix (.lst (.own (.int 16) (.own (.int 16) (.own (.int 16) (.own (.call "_law_draw" (.lend 0 (.val (.int 17) .nil))) (.own (.int 0) .nil)))))) (.call "_law_draw" (.lend 0 (.val (.int 5) .nil)))) (.val (.int 16) .nil))))
def nd_s5 : S := (.set 10 (.cmp .eq (.call "_law_draw" (.lend 0 (.val (.int 9) .nil))) (.int 0)))
def nd_s6 : S := (.set 11 .non)
def nd_s7 : S := (.ifs (.cmp .gt (.call "_law_draw" (.lend 0 (.val (.int 6) .nil))) (.int 0))
    (.cons (.set 11 (.call "_law_content" (.lendL 0 (.val (.bin .add (.int 1) (.call "_law_draw" (.lend 0 (.val (.var 3) .nil)))) (.val (.bin .add (.int 1) (.call "_law_draw" (.lend 0 (.val (.var 3) .nil)))) .nil))))) .nil)
    .nil)
def nd_s8 : S := (.ret (.tup (.own (.var 1) (.own (.var 2) (.own (.var 4) (.own (.var 5) (.own (.var 8) (.own (.var 9) (.own (.var 10) (.own (.var 11) .nil))))))))))
def nd_r9 : Ss := .nil
def nd_r8 : Ss := .cons nd_s8 nd_r9
def nd_r7 : Ss := .cons nd_s7 nd_r8
def nd_r6 : Ss := .cons nd_s6 nd_r7
def nd_r5 : Ss := .cons nd_s5 nd_r6
def nd_r4 : Ss := .cons nd_s4 nd_r5
def nd_r3 : Ss := .cons nd_s3 nd_r4
def nd_r2 : Ss := .cons nd_s2 nd_r3
def nd_r1 : Ss := .cons nd_s1 nd_r2
def nd_r0 : Ss := .cons nd_s0 nd_r1
theorem nd_eq : c__law_node = nd_r0 := rfl
def ls_s0 : S := (.set 3 (.lst (.own (.str "a") (.own (.str "aa") (.own (.str "b") (.own (.str "cy") (.own (.str "root") (.own (.str "zzzzzzzz") .nil))))))))
def ls_s1 : S := (.set 4 (.lst .nil))
def ls_s2 : S := (.fore (.nm 5) (.rng1 (.val (.call "_law_draw" (.lend 0 (.val (.bin .add (.var 1) (.int 1)) .nil))) .nil))
    (.cons (.set 6 (.ite (.and (.cmp .gt (.var 5) (.int 0)) (.cmp .eq (.call "_law_draw" (.lend 0 (.val (.int 2) .nil))) (.int 0))) (.ix (.vix 4 (.call "_law_draw" (.lend 0 (.val (.var 5) .nil)))) (.int 0)) (.str ""))) (.cons (.exp (.push 4 (.call "_law_node" (.lendL 0 (.val (.pop 3 (.call "_law_draw" (.lend 0 (.val (.vlen 3) .nil)))) (.val (.var 6) (.val (.var 2) .nil))))))) .nil)))
def ls_s3 : S := (.set 7 (.tup (.own (.call "_law_frac" (.val (.call "_law_draw" (.lend 0 (.val (.int 17) .nil))) (.val (.int 16) .nil))) (.own (.tup (.own (.int 1) (.own (.int 1) .nil))) .nil))))
def ls_s4 : S := (.ret (.tup (.own (.bin .add (.int 1) (.call "_law_draw" (.lend 0 (.val (.int 8) .nil)))) (.own (.bin .add (.int 1) (.call "_law_draw" (.lend 0 (.val (.int 6) .nil)))) (.own (.var 7) (.own (.bif .tuple (.val (.var 4) .nil)) .nil))))))
def ls_r5 : Ss := .nil
def ls_r4 : Ss := .cons ls_s4 ls_r5
def ls_r3 : Ss := .cons ls_s3 ls_r4
def ls_r2 : Ss := .cons ls_s2 ls_r3
def ls_r1 : Ss := .cons ls_s1 ls_r2
def ls_r0 : Ss := .cons ls_s0 ls_r1
def ls_b2_s0 : S := (.set 6 (.ite (.and (.cmp .gt (.var 5) (.int 0)) (.cmp .eq (.call "_law_draw" (.lend 0 (.val (.int 2) .nil))) (.int 0))) (.ix (.vix 4 (.call "_law_draw" (.lend 0 (.val (.var 5) .nil)))) (.int 0)) (.str "")))
def ls_b2_s1 : S := (.exp (.push 4 (.call "_law_node" (.lendL 0 (.val (.pop 3 (.call "_law_draw" (.lend 0 (.val (.vlen 3) .nil)))) (.val (.var 6) (.val (.var 2) .nil)))))))
def ls_b2_r2 : Ss := .nil
def ls_b2_r1 : Ss := .cons ls_b2_s1 ls_b2_r2
def ls_b2_r0 : Ss := .cons ls_b2_s0 ls_b2_r1
def ls_i2 : It2 := (.rng1 (.val (.call "_law_draw" (.lend 0 (.val (.bin .add (.var 1) (.int 1)) .nil))) .nil))
theorem ls_s2_eq : ls_s2 = .fore (.nm 5) ls_i2 ls_b2_r0 := rfl
theorem ls_eq : c__law_scene = ls_r0 := rfl
def bi_s0 : S := (.pfld (.var 0) "by_name" (.dlit []))
def bi_s1 : S := (.pfld (.var 0) "beneath" (.ddis [.inr ""] (.own (.lst .nil) .nil)))
def bi_s2 : S := (.pfld (.var 0) "corners" (.ddis [.inr ""] (.own (.tup (.own (.int 0) (.own (.int 0) .nil))) .nil)))
def bi_s3 : S := (.pfld (.var 0) "chains" (.ddis [.inr ""] (.own (.tup .nil) .nil)))
def bi_s4 : S := (.fore (.nm 2) (.seq (.vix 1 (.int 3)))
    (.cons (.asg (.tps (.cons (.nm 3) (.cons (.nm 4) (.cons (.nm 5) (.cons (.nm 6) (.star 7)))))) (.var 2)) (.cons (.asg (.tp (.cons (.nm 8) (.cons (.nm 9) .nil))) (.pth (.ky (.fld (.var 0) "corners") (.var 4)))) (.cons (.pput (.fld (.var 0) "by_name") (.var 3) (.var 2)) (.cons (.pput (.fld (.var 0) "beneath") (.var 3) (.lst .nil)) (.cons (.exp (.ppush (.ky (.fld (.var 0) "beneath") (.var 4)) (.var 3))) (.cons (.pput (.fld (.var 0) "corners") (.var 3) (.tup (.own (.bin .add (.var 8) (.var 5)) (.own (.bin .add (.var 9) (.var 6)) .nil)))) (.cons (.pput (.fld (.var 0) "chains") (.var 3) (.bin .add (.pth (.ky (.fld (.var 0) "chains") (.var 4))) (.tup (.own (.var 3) .nil)))) .nil))))))))
def bi_r5 : Ss := .nil
def bi_r4 : Ss := .cons bi_s4 bi_r5
def bi_r3 : Ss := .cons bi_s3 bi_r4
def bi_r2 : Ss := .cons bi_s2 bi_r3
def bi_r1 : Ss := .cons bi_s1 bi_r2
def bi_r0 : Ss := .cons bi_s0 bi_r1
def bi_b4_s0 : S := (.asg (.tps (.cons (.nm 3) (.cons (.nm 4) (.cons (.nm 5) (.cons (.nm 6) (.star 7)))))) (.var 2))
def bi_b4_s1 : S := (.asg (.tp (.cons (.nm 8) (.cons (.nm 9) .nil))) (.pth (.ky (.fld (.var 0) "corners") (.var 4))))
def bi_b4_s2 : S := (.pput (.fld (.var 0) "by_name") (.var 3) (.var 2))
def bi_b4_s3 : S := (.pput (.fld (.var 0) "beneath") (.var 3) (.lst .nil))
def bi_b4_s4 : S := (.exp (.ppush (.ky (.fld (.var 0) "beneath") (.var 4)) (.var 3)))
def bi_b4_s5 : S := (.pput (.fld (.var 0) "corners") (.var 3) (.tup (.own (.bin .add (.var 8) (.var 5)) (.own (.bin .add (.var 9) (.var 6)) .nil))))
def bi_b4_s6 : S := (.pput (.fld (.var 0) "chains") (.var 3) (.bin .add (.pth (.ky (.fld (.var 0) "chains") (.var 4))) (.tup (.own (.var 3) .nil))))
def bi_b4_r7 : Ss := .nil
def bi_b4_r6 : Ss := .cons bi_b4_s6 bi_b4_r7
def bi_b4_r5 : Ss := .cons bi_b4_s5 bi_b4_r6
def bi_b4_r4 : Ss := .cons bi_b4_s4 bi_b4_r5
def bi_b4_r3 : Ss := .cons bi_b4_s3 bi_b4_r4
def bi_b4_r2 : Ss := .cons bi_b4_s2 bi_b4_r3
def bi_b4_r1 : Ss := .cons bi_b4_s1 bi_b4_r2
def bi_b4_r0 : Ss := .cons bi_b4_s0 bi_b4_r1
def bi_i4 : It2 := (.seq (.vix 1 (.int 3)))
theorem bi_s4_eq : bi_s4 = .fore (.nm 2) bi_i4 bi_b4_r0 := rfl
theorem bi_eq : c_Boughs___init__ = bi_r0 := rfl
def bo_s0 : S := (.asg (.tp (.cons (.nm 3) (.cons (.nm 4) (.cons (.nm 5) (.cons (.nm 6) .nil))))) (.sl (.dgt (.fld (.var 0) "by_name") (.var 1)) (.so (.int 4)) .no))
def bo_s1 : S := (.ifs (.or (.var 5) (.cmp .eq (.var 4) (.glb "ZERO")))
    (.cons (.ret (.bl true)) .nil)
    .nil)
def bo_s2 : S := (.asg (.tp (.cons (.nm 7) (.cons (.nm 8) .nil))) (.dgt (.fld (.var 0) "corners") (.var 1)))
def bo_s3 : S := (.ret (.and (.cmp .isnt (.var 3) .non) (.not (.call "has_cell" (.val (.call "rectangle_region" (.val (.var 3) .nil)) (.val (.tup (.own (.bin .sub (.vix 2 (.int 0)) (.var 7)) (.own (.bin .sub (.vix 2 (.int 1)) (.var 8)) .nil))) .nil))))))
def bo_r4 : Ss := .nil
def bo_r3 : Ss := .cons bo_s3 bo_r4
def bo_r2 : Ss := .cons bo_s2 bo_r3
def bo_r1 : Ss := .cons bo_s1 bo_r2
def bo_r0 : Ss := .cons bo_s0 bo_r1
theorem bo_eq : c_Boughs_is_out = bo_r0 := rfl
def bp_s0 : S := (.set 3 (.ix (.dgt (.fld (.var 0) "by_name") (.var 1)) (.int 7)))
def bp_s1 : S := (.asg (.tp (.cons (.nm 4) (.cons (.nm 5) .nil))) (.dgt (.fld (.var 0) "corners") (.var 1)))
def bp_s2 : S := (.par 6 7 (.own (.bin .sub (.vix 2 (.int 0)) (.var 4)) (.own (.bin .sub (.vix 2 (.int 1)) (.var 5)) .nil)))
def bp_s3 : S := (.ifs (.or (.cmp .is (.var 3) .non) (.or (.not (.chain .le .lt (.int 0) (.var 7) (.bif .len (.val (.var 3) .nil)))) (.not (.chain .le .lt (.int 0) (.var 6) (.bif .len (.val (.vix 3 (.int 0)) .nil))))))
    (.cons (.ret (.glb "NOTHING")) .nil)
    .nil)
def bp_s4 : S := (.ret (.ix (.ix (.vix 3 (.var 7)) (.var 6)) (.int 1)))
def bp_r5 : Ss := .nil
def bp_r4 : Ss := .cons bp_s4 bp_r5
def bp_r3 : Ss := .cons bp_s3 bp_r4
def bp_r2 : Ss := .cons bp_s2 bp_r3
def bp_r1 : Ss := .cons bp_s1 bp_r2
def bp_r0 : Ss := .cons bp_s0 bp_r1
theorem bp_eq : c_Boughs_own_pixel = bp_r0 := rfl
def sr_s0 : S := (.ret (.comp [1] (.nm 1) (.rng1 (.val (.vix 0 (.int 1)) .nil)) .no (.comp [2] (.nm 2) (.rng1 (.val (.vix 0 (.int 0)) .nil)) .no (.tup (.own (.var 2) (.own (.var 1) .nil))))))
def sr_r1 : Ss := .nil
def sr_r0 : Ss := .cons sr_s0 sr_r1
theorem sr_eq : c_screen_rows = sr_r0 := rfl
def pa_s0 : S := (.ifs (.meth "Boughs" "is_out" (.var 0) (.val (.var 1) (.val (.var 2) .nil)))
    (.cons (.ret (.glb "NOTHING")) .nil)
    .nil)
def pa_s1 : S := (.set 3 (.meth "Boughs" "own_pixel" (.var 0) (.val (.var 1) (.val (.var 2) .nil))))
def pa_s2 : S := (.fore (.nm 4) (.seq (.dgt (.fld (.var 0) "beneath") (.var 1)))
    (.cons (.set 3 (.call "laid_on" (.val (.call "picture_at" (.val (.var 0) (.val (.var 4) (.val (.var 2) .nil)))) (.val (.var 3) .nil)))) .nil))
def pa_s3 : S := (.ret (.call "faded" (.val (.var 3) (.val (.ix (.dgt (.fld (.var 0) "by_name") (.var 1)) (.int 5)) .nil))))
def pa_r4 : Ss := .nil
def pa_r3 : Ss := .cons pa_s3 pa_r4
def pa_r2 : Ss := .cons pa_s2 pa_r3
def pa_r1 : Ss := .cons pa_s1 pa_r2
def pa_r0 : Ss := .cons pa_s0 pa_r1
def pa_b2_s0 : S := (.set 3 (.call "laid_on" (.val (.call "picture_at" (.val (.var 0) (.val (.var 4) (.val (.var 2) .nil)))) (.val (.var 3) .nil))))
def pa_b2_r1 : Ss := .nil
def pa_b2_r0 : Ss := .cons pa_b2_s0 pa_b2_r1
def pa_i2 : It2 := (.seq (.dgt (.fld (.var 0) "beneath") (.var 1)))
theorem pa_s2_eq : pa_s2 = .fore (.nm 4) pa_i2 pa_b2_r0 := rfl
theorem pa_eq : c_picture_at = pa_r0 := rfl
def sh_s0 : S := (.set 3 (.vix 0 (.int 2)))
def sh_s1 : S := (.fore (.nm 4) (.seq (.dgt (.fld (.var 1) "beneath") (.str "")))
    (.cons (.set 3 (.call "laid_on" (.val (.call "picture_at" (.val (.var 1) (.val (.var 4) (.val (.var 2) .nil)))) (.val (.var 3) .nil)))) .nil))
def sh_s2 : S := (.ret (.var 3))
def sh_r3 : Ss := .nil
def sh_r2 : Ss := .cons sh_s2 sh_r3
def sh_r1 : Ss := .cons sh_s1 sh_r2
def sh_r0 : Ss := .cons sh_s0 sh_r1
def sh_b1_s0 : S := (.set 3 (.call "laid_on" (.val (.call "picture_at" (.val (.var 1) (.val (.var 4) (.val (.var 2) .nil)))) (.val (.var 3) .nil))))
def sh_b1_r1 : Ss := .nil
def sh_b1_r0 : Ss := .cons sh_b1_s0 sh_b1_r1
def sh_i1 : It2 := (.seq (.dgt (.fld (.var 1) "beneath") (.str "")))
theorem sh_s1_eq : sh_s1 = .fore (.nm 4) sh_i1 sh_b1_r0 := rfl
theorem sh_eq : c_shown_at = sh_r0 := rfl
def pp_s0 : S := (.set 1 (.make "Boughs" (.val (.var 0) .nil)))
def pp_s1 : S := (.ret (.bif .tuple (.val (.comp [2] (.nm 2) (.seq (.call "screen_rows" (.val (.var 0) .nil))) .no (.bif .tuple (.val (.comp [3] (.nm 3) (.seq (.var 2)) .no (.call "shown_at" (.val (.var 0) (.val (.var 1) (.val (.var 3) .nil))))) .nil))) .nil)))
def pp_r2 : Ss := .nil
def pp_r1 : Ss := .cons pp_s1 pp_r2
def pp_r0 : Ss := .cons pp_s0 pp_r1
theorem pp_eq : c_plain_painting = pp_r0 := rfl
def lk_s0 : S := (.par 1 2 (.own (.ddis [.inr ""] (.val (.tup (.own (.int 0) (.own (.int 0) .nil))) .nil)) (.own (.ddis [.inr ""] (.val (.lst .nil) .nil)) .nil)))
def lk_s1 : S := (.fore (.nm 3) (.seq (.vix 0 (.int 3)))
    (.cons (.par 4 5 (.own (.vix 3 (.int 0)) (.own (.vix 3 (.int 1)) .nil))) (.cons (.dput 1 (.var 4) (.tup (.own (.bin .add (.ix (.dix 1 (.var 5)) (.int 0)) (.vix 3 (.int 2))) (.own (.bin .add (.ix (.dix 1 (.var 5)) (.int 1)) (.vix 3 (.int 3))) .nil)))) (.cons (.dput 2 (.var 4) (.bin .add (.dix 2 (.var 5)) (.lst (.own (.var 4) .nil)))) .nil))))
def lk_s2 : S := (.ret (.tup (.own (.var 1) (.own (.var 2) .nil))))
def lk_r3 : Ss := .nil
def lk_r2 : Ss := .cons lk_s2 lk_r3
def lk_r1 : Ss := .cons lk_s1 lk_r2
def lk_r0 : Ss := .cons lk_s0 lk_r1
def lk_b1_s0 : S := (.par 4 5 (.own (.vix 3 (.int 0)) (.own (.vix 3 (.int 1)) .nil)))
def lk_b1_s1 : S := (.dput 1 (.var 4) (.tup (.own (.bin .add (.ix (.dix 1 (.var 5)) (.int 0)) (.vix 3 (.int 2))) (.own (.bin .add (.ix (.dix 1 (.var 5)) (.int 1)) (.vix 3 (.int 3))) .nil))))
def lk_b1_s2 : S := (.dput 2 (.var 4) (.bin .add (.dix 2 (.var 5)) (.lst (.own (.var 4) .nil))))
def lk_b1_r3 : Ss := .nil
def lk_b1_r2 : Ss := .cons lk_b1_s2 lk_b1_r3
def lk_b1_r1 : Ss := .cons lk_b1_s1 lk_b1_r2
def lk_b1_r0 : Ss := .cons lk_b1_s0 lk_b1_r1
def lk_i1 : It2 := (.seq (.vix 0 (.int 3)))
theorem lk_s1_eq : lk_s1 = .fore (.nm 3) lk_i1 lk_b1_r0 := rfl
theorem lk_eq : c__law_corners = lk_r0 := rfl
def lo_s0 : S := (.set 3 (.vix 0 (.int 4)))
def lo_s1 : S := (.par 4 5 (.own (.bin .sub (.vix 2 (.int 0)) (.vix 1 (.int 0))) (.own (.bin .sub (.vix 2 (.int 1)) (.vix 1 (.int 1))) .nil)))
def lo_s2 : S := (.ifs (.or (.vix 0 (.int 6)) (.cmp .eq (.ix (.vix 0 (.int 5)) (.int 0)) (.int 0)))
    (.cons (.ret (.bl true)) .nil)
    .nil)
def lo_s3 : S := (.ret (.and (.cmp .isnt (.var 3) .non) (.not (.and (.chain .le .lt (.vix 3 (.int 0)) (.var 4) (.vix 3 (.int 2))) (.chain .le .lt (.vix 3 (.int 1)) (.var 5) (.vix 3 (.int 3)))))))
def lo_r4 : Ss := .nil
def lo_r3 : Ss := .cons lo_s3 lo_r4
def lo_r2 : Ss := .cons lo_s2 lo_r3
def lo_r1 : Ss := .cons lo_s1 lo_r2
def lo_r0 : Ss := .cons lo_s0 lo_r1
theorem lo_eq : c__law_out = lo_r0 := rfl
def lw_s0 : S := (.set 3 (.vix 0 (.int 7)))
def lw_s1 : S := (.par 4 5 (.own (.bin .sub (.vix 2 (.int 0)) (.vix 1 (.int 0))) (.own (.bin .sub (.vix 2 (.int 1)) (.vix 1 (.int 1))) .nil)))
def lw_s2 : S := (.ifs (.or (.cmp .is (.var 3) .non) (.or (.not (.chain .le .lt (.int 0) (.var 5) (.bif .len (.val (.var 3) .nil)))) (.not (.chain .le .lt (.int 0) (.var 4) (.bif .len (.val (.vix 3 (.int 0)) .nil))))))
    (.cons (.ret (.tup (.own (.int 0) (.own (.int 0) .nil)))) .nil)
    .nil)
def lw_s3 : S := (.asg (.tp (.cons (.nm 6) (.cons (.nm 7) .nil))) (.ix (.ix (.vix 3 (.var 5)) (.var 4)) (.int 1)))
def lw_s4 : S := (.ret (.tup (.own (.bin .fdv (.bin .mul (.vix 6 (.int 0)) (.int 16)) (.vix 6 (.int 1))) (.own (.bin .fdv (.bin .mul (.vix 7 (.int 0)) (.int 16)) (.vix 7 (.int 1))) .nil))))
def lw_r5 : Ss := .nil
def lw_r4 : Ss := .cons lw_s4 lw_r5
def lw_r3 : Ss := .cons lw_s3 lw_r4
def lw_r2 : Ss := .cons lw_s2 lw_r3
def lw_r1 : Ss := .cons lw_s1 lw_r2
def lw_r0 : Ss := .cons lw_s0 lw_r1
theorem lw_eq : c__law_own = lw_r0 := rfl
def ly_s0 : S := (.set 2 (.bin .sub (.vix 0 (.int 2)) (.vix 0 (.int 1))))
def ly_s1 : S := (.ret (.tup (.own (.bin .add (.bin .mul (.vix 0 (.int 0)) (.vix 1 (.int 2))) (.bin .mul (.var 2) (.vix 1 (.int 0)))) (.own (.bin .add (.bin .mul (.vix 0 (.int 1)) (.vix 1 (.int 2))) (.bin .mul (.var 2) (.vix 1 (.int 1)))) (.own (.bin .mul (.vix 0 (.int 2)) (.vix 1 (.int 2))) .nil)))))
def ly_r2 : Ss := .nil
def ly_r1 : Ss := .cons ly_s1 ly_r2
def ly_r0 : Ss := .cons ly_s0 ly_r1
theorem ly_eq : c__law_lay = ly_r0 := rfl
def lq_s0 : S := (.set 4 (.ix (.vix 0 (.int 3)) (.var 2)))
def lq_s1 : S := (.ifs (.call "_law_out" (.val (.var 4) (.val (.dix 1 (.vix 4 (.int 0))) (.val (.var 3) .nil))))
    (.cons (.ret (.tup (.own (.int 0) (.own (.int 0) (.own (.int 1) .nil))))) .nil)
    .nil)
def lq_s2 : S := (.set 5 (.bin .add (.call "_law_own" (.val (.var 4) (.val (.dix 1 (.vix 4 (.int 0))) (.val (.var 3) .nil)))) (.tup (.own (.int 16) .nil))))
def lq_s3 : S := (.fore (.nm 6) (.rng2 (.val (.bin .add (.var 2) (.int 1)) (.val (.bif .len (.val (.vix 0 (.int 3)) .nil)) .nil)))
    (.cons (.ifs (.cmp .eq (.ix (.ix (.vix 0 (.int 3)) (.var 6)) (.int 1)) (.vix 4 (.int 0)))
    (.cons (.set 5 (.call "_law_lay" (.val (.call "_law_picture" (.val (.var 0) (.val (.var 1) (.val (.var 6) (.val (.var 3) .nil))))) (.val (.var 5) .nil)))) .nil)
    .nil) .nil))
def lq_s4 : S := (.asg (.tp (.cons (.nm 7) (.cons (.nm 8) .nil))) (.vix 4 (.int 5)))
def lq_s5 : S := (.ret (.tup (.own (.bin .mul (.vix 5 (.int 0)) (.var 7)) (.own (.bin .mul (.vix 5 (.int 1)) (.var 7)) (.own (.bin .mul (.vix 5 (.int 2)) (.var 8)) .nil)))))
def lq_r6 : Ss := .nil
def lq_r5 : Ss := .cons lq_s5 lq_r6
def lq_r4 : Ss := .cons lq_s4 lq_r5
def lq_r3 : Ss := .cons lq_s3 lq_r4
def lq_r2 : Ss := .cons lq_s2 lq_r3
def lq_r1 : Ss := .cons lq_s1 lq_r2
def lq_r0 : Ss := .cons lq_s0 lq_r1
def lq_b3_s0 : S := (.ifs (.cmp .eq (.ix (.ix (.vix 0 (.int 3)) (.var 6)) (.int 1)) (.vix 4 (.int 0)))
    (.cons (.set 5 (.call "_law_lay" (.val (.call "_law_picture" (.val (.var 0) (.val (.var 1) (.val (.var 6) (.val (.var 3) .nil))))) (.val (.var 5) .nil)))) .nil)
    .nil)
def lq_b3_r1 : Ss := .nil
def lq_b3_r0 : Ss := .cons lq_b3_s0 lq_b3_r1
def lq_i3 : It2 := (.rng2 (.val (.bin .add (.var 2) (.int 1)) (.val (.bif .len (.val (.vix 0 (.int 3)) .nil)) .nil)))
theorem lq_s3_eq : lq_s3 = .fore (.nm 6) lq_i3 lq_b3_r0 := rfl
theorem lq_eq : c__law_picture = lq_r0 := rfl
def lv_s0 : S := (.set 3 (.ix (.vix 0 (.int 2)) (.int 0)))
def lv_s1 : S := (.set 4 (.tup (.own (.vix 3 (.int 0)) (.own (.vix 3 (.int 1)) (.own (.vix 3 (.int 1)) .nil)))))
def lv_s2 : S := (.fore (.nm 5) (.rng1 (.val (.bif .len (.val (.vix 0 (.int 3)) .nil)) .nil))
    (.cons (.ifs (.cmp .eq (.ix (.ix (.vix 0 (.int 3)) (.var 5)) (.int 1)) (.str ""))
    (.cons (.set 4 (.call "_law_lay" (.val (.call "_law_picture" (.val (.var 0) (.val (.var 1) (.val (.var 5) (.val (.var 2) .nil))))) (.val (.var 4) .nil)))) .nil)
    .nil) .nil))
def lv_s3 : S := (.ret (.call "_law_told_pixel" (.val (.var 4) .nil)))
def lv_r4 : Ss := .nil
def lv_r3 : Ss := .cons lv_s3 lv_r4
def lv_r2 : Ss := .cons lv_s2 lv_r3
def lv_r1 : Ss := .cons lv_s1 lv_r2
def lv_r0 : Ss := .cons lv_s0 lv_r1
def lv_b2_s0 : S := (.ifs (.cmp .eq (.ix (.ix (.vix 0 (.int 3)) (.var 5)) (.int 1)) (.str ""))
    (.cons (.set 4 (.call "_law_lay" (.val (.call "_law_picture" (.val (.var 0) (.val (.var 1) (.val (.var 5) (.val (.var 2) .nil))))) (.val (.var 4) .nil)))) .nil)
    .nil)
def lv_b2_r1 : Ss := .nil
def lv_b2_r0 : Ss := .cons lv_b2_s0 lv_b2_r1
def lv_i2 : It2 := (.rng1 (.val (.bif .len (.val (.vix 0 (.int 3)) .nil)) .nil))
theorem lv_s2_eq : lv_s2 = .fore (.nm 5) lv_i2 lv_b2_r0 := rfl
theorem lv_eq : c__law_shown = lv_r0 := rfl
def rt_s0 : S := (.asg (.tp (.cons (.nm 1) (.cons (.nm 2) .nil))) (.call "_law_corners" (.val (.var 0) .nil)))
def rt_s1 : S := (.set 3 (.lst .nil))
def rt_s2 : S := (.fore (.nm 4) (.rng1 (.val (.vix 0 (.int 1)) .nil))
    (.cons (.exp (.push 3 (.bif .tuple (.val (.comp [6] (.nm 6) (.rng1 (.val (.vix 0 (.int 0)) .nil)) .no (.call "_law_shown" (.val (.var 0) (.val (.var 1) (.val (.tup (.own (.var 6) (.own (.var 4) .nil))) .nil))))) .nil)))) .nil))
def rt_s3 : S := (.ifs (.cmp .ne (.bif .repr (.val (.call "plain_painting" (.val (.var 0) .nil)) .nil)) (.bif .repr (.val (.bif .tuple (.val (.var 3) .nil)) .nil)))
    (.cons (.ret (.bl false)) .nil)
    .nil)
def rt_s4 : S := (.set 5 (.lst (.own (.tup (.own (.int 0) (.own (.int 0) .nil))) (.own (.tup (.own (.bin .sub (.vix 0 (.int 0)) (.int 1)) (.own (.bin .sub (.vix 0 (.int 1)) (.int 1)) .nil))) (.own (.tup (.own (.bin .fdv (.vix 0 (.int 0)) (.int 2)) (.own (.bin .fdv (.vix 0 (.int 1)) (.int 2)) .nil))) (.own (.tup (.own (.int 0) (.own (.bin .sub (.vix 0 (.int 1)) (.int 1)) .nil))) .nil))))))
def rt_s5 : S := (.ret (.cmp .eq (.comp [7] (.nm 7) (.seq (.var 5)) (.so (.cmp .ne (.bif .repr (.val (.call "shows" (.val (.var 0) (.val (.var 7) .nil))) .nil)) (.bif .repr (.val (.ix (.vix 3 (.vix 7 (.int 1))) (.vix 7 (.int 0))) .nil)))) (.var 7)) (.lst .nil)))
def rt_r6 : Ss := .nil
def rt_r5 : Ss := .cons rt_s5 rt_r6
def rt_r4 : Ss := .cons rt_s4 rt_r5
def rt_r3 : Ss := .cons rt_s3 rt_r4
def rt_r2 : Ss := .cons rt_s2 rt_r3
def rt_r1 : Ss := .cons rt_s1 rt_r2
def rt_r0 : Ss := .cons rt_s0 rt_r1
def rt_b2_s0 : S := (.exp (.push 3 (.bif .tuple (.val (.comp [6] (.nm 6) (.rng1 (.val (.vix 0 (.int 0)) .nil)) .no (.call "_law_shown" (.val (.var 0) (.val (.var 1) (.val (.tup (.own (.var 6) (.own (.var 4) .nil))) .nil))))) .nil))))
def rt_b2_r1 : Ss := .nil
def rt_b2_r0 : Ss := .cons rt_b2_s0 rt_b2_r1
def rt_i2 : It2 := (.rng1 (.val (.vix 0 (.int 1)) .nil))
theorem rt_s2_eq : rt_s2 = .fore (.nm 4) rt_i2 rt_b2_r0 := rfl
theorem rt_eq : c__law_right = rt_r0 := rfl
def la_s0 : S := (.set 2 (.ite (.cmp .eq (.call "_law_draw" (.lend 1 (.val (.int 8) .nil))) (.int 0)) (.int 8) (.int 5)))
def la_s1 : S := (.set 3 (.lst (.own (.call "_law_scene" (.lend 1 (.val (.int 6) (.val (.var 2) .nil)))) (.own (.call "_law_scene" (.lend 1 (.val (.int 3) (.val (.int 4) .nil)))) .nil))))
def la_s2 : S := (.set 4 (.bif .repr (.val (.var 3) .nil)))
def la_s3 : S := (.fore (.nm 5) (.seq (.bin .add (.bin .add (.var 3) (.sl (.var 3) .no (.so (.int 1)))) (.lst (.own (.tup (.own (.int 2) (.own (.int 1) (.own (.tup (.own (.tup (.own (.int 5) (.own (.int 16) .nil))) (.own (.tup (.own (.int 1) (.own (.int 1) .nil))) .nil))) (.own (.tup .nil) .nil))))) .nil))))
    (.cons (.ifs (.or (.not (.call "_law_right" (.val (.var 5) .nil))) (.cmp .ne (.bif .repr (.val (.var 3) .nil)) (.var 4)))
    (.cons (.ret (.bl false)) .nil)
    .nil) .nil))
def la_s4 : S := (.ret (.bl true))
def la_r5 : Ss := .nil
def la_r4 : Ss := .cons la_s4 la_r5
def la_r3 : Ss := .cons la_s3 la_r4
def la_r2 : Ss := .cons la_s2 la_r3
def la_r1 : Ss := .cons la_s1 la_r2
def la_r0 : Ss := .cons la_s0 la_r1
def la_b3_s0 : S := (.ifs (.or (.not (.call "_law_right" (.val (.var 5) .nil))) (.cmp .ne (.bif .repr (.val (.var 3) .nil)) (.var 4)))
    (.cons (.ret (.bl false)) .nil)
    .nil)
def la_b3_r1 : Ss := .nil
def la_b3_r0 : Ss := .cons la_b3_s0 la_b3_r1
def la_i3 : It2 := (.seq (.bin .add (.bin .add (.var 3) (.sl (.var 3) .no (.so (.int 1)))) (.lst (.own (.tup (.own (.int 2) (.own (.int 1) (.own (.tup (.own (.tup (.own (.int 5) (.own (.int 16) .nil))) (.own (.tup (.own (.int 1) (.own (.int 1) .nil))) .nil))) (.own (.tup .nil) .nil))))) .nil))))
theorem la_s3_eq : la_s3 = .fore (.nm 5) la_i3 la_b3_r0 := rfl
theorem la_eq : c_law = la_r0 := rfl
end Fc

namespace Fc
open PySem PySem.Spec PyProof.Rows L2 IL
abbrev lf2 (a b : D) : List T := [.leaf a, .leaf b]
abbrev nn : List (Option T) := [none, none]
theorem den_pos' (r : Rat) : (0 : Int) < r.den := by have := r.den_pos; omega
def Has (W : Wd) (x : Str) (np : Nat) (L : List Nat) (S : FSem → Prop) : Prop := ∃ F, W.fn x = some ⟨np, L, F⟩ ∧ S F
end Fc

namespace IL
open PySem PySem.Spec PyProof.Rows L2
@[simp] theorem tix4_0 (a : D) (b c d : T) : tIx (.lst [.leaf a, b, c, d]) (.int 0) = some a := rfl
@[simp] theorem tix4_1 (a : D) (b c d : T) : tIx (.lst [b, .leaf a, c, d]) (.int 1) = some a := rfl
@[simp] theorem tix4_2 (a : D) (b c d : T) : tIx (.lst [b, c, .leaf a, d]) (.int 2) = some a := rfl
@[simp] theorem tix4_3 (a : D) (b c d : T) : tIx (.lst [b, c, d, .leaf a]) (.int 3) = some a := rfl
@[simp] theorem ap_put (i : Nat) (f : M D) (d : D) : gPut i f d = bnd (held i) fun _ => bnd f fun k => setT i k (.leaf d) := rfl
@[simp] theorem ap_setT {e : En} (i : Nat) (k : D) (t : T) : setT i k t e = match e[i]?, k with
  | some (some (.lst ts)), .int z => (match ixN ts.length z with
    | some j => .ok () (e.set i (some (.lst (ts.set j t))))
    | none => .bad)
  | _, _ => .bad := rfl
@[simp] theorem ixN4_1 : ixN 4 1 = some 1 := rfl
@[simp] theorem ixN4_2 : ixN 4 2 = some 2 := rfl
@[simp] theorem ixN4_3 : ixN 4 3 = some 3 := rfl
@[simp] theorem len_list (xs : List D) : lenD [.list xs] = some (.leaf (.int xs.length)) := rfl
theorem step {W : Wd} {c r : Ss} {s : S} {e e1 : En} (hc : c = .cons s r) (h : evS W s e = .ok .nx e1) : evSs W c e = evSs W r e1 := by
  subst hc
  simp only [evSs, gSeq, bnd, h]
theorem shaped_ints (cells : List Int) : SeqAt.shaped (.list (cells.map .int)) = true := by
  have h : ∀ cells : List Int, PyData.canLayAll0 (cells.map .int) = true ∧ PyData.depthAll (cells.map .int) = 0 := by
    intro cells
    induction cells with
    | nil => exact ⟨by simp [PyData.canLayAll0], by simp [PyData.depthAll]⟩
    | cons c r ih => exact ⟨by simp [PyData.canLayAll0, PyData.canLay0, ih.1], by simp [PyData.depthAll, PyData.depth, ih.2]⟩
  simp [SeqAt.shaped, PyData.canLay0, PyData.depth, (h cells).1, (h cells).2]
theorem ne_nil (cells : List Int) : neD (.list (cells.map .int)) (.list []) = some (.leaf (.bool (!cells.isEmpty))) := by
  have h1 := shaped_ints cells
  have h2 := shaped_ints []
  cases cells with
  | nil => simp [neD, eqB, scalEq, bT, h2, PyData.eqv, PyData.eqvAll]; simpa using h2
  | cons c r =>
    simp only [List.map_nil] at h2
    simp only [neD, eqB, scalEq, h1, h2, bT]
    simp [PyData.eqv, PyData.eqvAll]
theorem ix_cell {cells : List Int} (h : cells ≠ []) {p : Int} : ∃ v, ixD (.list (cells.map .int)) (.int (p.fmod cells.length)) = some (.int v) := by
  have hl : 0 < cells.length := List.length_pos_iff.mpr h
  have h1 : 0 ≤ p.fmod cells.length := Int.fmod_nonneg_of_pos p (by omega)
  have h2 : p.fmod cells.length < cells.length := Int.fmod_lt_of_pos p (by omega)
  have h3 : (p.fmod cells.length).toNat < cells.length := by omega
  refine ⟨cells[(p.fmod cells.length).toNat], ?_⟩
  simp [ixD, L2.atI, ixN, h1, h2, h3]
end IL
namespace Fc
open PySem PySem.Spec PyProof.Rows L2 IL
def dr_c : C := (.and (.cmp .eq (.vix 0 (.int 2)) (.int 0)) (.cmp .lt (.vix 0 (.int 3)) (.bif .len (.val (.vix 0 (.int 0)) .nil))))
def dr_w : Ss := (.cons (.set 2 (.bif .abs (.val (.ix (.vix 0 (.int 0)) (.vix 0 (.int 3))) .nil))) (.cons (.asg (.sub 0 (.int 2)) (.bin .mul (.var 2) (.bif .int (.val (.cmp .ge (.var 2) (.bin .pow (.int 10) (.int 18))) .nil)))) (.cons (.asg (.sub 0 (.int 3)) (.bin .add (.vix 0 (.int 3)) (.int 1))) .nil)))
theorem dr_s1_eq : dr_s1 = .whl 4096 dr_c dr_w := rfl
/-! the feed -/
def fT (cells : List Int) (a n p : Int) : T := .lst [.leaf (.list (cells.map .int)), .leaf (.int a), .leaf (.int n), .leaf (.int p)]
structure Cells (cells : List Int) : Prop where
  few : cells.length ≤ 63
  bits : ∀ c ∈ cells, c.natAbs.log2 ≤ 1048576
def FeedOk (cells : List Int) (k : Nat) (t : T) : Prop := ∃ (a n : Int) (p : Nat), t = fT cells a n p ∧ 0 ≤ a ∧ a ≤ k ∧ 0 ≤ n ∧ p ≤ cells.length ∧ Cells cells
theorem FeedOk.mono {cells : List Int} {k l : Nat} {t : T} (h : FeedOk cells k t) (hk : k ≤ l) : FeedOk cells l t := by
  obtain ⟨a, n, p, e, h1, h2, h3, h4, h5⟩ := h
  exact ⟨a, n, p, e, h1, by omega, h3, h4, h5⟩
def SpDraw (F : FSem) : Prop := ∀ (cells : List Int) (k : Nat) (t : T) (m : Int), k < 2 ^ 26 → FeedOk cells k t → 0 < m → m < 2 ^ 30 → ∃ r t', 0 ≤ r ∧ r < m ∧ FeedOk cells (k + 1) t' ∧ F [t, .leaf (.int m)] = some (.leaf (.int r), [some t', none])
theorem div_small {a m : Int} (h : 0 < m) (h2 : m < 2 ^ 30) : divOk a m = true := divOk_lim (k := 30) (by omega) (show m.natAbs < 2 ^ 30 by omega) (by decide)
theorem ix_at {cells : List Int} {p : Nat} (h : p < cells.length) : ixD (.list (cells.map .int)) (.int p) = some (.int cells[p]) := by
  simp [ixD, L2.atI, ixN, h]
theorem body_step {W : Wd} {cells : List Int} {a : Int} {p : Nat} (hC : Cells cells) (h : p < cells.length) (x1 x2 x3 x4 : Option T) : ∃ (n : Int) (y2 : Option T), 0 ≤ n ∧ evSs W dr_w [some (fT cells a 0 p), x1, x2, x3, x4] = .ok .nx [some (fT cells a n ((p + 1 : Nat) : Int)), x1, y2, x3, x4] := by
  have hx := ix_at h
  obtain ⟨c, hc⟩ : ∃ c : Int, c = (cells[p].natAbs : Int) := ⟨_, rfl⟩
  have hb := hC.bits cells[p] (List.getElem_mem h)
  have ep : powOk 10 18 = true := by decide
  have hp1 : ((p + 1 : Nat) : Int) = (p : Int) + 1 := by omega
  rw [hp1]
  have hl : c.natAbs.log2 ≤ 1048576 := by rw [hc, Int.natAbs_natCast]; exact hb
  have m0 : mulOk c 0 = true := decide_eq_true (by
    have e : (0 : Int).natAbs.log2 = 0 := by decide
    rw [e]; omega)
  have m1 : mulOk c 1 = true := decide_eq_true (by
    have e : (1 : Int).natAbs.log2 = 0 := by decide
    rw [e]; omega)
  generalize (p : Int) = pi at *
  generalize hcl : cells[p] = cv at *
  unfold fT
  generalize cells.map PyData.int = cl at *
  by_cases hbig : (1000000000000000000 : Int) ≤ c
  · refine ⟨c, some (.leaf (.int c)), by omega, ?_⟩
    simp [dr_w, evSs, evS, evC, evCs, evTg, Bop.d, Cop.d, Bif.d, hx, ← hc, ep, hbig, IL.intOfD, m1]
  · refine ⟨0, some (.leaf (.int c)), by omega, ?_⟩
    simp [dr_w, evSs, evS, evC, evCs, evTg, Bop.d, Cop.d, Bif.d, hx, ← hc, ep, hbig, IL.intOfD, m0]
theorem cond_eq {W : Wd} {cells : List Int} {a n : Int} {p : Nat} (x1 x2 x3 x4 : Option T) : tst (evC W dr_c) [some (fT cells a n p), x1, x2, x3, x4] = .ok (decide (n = 0) && decide (p < cells.length)) [some (fT cells a n p), x1, x2, x3, x4] := by
  by_cases h : n = 0
  · subst h
    simp [dr_c, evC, evCs, Cop.d, Bif.d, fT]
  · simp [dr_c, evC, evCs, Cop.d, Bif.d, fT, h]
theorem draw_loop {W : Wd} {cells : List Int} {a : Int} (hC : Cells cells) (x1 x3 x4 : Option T) : ∀ (j : Nat) (n : Int) (p fuel : Nat) (x2 : Option T), p + j = cells.length → 0 ≤ n → j + 1 ≤ fuel →
    ∃ (n' : Int) (p' : Nat) (y2 : Option T), 0 ≤ n' ∧ p' ≤ cells.length ∧ gWhile fuel (tst (evC W dr_c)) (evSs W dr_w) [some (fT cells a n p), x1, x2, x3, x4] = .ok .nx [some (fT cells a n' p'), x1, y2, x3, x4] := by
  intro j
  induction j with
  | zero =>
    intro n p fuel x2 hj hn hf
    obtain ⟨m, rfl⟩ : ∃ m, fuel = m + 1 := ⟨fuel - 1, by omega⟩
    refine ⟨n, p, x2, hn, by omega, ?_⟩
    unfold gWhile bnd
    rw [cond_eq]
    have : decide (p < cells.length) = false := decide_eq_false (by omega)
    rw [this, Bool.and_false]
    rfl
  | succ j ih =>
    intro n p fuel x2 hj hn hf
    obtain ⟨m, rfl⟩ : ∃ m, fuel = m + 1 := ⟨fuel - 1, by omega⟩
    by_cases h0 : n = 0
    · subst h0
      obtain ⟨n1, y2, hn1, hb⟩ := body_step (W := W) (a := a) hC (show p < cells.length by omega) x1 x2 x3 x4
      obtain ⟨n2, p2, z2, q1, q2, q3⟩ := ih n1 (p + 1) m y2 (by omega) hn1 (by omega)
      refine ⟨n2, p2, z2, q1, q2, ?_⟩
      unfold gWhile bnd
      rw [cond_eq]
      have : decide (p < cells.length) = true := decide_eq_true (by omega)
      rw [this]
      simp only [decide_true, Bool.and_self, if_true, bnd]
      rw [hb]
      exact q3
    · refine ⟨n, p, x2, hn, by omega, ?_⟩
      unfold gWhile bnd
      rw [cond_eq]
      have : decide (n = 0) = false := decide_eq_false h0
      rw [this, Bool.false_and]
      rfl
theorem run_draw {W : Wd} : SpDraw (runM n__law_draw.length 2 [0] (evSs W c__law_draw)) := by
  intro cells k t m hk ⟨a, n, p, e, ha, hak, hn, hp, hC⟩ h0 hm
  subst e
  have hm0 : m ≠ 0 := by omega
  have g0 : evS W dr_s0 [some (fT cells a n p), some (.leaf (.int m)), none, none, none] = .ok .nx [some (fT cells (a + 1) n p), some (.leaf (.int m)), none, none, none] := by
    simp [dr_s0, evSs, evS, evC, evCs, evTg, Bop.d, fT]
  obtain ⟨n', p', y2, hn', hp', hw⟩ := draw_loop (W := W) (a := a + 1) hC (some (.leaf (.int m))) none none (cells.length - p) n p 4096 none (by omega) hn (by have := hC.few; omega)
  have g1 : evS W dr_s1 [some (fT cells (a + 1) n p), some (.leaf (.int m)), none, none, none] = .ok .nx [some (fT cells (a + 1) n' p'), some (.leaf (.int m)), y2, none, none] := by
    rw [dr_s1_eq]
    exact hw
  have start : ∀ r e', evSs W dr_r2 [some (fT cells (a + 1) n' p'), some (.leaf (.int m)), y2, none, none] = .ok (.rt (.leaf (.int r))) e' → evSs W c__law_draw [some (fT cells a n p), some (.leaf (.int m)), none, none, none] = .ok (.rt (.leaf (.int r))) e' := by
    intro r e' h
    rw [dr_eq, step (c := dr_r0) rfl g0, step (c := dr_r1) rfl g1, h]
  have fin : ∀ r a' n' p' e', evSs W c__law_draw [some (fT cells a n p), some (.leaf (.int m)), none, none, none] = .ok (.rt (.leaf (.int r))) (some (fT cells a' n' p') :: e') → runM n__law_draw.length 2 [0] (evSs W c__law_draw) [fT cells a n p, .leaf (.int m)] = some (.leaf (.int r), [some (fT cells a' n' p'), none]) := by
    intro r a' n' p' e' h
    unfold runM runF
    show (match (match evSs W c__law_draw [some (fT cells a n p), some (.leaf (.int m)), none, none, none] with
      | .ok (.rt t) e => some (t, (e ++ List.replicate 2 none).take 2)
      | .ok .nx e => some (.leaf .none, (e ++ List.replicate 2 none).take 2)
      | _ => none) with
      | some (t, o) => some (t, maskN [0] 0 o)
      | none => none) = _
    rw [h]
    cases e' <;> simp [maskN]
  by_cases hq0 : 0 < n'
  · refine ⟨n'.fmod m, fT cells (a + 1) (n'.fdiv m) p', Int.fmod_nonneg_of_pos n' h0, Int.fmod_lt_of_pos n' h0, ⟨a + 1, n'.fdiv m, p', rfl, by omega, by omega, Int.fdiv_nonneg (by omega) (by omega), hp', hC⟩, fin _ _ _ _ [some (.leaf (.int m)), y2, some (.leaf (.int (n'.fmod m))), none] (start _ _ ?_)⟩
    have d1 := div_small (a := n') h0 hm
    generalize (p' : Int) = pi at *
    simp [dr_r2, dr_s2, dr_r3, evSs, evS, evC, evCs, evTg, Bop.d, Cop.d, Bif.d, fT, hq0, hm0, d1]
  · have g2 : evS W dr_s2 [some (fT cells (a + 1) n' p'), some (.leaf (.int m)), y2, none, none] = .ok .nx [some (fT cells (a + 1) n' p'), some (.leaf (.int m)), y2, none, none] := by
      generalize (p' : Int) = pi at *
      simp [dr_s2, evSs, evS, evC, evCs, evTg, Bop.d, Cop.d, fT, hq0]
    obtain ⟨v, g3⟩ : ∃ v : Int, evS W dr_s3 [some (fT cells (a + 1) n' p'), some (.leaf (.int m)), y2, none, none] = .ok .nx [some (fT cells (a + 1) n' p'), some (.leaf (.int m)), some (.leaf (.int v)), none, none] := by
      generalize (p' : Int) = pi at *
      by_cases hc : cells = []
      · subst hc
        refine ⟨5, ?_⟩
        have := ne_nil []
        simp only [List.map_nil] at this
        simp [dr_s3, evSs, evS, evC, evCs, Cop.d, fT, this]
      · obtain ⟨v, hv⟩ := ix_cell hc (p := a + 1)
        have h2 := ne_nil cells
        have h3 : cells.isEmpty = false := by simpa using hc
        refine ⟨v, ?_⟩
        simp [dr_s3, evSs, evS, evC, evCs, Cop.d, Bop.d, Bif.d, fT, h2, h3, hv, hc]
    have f1 := Int.fmod_nonneg_of_pos v (b := 1000003) (by decide)
    have f2 := Int.fmod_lt_of_pos v (b := 1000003) (by decide)
    have hA0 : 0 ≤ 613 * (a + 1) * (a + 1 + 7) := Int.mul_nonneg (Int.mul_nonneg (by decide) (by omega)) (by omega)
    have hA1 : 613 * (a + 1) * (a + 1 + 7) ≤ 613 * 67108864 * 67108871 := by
      have z1 : 613 * (a + 1) ≤ 613 * 67108864 := by omega
      have z2 : a + 1 + 7 ≤ 67108871 := by omega
      exact Int.mul_le_mul z1 z2 (by omega) (by decide)
    obtain ⟨x1, hx1⟩ : ∃ x1, x1 = v.fmod 1000003 + 613 * (a + 1) * (a + 1 + 7) + 17 := ⟨_, rfl⟩
    have p1 : powOk x1 5 = true := by
      refine decide_eq_true ⟨by decide, by decide, ?_⟩
      omega
    have l1 : lim 27 (a + 1) := show (a + 1).natAbs < 2 ^ 27 by omega
    have l7 : lim 27 (a + 1 + 7) := show (a + 1 + 7).natAbs < 2 ^ 27 by omega
    have m1 : mulOk 613 (a + 1) = true := mulOk_lim (k := 10) (by decide) l1 (by decide)
    have m2 : mulOk (613 * (a + 1)) (a + 1 + 7) = true := mulOk_lim (lim_mul (show lim 10 613 by decide) l1) l7 (by decide)
    have m3 : mulOk 4099 (a + 1) = true := mulOk_lim (k := 13) (by decide) l1 (by decide)
    have f3 := Int.fmod_nonneg_of_pos (x1 ^ 5) (b := 2147483647) (by decide)
    have f4 := Int.fmod_lt_of_pos (x1 ^ 5) (b := 2147483647) (by decide)
    obtain ⟨x2, hx2⟩ : ∃ x2, x2 = (x1 ^ 5).fmod 2147483647 := ⟨_, rfl⟩
    obtain ⟨x3, hx3⟩ : ∃ x3, x3 = x2 + 4099 * (a + 1) := ⟨_, rfl⟩
    have p2 : powOk x3 5 = true := by
      refine decide_eq_true ⟨by decide, by decide, ?_⟩
      omega
    have g4 : evS W dr_s4 [some (fT cells (a + 1) n' p'), some (.leaf (.int m)), some (.leaf (.int v)), none, none] = .ok .nx [some (fT cells (a + 1) n' p'), some (.leaf (.int m)), some (.leaf (.int v)), none, some (.leaf (.int x2))] := by
      generalize (p' : Int) = pi at *
      simp [dr_s4, evSs, evS, evC, evCs, evTg, Cop.d, Bop.d, Bif.d, fT, m1, m2, ← hx1, p1, ← hx2]
    have d1 : divOk ((x3 ^ 5).fmod 2147483587) 7 = true := div_small (by decide) (by decide)
    refine ⟨(((x3 ^ 5).fmod 2147483587).fdiv 7).fmod m, fT cells (a + 1) n' p', Int.fmod_nonneg_of_pos _ h0, Int.fmod_lt_of_pos _ h0, ⟨a + 1, n', p', rfl, by omega, by omega, hn', hp', hC⟩, fin _ _ _ _ [some (.leaf (.int m)), some (.leaf (.int v)), none, some (.leaf (.int x2))] (start _ _ ?_)⟩
    rw [step (c := dr_r2) rfl g2, step (c := dr_r3) rfl g3, step (c := dr_r4) rfl g4]
    generalize (p' : Int) = pi at *
    simp [dr_r5, dr_s5, dr_r6, evSs, evS, evC, evCs, evTg, Cop.d, Bop.d, Bif.d, fT, m3, ← hx3, p2, d1, hm0]
end Fc

namespace IL
open PySem PySem.Spec PyProof.Rows L2
@[simp] theorem unT_tup (n : Nat) (g : List D → M Unit) (ds : List D) : unT n g (.tuple ds) = if ds.length = n then g ds else bad := rfl
@[simp] theorem unT_lst (n : Nat) (g : List D → M Unit) (ds : List D) : unT n g (.list ds) = if ds.length = n then g ds else bad := rfl
@[simp] theorem consG_cons (f : D → M Unit) (g : List D → M Unit) (d : D) (ds : List D) : consG f g (d :: ds) = bnd (f d) fun _ => g ds := rfl
@[simp] theorem ap_push (i : Nat) (f : M T) : gPush i f = bnd (held i) fun _ => bnd (peek i fun t => match t with | .lst _ => some () | _ => none) fun _ => bnd f fun t => bnd (pushT i t) fun _ => IL.ret (.leaf .none) := rfl
@[simp] theorem ap_pushT (i : Nat) (t : T) (e : En) : pushT i t e = match e[i]? with
  | some (some (.lst ts)) => if ts.length < most then .ok () (e.set i (some (.lst (ts ++ [t])))) else .bad
  | _ => .bad := rfl
@[simp] theorem lt_most {n : Nat} (h : n < 100000) : n < most := h
@[simp] theorem ap_par (i j : Nat) (f : M (List T)) : gPar i j f = bnd f fun ts => match ts with
  | [t, u] => bnd (store i t) fun _ => bnd (store j u) fun _ => IL.ret .nx
  | _ => bad := rfl
@[simp] theorem tuple_list (xs : List D) : tupleD [.list xs] = some (.leaf (.tuple xs)) := rfl
@[simp] theorem tuple_tuple (xs : List D) : tupleD [.tuple xs] = some (.leaf (.tuple xs)) := rfl
@[simp] theorem seq_tup (xs : List D) : seqD (.tuple xs) = some xs := rfl
@[simp] theorem seq_lst (xs : List D) : seqD (.list xs) = some xs := rfl
@[simp] theorem ap_itr (f : M D) : gItr f = bnd f fun d => opt (seqD d) := rfl
@[simp] theorem ap_wipe (vs : List Nat) (e : En) : wipeM vs e = .ok () (wipeE e vs) := rfl
theorem run_lent1 {m : M Fl} {nN : Nat} {t t' r : T} {e' : En} (h : m (some t :: List.replicate (nN - 1) none) = .ok (.rt r) (some t' :: e')) : runM nN 1 [0] m [t] = some (r, [some t']) := by
  unfold runM runF
  show (match (match m (some t :: List.replicate (nN - 1) none) with
    | .ok (.rt t) e => some (t, (e ++ List.replicate 1 none).take 1)
    | .ok .nx e => some (.leaf .none, (e ++ List.replicate 1 none).take 1)
    | _ => none) with
    | some (t, o) => some (t, maskN [0] 0 o)
    | none => none) = _
  rw [h]
  simp [maskN]
end IL
namespace Fc
open PySem PySem.Spec PyProof.Rows L2 IL
def fw_c : C := .cmp .gt (.var 3) (.int 0)
def fw_b : Ss := .cons (.par 2 3 (.own (.var 3) (.own (.bin .mod (.var 2) (.var 3)) .nil))) .nil
theorem fc_s2_eq : fc_s2 = .whl 4096 fw_c fw_b := rfl
theorem fw_cond {W : Wd} (e0 e1 : Option T) (x y : Nat) : tst (evC W fw_c) [e0, e1, some (.leaf (.int x)), some (.leaf (.int y))] = .ok (decide (y ≠ 0)) [e0, e1, some (.leaf (.int x)), some (.leaf (.int y))] := by
  simp [fw_c, evC, Cop.d]
  by_cases h : y = 0
  · simp [h]
  · have : 0 < y := by omega
    simp [h, this]
theorem fw_step {W : Wd} (e0 e1 : Option T) (x y : Nat) (hy : y ≠ 0) : evSs W fw_b [e0, e1, some (.leaf (.int x)), some (.leaf (.int y))] = .ok .nx [e0, e1, some (.leaf (.int y)), some (.leaf (.int ((x % y : Nat) : Int)))] := by
  have h : ¬ ((y : Int) = 0) := by omega
  have e := fmod_nat x y
  simp [fw_b, evSs, evS, evC, evCs, Bop.d, hy, e]
theorem fw_loop {W : Wd} (e0 e1 : Option T) : ∀ (k : Nat) (x y n : Nat), y < 2 ^ k → 2 * k + 1 ≤ n → gWhile n (tst (evC W fw_c)) (evSs W fw_b) [e0, e1, some (.leaf (.int x)), some (.leaf (.int y))] = .ok .nx [e0, e1, some (.leaf (.int (Nat.gcd x y : Nat))), some (.leaf (.int 0))] := by
  have stop : ∀ (x n : Nat), 1 ≤ n → gWhile n (tst (evC W fw_c)) (evSs W fw_b) [e0, e1, some (.leaf (.int x)), some (.leaf (.int ((0 : Nat) : Int)))] = .ok .nx [e0, e1, some (.leaf (.int (Nat.gcd x 0 : Nat))), some (.leaf (.int 0))] := by
    intro x n hn
    obtain ⟨m, rfl⟩ : ∃ m, n = m + 1 := ⟨n - 1, by omega⟩
    unfold gWhile bnd
    rw [fw_cond]
    simp [IL.ret]
  have go : ∀ (x y n : Nat), y ≠ 0 → gWhile (n + 1) (tst (evC W fw_c)) (evSs W fw_b) [e0, e1, some (.leaf (.int x)), some (.leaf (.int y))] = gWhile n (tst (evC W fw_c)) (evSs W fw_b) [e0, e1, some (.leaf (.int y)), some (.leaf (.int ((x % y : Nat) : Int)))] := by
    intro x y n hy
    conv => lhs; unfold gWhile bnd
    rw [fw_cond]
    have : decide (y ≠ 0) = true := decide_eq_true hy
    simp only [this, if_true, bnd]
    rw [fw_step e0 e1 x y hy]
  intro k
  induction k with
  | zero =>
    intro x y n hy hn
    have : y = 0 := by simpa using hy
    subst this
    exact stop x n (by omega)
  | succ k ih =>
    intro x y n hy hn
    by_cases h0 : y = 0
    · subst h0
      exact stop x n (by omega)
    · obtain ⟨m, rfl⟩ : ∃ m, n = m + 1 + 1 := ⟨n - 2, by omega⟩
      rw [go x y (m + 1) h0]
      have hlt : x % y < y := Nat.mod_lt _ (by omega)
      by_cases h1 : x % y = 0
      · rw [h1, stop y (m + 1) (by omega)]
        rw [Nat.gcd_comm x y, Nat.gcd_rec y x, h1, Nat.gcd_comm 0 y]
      · rw [go y (x % y) m h1]
        have hlt2 : y % (x % y) < x % y := Nat.mod_lt _ (by omega)
        have hd : y % (x % y) + (x % y) ≤ y := by
          have := Nat.div_add_mod y (x % y)
          have h2 : 1 ≤ y / (x % y) := (Nat.one_le_div_iff (by omega)).mpr (by omega)
          have h3 : x % y * 1 ≤ x % y * (y / (x % y)) := Nat.mul_le_mul_left _ h2
          omega
        have hp : y % (x % y) < 2 ^ k := by rw [Nat.pow_succ] at hy; omega
        rw [ih (x % y) (y % (x % y)) m hp (by omega)]
        rw [Nat.gcd_comm x y, Nat.gcd_rec y x, Nat.gcd_comm (x % y) y, Nat.gcd_comm y (x % y), Nat.gcd_rec (x % y) y]
        rw [Nat.gcd_comm]
def SpFr (F : FSem) : Prop := ∀ a b : Int, 0 < b → lim 400 a → lim 400 b → F (lf2 (.int a) (.int b)) = some (.leaf (fq (Rat.divInt a b)), nn)
theorem run_frac {W : Wd} : SpFr (runM n__law_frac.length 2 [] (evSs W c__law_frac)) := by
  intro a b hb ha hb'
  refine run_pure ?_
  obtain ⟨y, rfl⟩ := Int.eq_ofNat_of_zero_le (show 0 ≤ b by omega)
  have hy : y < 2 ^ 400 := by simpa [lim] using hb'
  have hyp : 0 < y := by omega
  have g0 : evS W fc_s0 [some (.leaf (.int a)), some (.leaf (.int y)), none, none] = .ok .nx [some (.leaf (.int a)), some (.leaf (.int y)), none, none] := by
    simp [fc_s0, evS, evC, evCs, evTg, evTgs, tgN, Cop.d, mkTup, hyp]
  have g1 : evS W fc_s1 [some (.leaf (.int a)), some (.leaf (.int y)), none, none] = .ok .nx [some (.leaf (.int a)), some (.leaf (.int y)), some (.leaf (.int a.natAbs)), some (.leaf (.int y))] := by
    simp [fc_s1, evS, evC, evCs, Bif.d, gPar]
  have g2 : evS W fc_s2 [some (.leaf (.int a)), some (.leaf (.int y)), some (.leaf (.int a.natAbs)), some (.leaf (.int y))] = .ok .nx [some (.leaf (.int a)), some (.leaf (.int y)), some (.leaf (.int (Nat.gcd a.natAbs y : Nat))), some (.leaf (.int 0))] := by
    rw [fc_s2_eq]
    exact fw_loop _ _ 400 a.natAbs y 4096 hy (by decide)
  have eg : Nat.gcd a.natAbs y = Int.gcd a y := by simp [Int.gcd]
  rw [eg] at g2
  have hgl := gcd_lim (a := a) (by omega) (lim_mono hb' (show 400 ≤ 900 by decide))
  have hg := gcd_pos (a := a) (b := (y : Int)) (by omega)
  have d1 : divOk a (Int.gcd a y : Nat) = true := divOk_lim (by omega) hgl (by decide)
  have d2 : divOk y (Int.gcd a y : Nat) = true := divOk_lim (by omega) hgl (by decide)
  have hr := rat_pos (a := a) hb
  show tell (evSs W c__law_frac) [some (.leaf (.int a)), some (.leaf (.int y)), none, none] = _
  unfold tell
  rw [fc_eq, step (c := fc_r0) rfl g0, step (c := fc_r1) rfl g1, step (c := fc_r2) rfl g2]
  rw [← hr]
  generalize ((Int.gcd a y : Nat) : Int) = gg at *
  generalize (y : Int) = yi at *
  simp [fc_r3, fc_s3, fc_r4, evSs, evS, evC, evCs, Bop.d, d1, d2, fr]
end Fc

namespace Fc
open PySem PySem.Spec PyProof.Rows L2 IL
theorem tup_add {a b : List D} (h : a.length + b.length ≤ 100000) : addD (.tuple a) (.tuple b) = some (.leaf (.tuple (a ++ b))) := by
  have : a.length + b.length ≤ most := h
  simp [addD, orr, int2, strCat, tupCat, this]
theorem frz_mkTup (ts : List T) : frz (mkTup ts) = .tuple (ts.map frz) := by
  unfold mkTup
  split
  · rename_i ds h
    have e := leaves_eq h
    subst e
    rw [frz_leaf, List.map_map]
    congr 1
    conv => lhs; rw [← List.map_id ds]
    apply List.map_congr_left
    intro a _
    simp
  · rw [frz_tup]
@[simp] theorem frz_lvs (ds : List D) : frz (.lst (ds.map .leaf)) = .list ds := by
  rw [frz_lst, List.map_map]
  congr 1
  conv => rhs; rw [← List.map_id ds]
  apply List.map_congr_left
  intro a _
  simp
theorem cut_drop (ds : List D) (i : Nat) (h : i ≤ ds.length) : cutD ds (some (i : Int)) none = ds.drop i := by
  unfold IL.cutD
  rw [HT.sIx_none, HT.sIx_nat, Nat.min_eq_left h, ← List.length_drop, List.take_length]
theorem cut_take (ds : List D) (i : Nat) (h : i ≤ ds.length) : cutD ds none (some (i : Int)) = ds.take i := by
  unfold IL.cutD
  rw [HT.sIx_none, HT.sIx_nat, Nat.min_eq_left h]
  simp
theorem cut_one (ds : List D) (i : Nat) (h : i < ds.length) : cutD ds (some (i : Int)) (some ((i : Int) + 1)) = (ds.drop i).take 1 := by
  unfold IL.cutD
  rw [show ((i : Int) + 1) = ((i + 1 : Nat) : Int) from rfl, HT.sIx_nat, HT.sIx_nat, Nat.min_eq_left (by omega), Nat.min_eq_left (by omega)]
  congr 1
  omega
theorem cut_drop1 (ds : List D) (i : Nat) (h : i < ds.length) : cutD ds (some ((i : Int) + 1)) none = ds.drop (i + 1) := cut_drop ds (i + 1) (by omega)
theorem ix_mem {ds : List D} {r : Int} (h0 : 0 ≤ r) (h1 : r < ds.length) : ∃ x ∈ ds, ixD (.list ds) (.int r) = some x ∧ ixD (.tuple ds) (.int r) = some x := by
  obtain ⟨j, rfl⟩ := Int.eq_ofNat_of_zero_le h0
  have h2 : j < ds.length := by omega
  refine ⟨ds[j], List.getElem_mem h2, ?_, ?_⟩ <;> simp [ixD, L2.atI, ixN, h2]
theorem lst_add {a b : List D} (h : a.length + b.length ≤ 100000) : addD (.list a) (.list b) = some (.lst ((a ++ b).map .leaf)) := by
  have : a.length + b.length ≤ most := h
  simp [addD, orr, int2, strCat, tupCat, lstCat, this]
theorem eq_strs (a b : Str) : eqD (.str a) (.str b) = some (.leaf (.bool (decide (a = b)))) := by
  simp only [eqD, eqB, scalEq, bT, Option.map_some]
  congr 3
theorem shaped_fr (a b : Int) : SeqAt.shaped (fr a b) = true := by
  simp [SeqAt.shaped, fr, PyData.canLay0, PyData.canLayAll0, PyData.depth, PyData.depthAll]
theorem eq_fr (a b c d : Int) : eqD (fr a b) (fr c d) = some (.leaf (.bool (decide (a = c ∧ b = d)))) := by
  have h1 := shaped_fr a b
  have h2 := shaped_fr c d
  have h3 : PyData.eqv (fr a b) (fr c d) = decide (a = c ∧ b = d) := by
    rw [Bool.eq_iff_iff]
    simp [fr, PyData.eqv, PyData.eqvAll]
  have h4 : scalEq (fr a b) (fr c d) = none := rfl
  simp only [eqD, eqB, h1, h2, h3, h4, bT, Bool.and_self, if_true, Option.map_some]
def leafC (c : Nat) : D → Bool
  | .int i => decide (lim c i)
  | d => leafOk d
def LvC (c : Nat) : Nat → D → Prop
  | 0, d => leafC c d = true
  | n + 1, d => leafC c d = true ∨ ∃ ds, (d = .tuple ds ∨ d = .list ds) ∧ ∀ x ∈ ds, LvC c n x
theorem LvC.leaf {c : Nat} : ∀ {n : Nat} {d : D}, leafC c d = true → LvC c n d
  | 0, _, h => h
  | _ + 1, _, h => .inl h
theorem leafC_mono {c c' : Nat} (hc : c ≤ c') {d : D} (h : leafC c d = true) : leafC c' d = true := by
  cases d with
  | int i => exact decide_eq_true (lim_mono (of_decide_eq_true h) hc)
  | _ => exact h
theorem LvC.up {c c' : Nat} (hc : c ≤ c') : ∀ {n n' : Nat} {d : D}, LvC c n d → n ≤ n' → LvC c' n' d
  | 0, _, _, h, _ => .leaf (leafC_mono hc h)
  | n + 1, 0, _, _, hn => absurd hn (by omega)
  | n + 1, n' + 1, d, h, hn => by
    rcases h with h | ⟨ds, h1, h3⟩
    · exact .inl (leafC_mono hc h)
    · exact .inr ⟨ds, h1, fun x hx => (h3 x hx).up hc (by omega)⟩
theorem LvC.mono {c n n' : Nat} {d : D} (h : LvC c n d) (hn : n ≤ n') : LvC c n' d := h.up (Nat.le_refl _) hn
theorem leafC_ok {c : Nat} (hc : c ≤ 400) {d : D} (h : leafC c d = true) : leafOk d = true := by
  cases d with
  | int i => exact decide_eq_true (lim_mono (of_decide_eq_true h) hc)
  | _ => exact h
theorem LvC.plain {c : Nat} (hc : c ≤ 400) : ∀ {n : Nat} {d : D}, LvC c n d → Lv n d
  | 0, _, h => .leaf (leafC_ok hc h)
  | n + 1, d, h => by
    rcases h with h | ⟨ds, h1, h3⟩
    · exact .leaf (leafC_ok hc h)
    · exact .inr ⟨ds, h1, fun x hx => (h3 x hx).plain hc⟩
structure DtC (c n b : Nat) (d : D) : Prop where
  lv : LvC c n d
  blk : d.bulk ≤ b
theorem DtC.plain {c n b : Nat} {d : D} (h : DtC c n b d) (hc : c ≤ 400) : Dt n b d := ⟨h.lv.plain hc, h.blk⟩
theorem DtC.up {c c' n n' b b' : Nat} {d : D} (h : DtC c n b d) (hc : c ≤ c') (h1 : n ≤ n') (h2 : b ≤ b') : DtC c' n' b' d := ⟨h.lv.up hc h1, Nat.le_trans h.blk h2⟩
theorem lvc_tup {c n : Nat} {ds : List D} (h : LvC c n (.tuple ds)) : ∃ n', n = n' + 1 ∧ ∀ x ∈ ds, LvC c n' x := by
  cases n with
  | zero => cases h
  | succ n =>
    rcases h with h | ⟨es, h1 | h1, h3⟩
    · cases h
    · cases h1; exact ⟨n, rfl, h3⟩
    · cases h1
theorem pick {is : List Int} {r : Int} (h0 : 0 ≤ r) (h1 : r < is.length) : ∃ v ∈ is, ixD (.list (is.map .int)) (.int r) = some (.int v) := by
  obtain ⟨j, rfl⟩ := Int.eq_ofNat_of_zero_le h0
  have h2 : j < is.length := by omega
  exact ⟨is[j], List.getElem_mem h2, by simp [ixD, L2.atI, ixN, h2]⟩
theorem lv_i {n : Nat} {i : Int} (h : lim 100 i) : LvC 100 n (.int i) := .leaf (decide_eq_true h)
theorem lv_seq {n : Nat} {ds : List D} (h : ∀ x ∈ ds, LvC 100 n x) : LvC 100 (n + 1) (.tuple ds) := .inr ⟨ds, .inl rfl, h⟩
theorem dt_fq {r : Rat} (h : limQ 100 r) : DtC 100 1 2 (fq r) := by
  refine ⟨lv_seq fun z hz => ?_, by simp [fq, fr, PyData.bulk, PyData.bulkAll]⟩
  simp only [List.mem_cons, List.not_mem_nil, or_false] at hz
  rcases hz with rfl | rfl
  · exact lv_i h.1
  · exact lv_i h.2
theorem lim_small {i : Int} (h0 : 0 ≤ i) (h1 : i < 2 ^ 20) : lim 100 i := lim_mono (show lim 20 i from show i.natAbs < 2 ^ 20 by omega) (by decide)
theorem lim_abs {i : Int} (h0 : -(2 ^ 20) < i) (h1 : i < 2 ^ 20) : lim 100 i := lim_mono (show lim 20 i from show i.natAbs < 2 ^ 20 by omega) (by decide)
theorem tix_lvs (ps : List D) (y : D) : tIx (.lst (ps.map .leaf)) y = ixD (.list ps) y := by
  unfold tIx ixD
  cases y with
  | int i =>
    show (match L2.atI (ps.map T.leaf) i with
      | some (.leaf d) => some d
      | _ => none) = L2.atI ps i
    unfold L2.atI
    rw [List.length_map]
    cases ixN ps.length i with
    | none => rfl
    | some j =>
      show (match (ps.map T.leaf)[j]? with
        | some (.leaf d) => some d
        | _ => none) = ps[j]?
      rw [List.getElem?_map]
      cases ps[j]? <;> rfl
  | _ => rfl
theorem dt_id {a b c : Int} (ha : lim 100 a) (hb : lim 100 b) (hc : lim 100 c) : DtC 100 1 3 (.tuple [.int a, .int b, .int c]) := by
  refine ⟨lv_seq fun z hz => ?_, by simp [PyData.bulk, PyData.bulkAll]⟩
  simp only [List.mem_cons, List.not_mem_nil, or_false] at hz
  rcases hz with rfl | rfl | rfl
  · exact lv_i ha
  · exact lv_i hb
  · exact lv_i hc
theorem dt_pr {x y : D} (hx : DtC 100 1 3 x) (hy : DtC 100 2 6 y) : DtC 100 3 11 (.tuple [x, y]) := by
  refine ⟨lv_seq fun z hz => ?_, ?_⟩
  · simp only [List.mem_cons, List.not_mem_nil, or_false] at hz
    rcases hz with rfl | rfl
    · exact hx.lv.mono (by omega)
    · exact hy.lv
  · have := hx.blk
    have := hy.blk
    rw [bulk_tup]
    simp only [PyData.bulkAll]
    omega
theorem far10 : ∀ n : Fin 10, far ((n.val : Nat) : Int) = true := by decide
theorem rng_c {c : Int} {C : Nat} (hc : c = C) (h : C ≤ 9) : rng1 [.int c] = some (rangeL 0 C) := by
  subst hc
  have h9 := far10 ⟨C, by omega⟩
  unfold rng1
  simp only
  have h9 : far (C : Int) = true := h9
  rw [h9]
  rfl
theorem rg_at {i C : Nat} {d : D} (h : (rangeL 0 C)[i]? = some d) : i < C ∧ d = .int (0 + (i : Int)) := by
  unfold rangeL at h
  rw [List.getElem?_map] at h
  obtain ⟨j, h1, h2⟩ := Option.map_eq_some_iff.mp h
  have h3 := (List.getElem?_eq_some_iff.mp h1)
  obtain ⟨h4, h5⟩ := h3
  simp at h4 h5
  subst h5
  exact ⟨h4, h2.symm⟩
theorem run_lent3g {m : M Fl} {nN : Nat} {t t' r a b : T} {e' : En} (h : m (some t :: some a :: some b :: List.replicate (nN - 3) none) = .ok (.rt r) (some t' :: e')) (hl : 2 ≤ e'.length) : runM nN 3 [0] m [t, a, b] = some (r, [some t', none, none]) := by
  unfold runM runF
  show (match (match m (some t :: some a :: some b :: List.replicate (nN - 3) none) with
    | .ok (.rt t) e => some (t, (e ++ List.replicate 3 none).take 3)
    | .ok .nx e => some (.leaf .none, (e ++ List.replicate 3 none).take 3)
    | _ => none) with
    | some (t, o) => some (t, maskN [0] 0 o)
    | none => none) = _
  rw [h]
  match e', hl with
  | x :: y :: r', _ => simp [maskN]
theorem run_lent4g {m : M Fl} {nN : Nat} {t t' r a b c : T} {e' : En} (h : m (some t :: some a :: some b :: some c :: List.replicate (nN - 4) none) = .ok (.rt r) (some t' :: e')) (hl : 3 ≤ e'.length) : runM nN 4 [0] m [t, a, b, c] = some (r, [some t', none, none, none]) := by
  unfold runM runF
  show (match (match m (some t :: some a :: some b :: some c :: List.replicate (nN - 4) none) with
    | .ok (.rt t) e => some (t, (e ++ List.replicate 4 none).take 4)
    | .ok .nx e => some (.leaf .none, (e ++ List.replicate 4 none).take 4)
    | _ => none) with
    | some (t, o) => some (t, maskN [0] 0 o)
    | none => none) = _
  rw [h]
  match e', hl with
  | x :: y :: z :: r', _ => simp [maskN]
theorem bulk_each {b : Nat} : ∀ {ps : List D}, (∀ p ∈ ps, p.bulk ≤ b) → PyData.bulkAll ps ≤ ps.length * (b + 1)
  | [], _ => by simp [PyData.bulkAll]
  | p :: ps, hp => by
    have h1 := hp p List.mem_cons_self
    have h2 := bulk_each fun x hx => hp x (List.mem_cons_of_mem _ hx)
    simp only [PyData.bulkAll, List.length_cons, Nat.succ_mul]
    omega
theorem mk2 (a b : D) : mkTup [.leaf a, .leaf b] = .leaf (.tuple [a, b]) := rfl
end Fc

namespace Fc
open PySem PySem.Spec PyProof.Rows L2 IL
/-! ### scenes as plain things -/
def q16 (n : Nat) : Rat := Rat.divInt (n : Int) 16
def pxN (p c : Nat) : D := .tuple [fq (q16 p), fq (q16 c)]
/-- a cell of a content: its id, paint and cover by sixteenths -/
structure Cl where
  id : D
  p : Nat
  c : Nat
def Cl.d (x : Cl) : D := .tuple [x.id, pxN x.p x.c]
structure Cl.Ok (x : Cl) : Prop where
  id : DtC 100 1 3 x.id
  le : x.p ≤ x.c
  hi : x.c ≤ 16
structure Nd where
  nm : Str
  par : Str
  x : Int
  y : Int
  clip : Option (Int × Int × Int × Int)
  op : Nat
  hid : Bool
  cont : Option (List (List Cl))
def clipD : Option (Int × Int × Int × Int) → D
  | none => .none
  | some (a, b, c, d) => .tuple [.int a, .int b, .int c, .int d]
def rowD (r : List Cl) : D := .tuple (r.map Cl.d)
def rowsD (rs : List (List Cl)) : D := .tuple (rs.map rowD)
def contD : Option (List (List Cl)) → D
  | none => .none
  | some rs => rowsD rs
def Nd.d (n : Nd) : D := .tuple [.str n.nm, .str n.par, .int n.x, .int n.y, clipD n.clip, fq (q16 n.op), .bool n.hid, contD n.cont]
/-- rows of a content, as many cells each -/
structure RowsOk (m : Nat) (rs : List (List Cl)) : Prop where
  h1 : 1 ≤ rs.length
  h2 : rs.length ≤ m
  w : ∃ w, 1 ≤ w ∧ w ≤ m ∧ ∀ r ∈ rs, r.length = w
  ok : ∀ r ∈ rs, ∀ x ∈ r, x.Ok
def clipOk : Option (Int × Int × Int × Int) → Prop
  | none => True
  | some (a, b, c, d) => lim 20 a ∧ lim 20 b ∧ lim 20 c ∧ lim 20 d
structure Nd.Ok (m : Nat) (n : Nd) : Prop where
  x : lim 20 n.x
  y : lim 20 n.y
  clip : clipOk n.clip
  op : n.op ≤ 16
  cont : ∀ rs, n.cont = some rs → RowsOk m rs
def poolL : List Str := ["a", "aa", "b", "cy", "root", "zzzzzzzz"]
/-- a tree: names of the pool, each once, parents ahead -/
inductive TreeOk (m : Nat) : List Nd → Prop
  | nil : TreeOk m []
  | snoc {tr : List Nd} {n : Nd} : TreeOk m tr → n.Ok m → n.nm ∈ poolL → n.nm ∉ tr.map (·.nm) → (n.par = "" ∨ n.par ∈ tr.map (·.nm)) → TreeOk m (tr ++ [n])
structure Sc where
  w : Nat
  h : Nat
  back : Nat
  tr : List Nd
def Sc.d (s : Sc) : D := .tuple [.int s.w, .int s.h, pxN s.back 16, .tuple (s.tr.map Nd.d)]
structure Sc.Ok (m : Nat) (s : Sc) : Prop where
  w1 : 1 ≤ s.w
  w8 : s.w ≤ 8
  h1 : 1 ≤ s.h
  h6 : s.h ≤ 6
  back : s.back ≤ 16
  six : s.tr.length ≤ 6
  tree : TreeOk m s.tr
theorem q16_lim {n : Nat} (h : n ≤ 16) : limQ 100 (q16 n) := limQ_divInt (by decide) (lim_small (by omega) (by omega)) (show lim 100 16 by decide)
theorem dt_q16 {n : Nat} (h : n ≤ 16) : DtC 100 1 2 (fq (q16 n)) := dt_fq (q16_lim h)
theorem dt_pxN {p c : Nat} (h1 : p ≤ 16) (h2 : c ≤ 16) : DtC 100 2 6 (pxN p c) := by
  refine ⟨lv_seq fun z hz => ?_, ?_⟩
  · simp only [List.mem_cons, List.not_mem_nil, or_false] at hz
    rcases hz with rfl | rfl
    · exact (dt_q16 h1).lv
    · exact (dt_q16 h2).lv
  · have := (dt_q16 h1).blk
    have := (dt_q16 h2).blk
    rw [pxN, bulk_tup]
    simp only [PyData.bulkAll]
    omega
theorem Cl.Ok.dt {x : Cl} (h : x.Ok) : DtC 100 3 11 x.d := dt_pr h.id (dt_pxN (Nat.le_trans h.le h.hi) h.hi)
theorem row_dt {m w : Nat} {r : List Cl} (h : ∀ x ∈ r, x.Ok) (hw : r.length ≤ m) : DtC 100 4 (m * 12) (rowD r) := by
  refine ⟨lv_seq fun z hz => ?_, ?_⟩
  · obtain ⟨x, hx, rfl⟩ := List.mem_map.mp hz
    exact (h x hx).dt.lv
  · have hb := bulk_each (b := 11) (ps := r.map Cl.d) fun z hz => by
      obtain ⟨x, hx, rfl⟩ := List.mem_map.mp hz
      exact (h x hx).dt.blk
    rw [rowD, bulk_tup]
    rw [List.length_map] at hb
    exact Nat.le_trans hb (Nat.mul_le_mul_right 12 hw)
theorem RowsOk.dt {m : Nat} {rs : List (List Cl)} (h : RowsOk m rs) : DtC 100 5 (m * (m * 12 + 1)) (rowsD rs) := by
  obtain ⟨w, hw1, hw2, hw⟩ := h.w
  have hr : ∀ r ∈ rs, DtC 100 4 (m * 12) (rowD r) := fun r hr => row_dt (w := w) (h.ok r hr) (by rw [hw r hr]; exact hw2)
  refine ⟨lv_seq fun z hz => ?_, ?_⟩
  · obtain ⟨x, hx, rfl⟩ := List.mem_map.mp hz
    exact (hr x hx).lv
  · have hb := bulk_each (b := m * 12) (ps := rs.map rowD) fun z hz => by
      obtain ⟨x, hx, rfl⟩ := List.mem_map.mp hz
      exact (hr x hx).blk
    rw [rowsD, bulk_tup]
    rw [List.length_map] at hb
    exact Nat.le_trans hb (Nat.mul_le_mul_right _ h.h2)
theorem pool_leaf : ∀ z ∈ poolL, leafC 100 (.str z) = true ∧ (PyData.str z).bulk ≤ 10 := by
  intro z hz
  simp only [poolL, List.mem_cons, List.not_mem_nil, or_false] at hz
  rcases hz with rfl | rfl | rfl | rfl | rfl | rfl <;> exact ⟨by decide +kernel, by decide +kernel⟩
theorem empty_leaf : leafC 100 (.str "") = true ∧ (PyData.str "").bulk ≤ 10 := ⟨by decide +kernel, by decide +kernel⟩
theorem clip_dt {c : Option (Int × Int × Int × Int)} (h : clipOk c) : DtC 100 1 4 (clipD c) := by
  cases c with
  | none => exact ⟨.leaf rfl, by simp [clipD, PyData.bulk]⟩
  | some c =>
    obtain ⟨a, b, c, d⟩ := c
    obtain ⟨h1, h2, h3, h4⟩ := h
    refine ⟨lv_seq fun z hz => ?_, by simp [clipD, PyData.bulk, PyData.bulkAll]⟩
    simp only [List.mem_cons, List.not_mem_nil, or_false] at hz
    rcases hz with rfl | rfl | rfl | rfl
    · exact lv_i (lim_mono h1 (by decide))
    · exact lv_i (lim_mono h2 (by decide))
    · exact lv_i (lim_mono h3 (by decide))
    · exact lv_i (lim_mono h4 (by decide))
theorem nd_dt {m : Nat} {n : Nd} (h : n.Ok m) (hn : leafC 100 (.str n.nm) = true ∧ (PyData.str n.nm).bulk ≤ 10) (hp : leafC 100 (.str n.par) = true ∧ (PyData.str n.par).bulk ≤ 10) : DtC 100 6 (m * (m * 12 + 1) + 40) n.d := by
  have hc : DtC 100 5 (m * (m * 12 + 1)) (contD n.cont) := by
    cases hcc : n.cont with
    | none => exact ⟨.leaf rfl, by simp [contD, PyData.bulk]⟩
    | some rs => exact (h.cont rs hcc).dt
  have hcl := clip_dt h.clip
  have hop := dt_q16 h.op
  refine ⟨lv_seq fun z hz => ?_, ?_⟩
  · simp only [List.mem_cons, List.not_mem_nil, or_false] at hz
    rcases hz with rfl | rfl | rfl | rfl | rfl | rfl | rfl | rfl
    · exact .leaf hn.1
    · exact .leaf hp.1
    · exact lv_i (lim_mono h.x (by decide))
    · exact lv_i (lim_mono h.y (by decide))
    · exact hcl.lv.mono (by omega)
    · exact hop.lv.mono (by omega)
    · exact .leaf rfl
    · exact hc.lv
  · have z1 := hn.2
    have z2 := hp.2
    have z3 := hcl.blk
    have z4 := hop.blk
    have z5 := hc.blk
    have bi : ∀ i : Int, (PyData.int i).bulk = 0 := fun _ => by simp [PyData.bulk]
    have bb : ∀ i : Bool, (PyData.bool i).bulk = 0 := fun _ => by simp [PyData.bulk]
    rw [Nd.d, bulk_tup]
    simp only [PyData.bulkAll, bi, bb]
    omega
theorem TreeOk.mem {m : Nat} {tr : List Nd} (h : TreeOk m tr) : ∀ n ∈ tr, n.Ok m ∧ n.nm ∈ poolL ∧ (n.par = "" ∨ n.par ∈ poolL) := by
  induction h with
  | nil => intro n hn; cases hn
  | snoc ht hn hp hnn hpar ih =>
    intro x hx
    rcases List.mem_append.mp hx with hx | hx
    · exact ih x hx
    · simp only [List.mem_cons, List.not_mem_nil, or_false] at hx
      subst hx
      refine ⟨hn, hp, hpar.imp id fun z => ?_⟩
      obtain ⟨y, hy, e⟩ := List.mem_map.mp z
      exact e ▸ (ih y hy).2.1
theorem TreeOk.dt {m : Nat} {tr : List Nd} (h : TreeOk m tr) {n : Nd} (hn : n ∈ tr) : DtC 100 6 (m * (m * 12 + 1) + 40) n.d := by
  obtain ⟨h1, h2, h3⟩ := h.mem n hn
  refine nd_dt h1 (pool_leaf _ h2) ?_
  rcases h3 with h3 | h3
  · rw [h3]; exact empty_leaf
  · exact pool_leaf _ h3
theorem Sc.Ok.dt {m : Nat} {s : Sc} (h : s.Ok m) : DtC 100 8 (6 * (m * (m * 12 + 1) + 41) + 20) s.d := by
  have hb := bulk_each (b := m * (m * 12 + 1) + 40) (ps := s.tr.map Nd.d) fun z hz => by
    obtain ⟨x, hx, rfl⟩ := List.mem_map.mp hz
    exact (h.tree.dt hx).blk
  rw [List.length_map] at hb
  have h6 := Nat.mul_le_mul_right (m * (m * 12 + 1) + 40 + 1) h.six
  have hbk := dt_pxN h.back (Nat.le_refl 16)
  refine ⟨lv_seq fun z hz => ?_, ?_⟩
  · simp only [List.mem_cons, List.not_mem_nil, or_false] at hz
    rcases hz with rfl | rfl | rfl | rfl
    · exact lv_i (lim_small (by omega) (by have := h.w8; omega))
    · exact lv_i (lim_small (by omega) (by have := h.h6; omega))
    · exact hbk.lv.mono (by omega)
    · refine lv_seq fun z hz => ?_
      obtain ⟨x, hx, rfl⟩ := List.mem_map.mp hz
      exact (h.tree.dt hx).lv
  · have bi : ∀ i : Int, (PyData.int i).bulk = 0 := fun _ => by simp [PyData.bulk]
    have := hbk.blk
    rw [Sc.d, bulk_tup]
    simp only [PyData.bulkAll, bi, bulk_tup]
    omega
end Fc

namespace Fc
open PySem PySem.Spec PyProof.Rows L2 IL
def IsPx (d : D) : Prop := ∃ p c : Nat, p ≤ c ∧ c ≤ 16 ∧ d = pxN p c
def IsCl (d : D) : Prop := ∃ x : Cl, x.Ok ∧ d = x.d
theorem isCl_mk {a p : D} (h : DtC 100 1 3 a) (hp : IsPx p) : IsCl (.tuple [a, p]) := by
  obtain ⟨u, c, h1, h2, rfl⟩ := hp
  exact ⟨⟨a, u, c⟩, ⟨h, h1, h2⟩, rfl⟩
theorem all_of {α : Type} {P : α → Prop} (f : α → D) : ∀ {ds : List D}, (∀ d ∈ ds, ∃ x, P x ∧ d = f x) → ∃ xs : List α, (∀ x ∈ xs, P x) ∧ ds = xs.map f
  | [], _ => ⟨[], (fun _ h => nomatch h), rfl⟩
  | d :: ds, h => by
    obtain ⟨x, hx, e⟩ := h d List.mem_cons_self
    obtain ⟨xs, h1, e2⟩ := all_of f fun y hy => h y (List.mem_cons_of_mem _ hy)
    refine ⟨x :: xs, fun y hy => ?_, by rw [List.map_cons, e, e2]⟩
    rcases List.mem_cons.mp hy with rfl | hy
    · exact hx
    · exact h1 y hy
def IsRow (w : Nat) (d : D) : Prop := ∃ r : List Cl, r.length = w ∧ (∀ x ∈ r, x.Ok) ∧ d = rowD r
theorem isRow_mk {w : Nat} {row : List D} (hl : row.length = w) (h : ∀ p ∈ row, IsCl p) : IsRow w (.tuple row) := by
  obtain ⟨xs, h1, rfl⟩ := all_of Cl.d h
  exact ⟨xs, by simpa using hl, h1, rfl⟩
def SpPoint (F : FSem) : Prop := ∀ (cells : List Int) (k : Nat) (t : T), k + 10 < 2 ^ 26 → FeedOk cells k t → ∃ (d : D) (t' : T), IsPx d ∧ FeedOk cells (k + 4) t' ∧ F [t] = some (.leaf d, [some t'])
theorem run_point {W : Wd} {Fd Fr : FSem} (hd : W.fn "_law_draw" = some ⟨2, [0], Fd⟩) (sd : SpDraw Fd) (hr : W.fn "_law_frac" = some ⟨2, [], Fr⟩) (sr : SpFr Fr) : SpPoint (runM n__law_point.length 1 [0] (evSs W c__law_point)) := by
  intro cells k t hk ht
  obtain ⟨r1, t1, a1, b1, f1, k1⟩ := sd cells k t 17 (by omega) ht (by decide) (by decide)
  obtain ⟨r2, t2, a2, b2, f2, k2⟩ := sd cells (k + 1) t1 4 (by omega) f1 (by decide) (by decide)
  obtain ⟨v, hv, iv⟩ := pick (is := [0, 16, 16, r1]) a2 (by simpa using b2)
  have hv0 : 0 ≤ v ∧ v ≤ 16 := by
    simp only [List.mem_cons, List.not_mem_nil, or_false] at hv
    rcases hv with rfl | rfl | rfl | rfl <;> omega
  obtain ⟨r3, t3, a3, b3, f3, k3⟩ := sd cells (k + 2) t2 (v + 1) (by omega) f2 (by omega) (by omega)
  have lr3 := lim_small a3 (by omega)
  have lv := lim_small hv0.1 (by omega)
  have k4 := sr r3 16 (by decide) (lim_mono lr3 (by decide)) (by decide)
  have k5 := sr v 16 (by decide) (lim_mono lv (by decide)) (by decide)
  obtain ⟨pn, rfl⟩ := Int.eq_ofNat_of_zero_le a3
  obtain ⟨vn, rfl⟩ := Int.eq_ofNat_of_zero_le hv0.1
  have hpx : IsPx (.tuple [fq (Rat.divInt (pn : Int) 16), fq (Rat.divInt (vn : Int) 16)]) := ⟨pn, vn, by omega, by omega, rfl⟩
  simp only [lf2, nn] at k4 k5
  simp only [List.map_cons, List.map_nil] at iv
  generalize fq (Rat.divInt (pn : Int) 16) = P1 at *
  generalize fq (Rat.divInt (vn : Int) 16) = P2 at *
  refine ⟨.tuple [P1, P2], t3, hpx, f3.mono (by omega), run_lent1 (e' := [some (.leaf (.int vn))]) ?_⟩
  · simp [c__law_point, evSs, evS, evC, evCs, Bop.d, n__law_point, hd, hr, lens, maskN, mkTup, k1, k2, k3, iv, k4, k5]
theorem cell_ok {W : Wd} {Fd : FSem} (hd : W.fn "_law_draw" = some ⟨2, [0], Fd⟩) (sd : SpDraw Fd) (cells : List Int) {k : Nat} {t : T} (hk : k + 10 < 2 ^ 26) (ht : FeedOk cells k t) {ps acc : List D} (hps : ps.length = 4) (hp : ∀ p ∈ ps, IsPx p) (hacc : acc.length ≤ 100) {c x y : Int} (lc : lim 100 c) (lx : lim 100 x) (ly : lim 100 y) (x1 x2 x5 x9 x10 : Option T) :
    ∃ (t' : T) (p : D) (y9 : Option T), FeedOk cells (k + 4) t' ∧ IsCl p ∧ evSs W ct_b3_b1_r0 [some t, x1, x2, some (.lst (ps.map .leaf)), some (.leaf (.int c)), x5, some (.leaf (.int y)), some (.lst (acc.map .leaf)), some (.leaf (.int x)), x9, x10] = .ok .nx [some t', x1, x2, some (.lst (ps.map .leaf)), some (.leaf (.int c)), x5, some (.leaf (.int y)), some (.lst ((acc ++ [p]).map .leaf)), some (.leaf (.int x)), y9, x10] := by
  obtain ⟨r1, t1, a1, b1, f1, k1⟩ := sd cells k t 5 (by omega) ht (by decide) (by decide)
  obtain ⟨r2, t2, a2, b2, f2, k2⟩ := sd cells (k + 1) t1 9 (by omega) f1 (by decide) (by decide)
  obtain ⟨r3, t3, a3, b3, f3, k3⟩ := sd cells (k + 1 + 1) t2 9 (by omega) f2 (by decide) (by decide)
  have htl : (acc.map T.leaf).length < most := by simp; exact Nat.lt_of_le_of_lt hacc (by decide)
  have m3 : ∀ a b c : D, mkTup [.leaf a, .leaf b, .leaf c] = .leaf (.tuple [a, b, c]) := fun _ _ _ => rfl
  have m2 : ∀ a b : D, mkTup [.leaf a, .leaf b] = .leaf (.tuple [a, b]) := fun _ _ => rfl
  have fin : ∀ (own : D) (k' : Nat) (t4 : T), k' + 1 ≤ k + 4 → FeedOk cells k' t4 → DtC 100 1 3 own → ∃ (t' : T) (p : D), FeedOk cells (k + 4) t' ∧ IsCl p ∧ evSs W ct_b3_b1_r2 [some t4, x1, x2, some (.lst (ps.map .leaf)), some (.leaf (.int c)), x5, some (.leaf (.int y)), some (.lst (acc.map .leaf)), some (.leaf (.int x)), some (.leaf own), x10] = .ok .nx [some t', x1, x2, some (.lst (ps.map .leaf)), some (.leaf (.int c)), x5, some (.leaf (.int y)), some (.lst ((acc ++ [p]).map .leaf)), some (.leaf (.int x)), some (.leaf own), x10] := by
    intro own k' t4 hk' f4 ho
    obtain ⟨r5, t5, a5, b5, f5, k5⟩ := sd cells k' t4 4 (by omega) f4 (by decide) (by decide)
    obtain ⟨p, hpm, ip, _⟩ := ix_mem (ds := ps) (r := r5) a5 (by rw [hps]; exact b5)
    have tp := tix_lvs ps (.int r5)
    refine ⟨t5, .tuple [own, p], f5.mono (by omega), isCl_mk ho (hp p hpm), ?_⟩
    have hA : T.lst ((acc ++ [PyData.tuple [own, p]]).map .leaf) = .lst (acc.map .leaf ++ [.leaf (.tuple [own, p])]) := by simp
    rw [hA]
    generalize T.lst (ps.map .leaf) = S at *
    generalize acc.map T.leaf = A at *
    simp [ct_b3_b1_r2, ct_b3_b1_s2, ct_b3_b1_r3, evSs, evS, evC, evCs, hd, lens, maskN, k5, tp, ip, m2, htl]
  have g0 : evS W ct_b3_b1_s0 [some t, x1, x2, some (.lst (ps.map .leaf)), some (.leaf (.int c)), x5, some (.leaf (.int y)), some (.lst (acc.map .leaf)), some (.leaf (.int x)), x9, x10] = .ok .nx [some t, x1, x2, some (.lst (ps.map .leaf)), some (.leaf (.int c)), x5, some (.leaf (.int y)), some (.lst (acc.map .leaf)), some (.leaf (.int x)), some (.leaf (.tuple [.int c, .int x, .int y])), x10] := by
    generalize T.lst (ps.map .leaf) = S at *
    generalize T.lst (acc.map T.leaf) = A at *
    simp [ct_b3_b1_s0, evS, evC, evCs, m3]
  by_cases hr : r1 = 0
  · have g1 : evS W ct_b3_b1_s1 [some t, x1, x2, some (.lst (ps.map .leaf)), some (.leaf (.int c)), x5, some (.leaf (.int y)), some (.lst (acc.map .leaf)), some (.leaf (.int x)), some (.leaf (.tuple [.int c, .int x, .int y])), x10] = .ok .nx [some t3, x1, x2, some (.lst (ps.map .leaf)), some (.leaf (.int c)), x5, some (.leaf (.int y)), some (.lst (acc.map .leaf)), some (.leaf (.int x)), some (.leaf (.tuple [.int r2, .int r3, .int y])), x10] := by
      generalize T.lst (ps.map .leaf) = S at *
      generalize T.lst (acc.map T.leaf) = A at *
      simp [ct_b3_b1_s1, evSs, evS, evC, evCs, Cop.d, hd, lens, maskN, k1, hr, k2, k3, m3]
    obtain ⟨t', p, f', dp, q⟩ := fin (.tuple [.int r2, .int r3, .int y]) (k + 1 + 1 + 1) t3 (by omega) f3 (dt_id (lim_small a2 (by omega)) (lim_small a3 (by omega)) ly)
    exact ⟨t', p, _, f', dp, by rw [step (c := ct_b3_b1_r0) rfl g0, step (c := ct_b3_b1_r1) rfl g1]; exact q⟩
  · have g1 : evS W ct_b3_b1_s1 [some t, x1, x2, some (.lst (ps.map .leaf)), some (.leaf (.int c)), x5, some (.leaf (.int y)), some (.lst (acc.map .leaf)), some (.leaf (.int x)), some (.leaf (.tuple [.int c, .int x, .int y])), x10] = .ok .nx [some t1, x1, x2, some (.lst (ps.map .leaf)), some (.leaf (.int c)), x5, some (.leaf (.int y)), some (.lst (acc.map .leaf)), some (.leaf (.int x)), some (.leaf (.tuple [.int c, .int x, .int y])), x10] := by
      generalize T.lst (ps.map .leaf) = S at *
      generalize T.lst (acc.map T.leaf) = A at *
      simp [ct_b3_b1_s1, evSs, evS, evC, evCs, Cop.d, hd, lens, maskN, k1, hr]
    obtain ⟨t', p, f', dp, q⟩ := fin (.tuple [.int c, .int x, .int y]) (k + 1) t1 (by omega) f1 (dt_id lc lx ly)
    exact ⟨t', p, _, f', dp, by rw [step (c := ct_b3_b1_r0) rfl g0, step (c := ct_b3_b1_r1) rfl g1]; exact q⟩
theorem line_ok {W : Wd} {Fd : FSem} (hd : W.fn "_law_draw" = some ⟨2, [0], Fd⟩) (sd : SpDraw Fd) (cells : List Int) {k : Nat} {t : T} (hk : k + 100 < 2 ^ 26) (ht : FeedOk cells k t) {ps rows : List D} (hps : ps.length = 4) (hp : ∀ p ∈ ps, IsPx p) (hrows : rows.length ≤ 100) {c w y : Int} {Wn : Nat} (hw : w = Wn) (hw9 : Wn ≤ 8) (lc : lim 100 c) (ly : lim 100 y) (x2 x7 x8 x9 x10 : Option T) :
    ∃ (t' : T) (row : List D) (y7 y8 y9 : Option T), FeedOk cells (k + 32) t' ∧ row.length = Wn ∧ (∀ p ∈ row, IsCl p) ∧ evSs W ct_b3_r0 [some t, some (.leaf (.int w)), x2, some (.lst (ps.map .leaf)), some (.leaf (.int c)), some (.lst (rows.map .leaf)), some (.leaf (.int y)), x7, x8, x9, x10] = .ok .nx [some t', some (.leaf (.int w)), x2, some (.lst (ps.map .leaf)), some (.leaf (.int c)), some (.lst ((rows ++ [PyData.tuple row]).map .leaf)), some (.leaf (.int y)), y7, y8, y9, x10] := by
  have g0 : evS W ct_b3_s0 [some t, some (.leaf (.int w)), x2, some (.lst (ps.map .leaf)), some (.leaf (.int c)), some (.lst (rows.map .leaf)), some (.leaf (.int y)), x7, x8, x9, x10] = .ok .nx [some t, some (.leaf (.int w)), x2, some (.lst (ps.map .leaf)), some (.leaf (.int c)), some (.lst (rows.map .leaf)), some (.leaf (.int y)), some (.lst (([] : List D).map .leaf)), x8, x9, x10] := by
    generalize T.lst (ps.map .leaf) = S at *
    generalize T.lst (rows.map T.leaf) = A at *
    simp [ct_b3_s0, evS, evC, evCs]
  let Inv : Nat → En → Prop := fun i e => ∃ (t' : T) (row : List D) (y8 y9 : Option T), FeedOk cells (k + 4 * i) t' ∧ row.length = i ∧ (∀ p ∈ row, IsCl p) ∧ e = [some t', some (.leaf (.int w)), x2, some (.lst (ps.map .leaf)), some (.leaf (.int c)), some (.lst (rows.map .leaf)), some (.leaf (.int y)), some (.lst (row.map .leaf)), y8, y9, x10]
  obtain ⟨e', q1, t', row, y8, y9, f', l', d', rfl⟩ := gFor_inv (bd := evTg W (.nm 8)) (b := evSs W ct_b3_b1_r0) Inv (rangeL 0 Wn) 0 [some t, some (.leaf (.int w)), x2, some (.lst (ps.map .leaf)), some (.leaf (.int c)), some (.lst (rows.map .leaf)), some (.leaf (.int y)), some (.lst (([] : List D).map .leaf)), x8, x9, x10] ⟨t, [], x8, x9, ht, rfl, (fun _ h => nomatch h), rfl⟩ (by
    rintro i d e hi ⟨t3, row, y8, y9, f3, l3, d3, rfl⟩
    obtain ⟨hil, rfl⟩ := rg_at hi
    obtain ⟨t4, p, z9, f4, dp, q⟩ := cell_ok hd sd cells (k := k + 4 * (0 + i)) (by omega) f3 hps hp (acc := row) (by omega) lc (x := 0 + (i : Int)) (lim_small (by omega) (by omega)) ly (some (.leaf (.int w))) x2 (some (.lst (rows.map .leaf))) y9 x10
    refine ⟨_, ?_, t4, row ++ [p], some (.leaf (.int (0 + (i : Int)))), z9, by rw [show k + 4 * (0 + i + 1) = k + 4 * (0 + i) + 4 by omega]; exact f4, by simp [l3], fun z hz => ?_, rfl⟩
    · rw [← q]
      generalize T.lst (ps.map .leaf) = S
      generalize T.lst (rows.map .leaf) = A
      generalize T.lst (row.map .leaf) = B
      simp [evTg]
    · rcases List.mem_append.mp hz with hz | hz
      · exact d3 z hz
      · simp only [List.mem_cons, List.not_mem_nil, or_false] at hz
        subst hz
        exact dp)
  have lr : (rangeL 0 Wn).length = Wn := by simp [rangeL]
  rw [lr, Nat.zero_add] at f' l'
  have hrg := rng_c hw (by omega)
  have g1 : evS W ct_b3_s1 [some t, some (.leaf (.int w)), x2, some (.lst (ps.map .leaf)), some (.leaf (.int c)), some (.lst (rows.map .leaf)), some (.leaf (.int y)), some (.lst (([] : List D).map .leaf)), x8, x9, x10] = .ok .nx [some t', some (.leaf (.int w)), x2, some (.lst (ps.map .leaf)), some (.leaf (.int c)), some (.lst (rows.map .leaf)), some (.leaf (.int y)), some (.lst (row.map .leaf)), y8, y9, x10] := by
    have hi : evI W ct_b3_i1 [some t, some (.leaf (.int w)), x2, some (.lst (ps.map .leaf)), some (.leaf (.int c)), some (.lst (rows.map .leaf)), some (.leaf (.int y)), some (.lst (([] : List D).map .leaf)), x8, x9, x10] = .ok (rangeL 0 Wn) [some t, some (.leaf (.int w)), x2, some (.lst (ps.map .leaf)), some (.leaf (.int c)), some (.lst (rows.map .leaf)), some (.leaf (.int y)), some (.lst (([] : List D).map .leaf)), x8, x9, x10] := by
      generalize T.lst (ps.map .leaf) = S
      generalize T.lst (rows.map .leaf) = A
      simp [ct_b3_i1, evI, gRng, evC, evCs, hrg]
    simp only [ct_b3_s1_eq, evS]
    rw [ap_bnd, hi]
    exact q1
  have htl : (rows.map T.leaf).length < most := by simp; exact Nat.lt_of_le_of_lt hrows (by decide)
  have hz : frz (.lst (row.map .leaf)) = .list row := frz_lvs _
  have t1 : tupleD [.list row] = some (.leaf (.tuple row)) := rfl
  refine ⟨t', row, some (.leaf (.list row)), y8, y9, f'.mono (by omega), l', d', ?_⟩
  rw [step (c := ct_b3_r0) rfl g0, step (c := ct_b3_r1) rfl g1]
  have hA : T.lst ((rows ++ [PyData.tuple row]).map .leaf) = .lst (rows.map .leaf ++ [.leaf (.tuple row)]) := by simp
  rw [hA]
  generalize T.lst (ps.map .leaf) = S at *
  generalize T.lst (row.map .leaf) = B at *
  generalize rows.map T.leaf = A at *
  simp [ct_b3_r2, ct_b3_s2, ct_b3_r3, evSs, evS, evC, evCs, Bif.d, hz, t1, htl]
def SpCont (F : FSem) : Prop := ∀ (cells : List Int) (k : Nat) (t : T) (w h : Nat), k + 400 < 2 ^ 26 → FeedOk cells k t → w ≤ 8 → h ≤ 8 → ∃ (d : D) (t' : T), (∃ rs : List (List Cl), rs.length = h ∧ (∀ r ∈ rs, r.length = w ∧ ∀ x ∈ r, x.Ok) ∧ d = rowsD rs) ∧ FeedOk cells (k + 300) t' ∧ F [t, .leaf (.int w), .leaf (.int h)] = some (.leaf d, [some t', none, none])
theorem points_ok {W : Wd} {Fp : FSem} (hp : W.fn "_law_point" = some ⟨1, [0], Fp⟩) (sp : SpPoint Fp) (cells : List Int) {k : Nat} {t : T} (hk : k + 100 < 2 ^ 26) (ht : FeedOk cells k t) (x1 x2 x3 x4 x5 x6 x7 x8 x9 x10 : Option T) :
    ∃ (t' : T) (ps : List D), FeedOk cells (k + 16) t' ∧ ps.length = 4 ∧ (∀ p ∈ ps, IsPx p) ∧ evC W (.comp [10] (.nm 10) (.rng1 (.val (.int 4) .nil)) .no (.call "_law_point" (.lend 0 .nil))) [some t, x1, x2, x3, x4, x5, x6, x7, x8, x9, x10] = .ok (.lst (ps.map .leaf)) [some t', x1, x2, x3, x4, x5, x6, x7, x8, x9, none] := by
  let Inv : Nat → List D → En → Prop := fun i acc e => ∃ (t' : T) (y : Option T), FeedOk cells (k + 4 * i) t' ∧ (∀ x ∈ acc, IsPx x) ∧ e = [some t', x1, x2, x3, x4, x5, x6, x7, x8, x9, y]
  obtain ⟨e', acc, q1, q2, t', y6, f', d', rfl⟩ := gLc_inv (vs := [10]) (bd := evTg W (.nm 10)) (tt := evCond W .no) (el := fz (evC W (.call "_law_point" (.lend 0 .nil)))) Inv (rangeL 0 4) 0 [] [some t, x1, x2, x3, x4, x5, x6, x7, x8, x9, x10] (by simp [rangeL, most]) ⟨t, x10, ht, (fun _ h => nomatch h), rfl⟩ (by
    rintro i d acc e hi ⟨t3, y6, f3, d3, rfl⟩
    obtain ⟨hil, rfl⟩ := rg_at (C := 4) hi
    obtain ⟨p, t4, dp, f4, k4⟩ := sp cells (k + 4 * (0 + i)) t3 (by omega) f3
    refine ⟨[some t4, x1, x2, x3, x4, x5, x6, x7, x8, x9, some (.leaf (.int (0 + (i : Int))))], p, ?_, t4, _, by rw [show k + 4 * (0 + i + 1) = k + 4 * (0 + i) + 4 by omega]; exact f4, fun z hz => ?_, rfl⟩
    · simp [evTg, wipeM, wipeE, evCond, evC, evCs, hp, lens, maskN, k4]
    · rcases List.mem_append.mp hz with hz | hz
      · exact d3 z hz
      · simp only [List.mem_cons, List.not_mem_nil, or_false] at hz
        subst hz
        exact dp)
  have lr : (rangeL 0 4).length = 4 := by simp [rangeL]
  rw [lr] at f' q2
  refine ⟨t', acc, f'.mono (by omega), by simpa using q2, d', ?_⟩
  have hi : evI W (.rng1 (.val (.int 4) .nil)) [some t, x1, x2, x3, x4, x5, x6, x7, x8, x9, x10] = .ok (rangeL 0 4) [some t, x1, x2, x3, x4, x5, x6, x7, x8, x9, x10] := by
    simp [evI, gRng, evC, evCs, rng1, show far 4 = true from by decide]
  rw [ev_comp', ap_bnd, hi]
  exact q1
theorem run_lcontent {W : Wd} {Fd Fp : FSem} (hd : W.fn "_law_draw" = some ⟨2, [0], Fd⟩) (sd : SpDraw Fd) (hp : W.fn "_law_point" = some ⟨1, [0], Fp⟩) (sp : SpPoint Fp) : SpCont (runM n__law_content.length 3 [0] (evSs W c__law_content)) := by
  intro cells k t w h hk ht hw4 hh4
  obtain ⟨wi, hw⟩ : ∃ wi : Int, wi = w := ⟨_, rfl⟩
  obtain ⟨hi', hh⟩ : ∃ hi' : Int, hi' = h := ⟨_, rfl⟩
  rw [← hw, ← hh]
  obtain ⟨t1, ps, f1, lps, dps, hcc⟩ := points_ok hp sp cells (k := k) (by omega) ht (some (.leaf (.int wi))) (some (.leaf (.int hi'))) none none none none none none none none
  obtain ⟨c0, t2, a2, b2, f2, k2⟩ := sd cells (k + 16) t1 9 (by omega) f1 (by decide) (by decide)
  have lc : lim 100 (1 + c0) := lim_small (by omega) (by omega)
  have g0 : evS W ct_s0 [some t, some (.leaf (.int wi)), some (.leaf (.int hi')), none, none, none, none, none, none, none, none] = .ok .nx [some t1, some (.leaf (.int wi)), some (.leaf (.int hi')), some (.lst (ps.map .leaf)), none, none, none, none, none, none, none] := by
    unfold ct_s0
    generalize IL.C.comp [10] (.nm 10) (.rng1 (.val (.int 4) .nil)) .no (.call "_law_point" (.lend 0 .nil)) = cc at *
    generalize T.lst (ps.map .leaf) = S at *
    simp [evS, hcc]
  have g1 : evS W ct_s1 [some t1, some (.leaf (.int wi)), some (.leaf (.int hi')), some (.lst (ps.map .leaf)), none, none, none, none, none, none, none] = .ok .nx [some t2, some (.leaf (.int wi)), some (.leaf (.int hi')), some (.lst (ps.map .leaf)), some (.leaf (.int (1 + c0))), none, none, none, none, none, none] := by
    generalize T.lst (ps.map .leaf) = S at *
    simp [ct_s1, evS, evC, evCs, Bop.d, hd, lens, maskN, k2]
  generalize 1 + c0 = c at *
  have g2 : evS W ct_s2 [some t2, some (.leaf (.int wi)), some (.leaf (.int hi')), some (.lst (ps.map .leaf)), some (.leaf (.int c)), none, none, none, none, none, none] = .ok .nx [some t2, some (.leaf (.int wi)), some (.leaf (.int hi')), some (.lst (ps.map .leaf)), some (.leaf (.int c)), some (.lst (([] : List D).map .leaf)), none, none, none, none, none] := by
    generalize T.lst (ps.map .leaf) = S at *
    simp [ct_s2, evS, evC, evCs]
  let Inv : Nat → En → Prop := fun i e => ∃ (t' : T) (rows : List D) (y6 y7 y8 y9 : Option T), FeedOk cells (k + 17 + 32 * i) t' ∧ rows.length = i ∧ (∀ r ∈ rows, IsRow w r) ∧ e = [some t', some (.leaf (.int wi)), some (.leaf (.int hi')), some (.lst (ps.map .leaf)), some (.leaf (.int c)), some (.lst (rows.map .leaf)), y6, y7, y8, y9, none]
  obtain ⟨e', q1, t', rows, y6, y7, y8, y9, f', l', d', rfl⟩ := gFor_inv (bd := evTg W (.nm 6)) (b := evSs W ct_b3_r0) Inv (rangeL 0 h) 0 [some t2, some (.leaf (.int wi)), some (.leaf (.int hi')), some (.lst (ps.map .leaf)), some (.leaf (.int c)), some (.lst (([] : List D).map .leaf)), none, none, none, none, none] ⟨t2, [], none, none, none, none, f2.mono (by omega), rfl, (fun _ h => nomatch h), rfl⟩ (by
    rintro i d e hi ⟨t3, rows, y6, y7, y8, y9, f3, l3, d3, rfl⟩
    obtain ⟨hil, rfl⟩ := rg_at hi
    obtain ⟨t4, row, z7, z8, z9, f4, lr, dr, q⟩ := line_ok hd sd cells (k := k + 17 + 32 * (0 + i)) (by omega) f3 lps dps (rows := rows) (by omega) hw hw4 lc (y := 0 + (i : Int)) (lim_small (by omega) (by omega)) (some (.leaf (.int hi'))) y7 y8 y9 none
    refine ⟨_, ?_, t4, rows ++ [PyData.tuple row], some (.leaf (.int (0 + (i : Int)))), z7, z8, z9, by rw [show k + 17 + 32 * (0 + i + 1) = k + 17 + 32 * (0 + i) + 32 by omega]; exact f4, by simp [l3], fun z hz => ?_, rfl⟩
    · rw [← q]
      generalize T.lst (ps.map .leaf) = S
      generalize T.lst (rows.map .leaf) = A
      simp [evTg]
    · rcases List.mem_append.mp hz with hz | hz
      · exact d3 z hz
      · simp only [List.mem_cons, List.not_mem_nil, or_false] at hz
        subst hz
        exact isRow_mk lr dr)
  have lr : (rangeL 0 h).length = h := by simp [rangeL]
  rw [lr, Nat.zero_add] at f' l'
  have hrg := rng_c hh (by omega)
  have g3 : evS W ct_s3 [some t2, some (.leaf (.int wi)), some (.leaf (.int hi')), some (.lst (ps.map .leaf)), some (.leaf (.int c)), some (.lst (([] : List D).map .leaf)), none, none, none, none, none] = .ok .nx [some t', some (.leaf (.int wi)), some (.leaf (.int hi')), some (.lst (ps.map .leaf)), some (.leaf (.int c)), some (.lst (rows.map .leaf)), y6, y7, y8, y9, none] := by
    have hi : evI W ct_i3 [some t2, some (.leaf (.int wi)), some (.leaf (.int hi')), some (.lst (ps.map .leaf)), some (.leaf (.int c)), some (.lst (([] : List D).map .leaf)), none, none, none, none, none] = .ok (rangeL 0 h) [some t2, some (.leaf (.int wi)), some (.leaf (.int hi')), some (.lst (ps.map .leaf)), some (.leaf (.int c)), some (.lst (([] : List D).map .leaf)), none, none, none, none, none] := by
      generalize T.lst (ps.map .leaf) = S
      simp [ct_i3, evI, gRng, evC, evCs, hrg]
    simp only [ct_s3_eq, evS]
    rw [ap_bnd, hi]
    exact q1
  have hz : frz (.lst (rows.map .leaf)) = .list rows := frz_lvs _
  have t1' : tupleD [.list rows] = some (.leaf (.tuple rows)) := rfl
  obtain ⟨rs, hrs, e⟩ := all_of (P := fun r : List Cl => r.length = w ∧ ∀ x ∈ r, x.Ok) rowD (ds := rows) fun r hr => by
    obtain ⟨q, q1, q2, q3⟩ := d' r hr
    exact ⟨q, ⟨q1, q2⟩, q3⟩
  refine ⟨.tuple rows, t', ⟨rs, by rw [← l', e, List.length_map], hrs, by rw [e]; rfl⟩, f'.mono (by omega), ?_⟩
  · refine run_lent3g (e' := [some (.leaf (.int wi)), some (.leaf (.int hi')), some (.lst (ps.map .leaf)), some (.leaf (.int c)), some (.leaf (.list rows)), y6, y7, y8, y9, none]) ?_ (by simp)
    show evSs W c__law_content [some t, some (.leaf (.int wi)), some (.leaf (.int hi')), none, none, none, none, none, none, none, none] = _
    rw [ct_eq, step (c := ct_r0) rfl g0, step (c := ct_r1) rfl g1, step (c := ct_r2) rfl g2, step (c := ct_r3) rfl g3]
    generalize T.lst (ps.map .leaf) = S
    generalize T.lst (rows.map .leaf) = A at *
    simp [ct_r4, ct_s4, ct_r5, evSs, evS, evC, evCs, Bif.d, hz, t1']
end Fc

namespace Fc
open PySem PySem.Spec PyProof.Rows L2 IL
def SpNode (F : FSem) : Prop := ∀ (cells : List Int) (k : Nat) (t : T) (nm pr : D) (wide : Nat), k + 800 < 2 ^ 26 → FeedOk cells k t → 1 ≤ wide → wide ≤ 8 → ∃ (x y : Int) (clip : Option (Int × Int × Int × Int)) (op : Nat) (hid : Bool) (cont : Option (List (List Cl))) (t' : T), lim 20 x ∧ lim 20 y ∧ clipOk clip ∧ op ≤ 16 ∧ (∀ rs, cont = some rs → RowsOk wide rs) ∧ FeedOk cells (k + 350) t' ∧
  F [t, .leaf nm, .leaf pr, .leaf (.int wide)] = some (.leaf (.tuple [nm, pr, .int x, .int y, clipD clip, fq (q16 op), .bool hid, contD cont]), [some t', none, none, none])
theorem lim_a {i : Int} (h0 : -(2 ^ 20) < i) (h1 : i < 2 ^ 20) : lim 20 i := show i.natAbs < 2 ^ 20 by omega
theorem run_lnode {W : Wd} {Fd Fr Fc : FSem} (hd : W.fn "_law_draw" = some ⟨2, [0], Fd⟩) (sd : SpDraw Fd) (hr : W.fn "_law_frac" = some ⟨2, [], Fr⟩) (sr : SpFr Fr) (hc : W.fn "_law_content" = some ⟨3, [0], Fc⟩) (sc : SpCont Fc) : SpNode (runM n__law_node.length 4 [0] (evSs W c__law_node)) := by
  intro cells k t nm pr wide hk ht hw1 hw3
  obtain ⟨wi, hw⟩ : ∃ wi : Int, wi = wide := ⟨_, rfl⟩
  rw [← hw]
  obtain ⟨r1, t1, a1, b1, f1, k1⟩ := sd cells k t 9 (by omega) ht (by decide) (by decide)
  obtain ⟨r2, t2, a2, b2, f2, k2⟩ := sd cells (k + 1) t1 7 (by omega) f1 (by decide) (by decide)
  obtain ⟨r3, t3, a3, b3, f3, k3⟩ := sd cells (k + 2) t2 5 (by omega) f2 (by decide) (by decide)
  obtain ⟨r4, t4, a4, b4, f4, k4⟩ := sd cells (k + 3) t3 5 (by omega) f3 (by decide) (by decide)
  obtain ⟨r5, t5, a5, b5, f5, k5⟩ := sd cells (k + 4) t4 6 (by omega) f4 (by decide) (by decide)
  obtain ⟨r6, t6, a6, b6, f6, k6⟩ := sd cells (k + 5) t5 6 (by omega) f5 (by decide) (by decide)
  obtain ⟨r7, t7, a7, b7, f7, k7⟩ := sd cells (k + 6) t6 4 (by omega) f6 (by decide) (by decide)
  obtain ⟨r8, t8, a8, b8, f8, k8⟩ := sd cells (k + 7) t7 17 (by omega) f7 (by decide) (by decide)
  obtain ⟨r9, t9, a9, b9, f9, k9⟩ := sd cells (k + 8) t8 5 (by omega) f8 (by decide) (by decide)
  obtain ⟨r10, t10, a10, b10, f10, k10⟩ := sd cells (k + 9) t9 9 (by omega) f9 (by decide) (by decide)
  obtain ⟨r11, t11, a11, b11, f11, k11⟩ := sd cells (k + 10) t10 6 (by omega) f10 (by decide) (by decide)
  obtain ⟨v, hv, iv⟩ := pick (is := [16, 16, 16, r8, 0]) a9 (by simpa using b9)
  have hv0 : 0 ≤ v ∧ v ≤ 16 := by
    simp only [List.mem_cons, List.not_mem_nil, or_false] at hv
    rcases hv with rfl | rfl | rfl | rfl | rfl <;> omega
  have lv := lim_small hv0.1 (by omega)
  obtain ⟨vn, rfl⟩ := Int.eq_ofNat_of_zero_le hv0.1
  have kf := sr (vn : Int) 16 (by decide) (lim_mono lv (by decide)) (by decide)
  simp only [lf2, nn] at kf
  simp only [List.map_cons, List.map_nil] at iv
  obtain ⟨OP, hOP⟩ : ∃ OP, OP = fq (q16 vn) := ⟨_, rfl⟩
  rw [show fq (Rat.divInt (vn : Int) 16) = OP from hOP.symm] at kf
  obtain ⟨x, hx⟩ : ∃ x, x = r1 - 3 := ⟨_, rfl⟩
  obtain ⟨y, hy⟩ : ∃ y, y = r2 - 3 := ⟨_, rfl⟩
  obtain ⟨l, hl⟩ : ∃ l, l = r3 - 1 := ⟨_, rfl⟩
  obtain ⟨tp, htp⟩ : ∃ tp, tp = r4 - 1 := ⟨_, rfl⟩
  have g0 : evS W nd_s0 [some t, some (.leaf nm), some (.leaf pr), some (.leaf (.int wi)), none, none, none, none, none, none, none, none] = .ok .nx [some t2, some (.leaf nm), some (.leaf pr), some (.leaf (.int wi)), some (.leaf (.int x)), some (.leaf (.int y)), none, none, none, none, none, none] := by
    rw [hx, hy]
    simp [nd_s0, evS, evC, evCs, Bop.d, gPar, hd, lens, maskN, k1, k2]
  have g1 : evS W nd_s1 [some t2, some (.leaf nm), some (.leaf pr), some (.leaf (.int wi)), some (.leaf (.int x)), some (.leaf (.int y)), none, none, none, none, none, none] = .ok .nx [some t4, some (.leaf nm), some (.leaf pr), some (.leaf (.int wi)), some (.leaf (.int x)), some (.leaf (.int y)), some (.leaf (.int l)), some (.leaf (.int tp)), none, none, none, none] := by
    rw [hl, htp]
    simp [nd_s1, evS, evC, evCs, Bop.d, gPar, hd, lens, maskN, k3, k4]
  have mk4 : ∀ a b c d : D, mkTup [.leaf a, .leaf b, .leaf c, .leaf d] = .leaf (.tuple [a, b, c, d]) := fun _ _ _ _ => rfl
  obtain ⟨rg, hrg⟩ : ∃ rg, rg = l + 1 + r5 := ⟨_, rfl⟩
  obtain ⟨bt, hbt⟩ : ∃ bt, bt = tp + 1 + r6 := ⟨_, rfl⟩
  have g2 : evS W nd_s2 [some t4, some (.leaf nm), some (.leaf pr), some (.leaf (.int wi)), some (.leaf (.int x)), some (.leaf (.int y)), some (.leaf (.int l)), some (.leaf (.int tp)), none, none, none, none] = .ok .nx [some t6, some (.leaf nm), some (.leaf pr), some (.leaf (.int wi)), some (.leaf (.int x)), some (.leaf (.int y)), some (.leaf (.int l)), some (.leaf (.int tp)), some (.leaf (.tuple [.int l, .int tp, .int rg, .int bt])), none, none, none] := by
    rw [hrg, hbt]
    simp [nd_s2, evS, evC, evCs, Bop.d, hd, lens, maskN, k5, k6, mk4]
  obtain ⟨clip, hclip, g3⟩ : ∃ clip : Option (Int × Int × Int × Int), clipOk clip ∧ evS W nd_s3 [some t6, some (.leaf nm), some (.leaf pr), some (.leaf (.int wi)), some (.leaf (.int x)), some (.leaf (.int y)), some (.leaf (.int l)), some (.leaf (.int tp)), some (.leaf (.tuple [.int l, .int tp, .int rg, .int bt])), none, none, none] = .ok .nx [some t7, some (.leaf nm), some (.leaf pr), some (.leaf (.int wi)), some (.leaf (.int x)), some (.leaf (.int y)), some (.leaf (.int l)), some (.leaf (.int tp)), some (.leaf (clipD clip)), none, none, none] := by
    by_cases h7 : r7 = 0
    · refine ⟨some (l, tp, rg, bt), ⟨lim_a (by omega) (by omega), lim_a (by omega) (by omega), lim_a (by omega) (by omega), lim_a (by omega) (by omega)⟩, ?_⟩
      simp [nd_s3, evS, evC, evCs, Cop.d, hd, lens, maskN, k7, h7, clipD]
    · refine ⟨none, trivial, ?_⟩
      simp [nd_s3, evS, evC, evCs, Cop.d, hd, lens, maskN, k7, h7, clipD]
  have g4 : evS W nd_s4 [some t7, some (.leaf nm), some (.leaf pr), some (.leaf (.int wi)), some (.leaf (.int x)), some (.leaf (.int y)), some (.leaf (.int l)), some (.leaf (.int tp)), some (.leaf (clipD clip)), none, none, none] = .ok .nx [some t9, some (.leaf nm), some (.leaf pr), some (.leaf (.int wi)), some (.leaf (.int x)), some (.leaf (.int y)), some (.leaf (.int l)), some (.leaf (.int tp)), some (.leaf (clipD clip)), some (.leaf OP), none, none] := by
    simp [nd_s4, evS, evC, evCs, hd, hr, lens, maskN, k8, k9, iv, kf]
  obtain ⟨hid, hhid⟩ : ∃ hid : Bool, hid = decide (r10 = 0) := ⟨_, rfl⟩
  have g5 : evS W nd_s5 [some t9, some (.leaf nm), some (.leaf pr), some (.leaf (.int wi)), some (.leaf (.int x)), some (.leaf (.int y)), some (.leaf (.int l)), some (.leaf (.int tp)), some (.leaf (clipD clip)), some (.leaf OP), none, none] = .ok .nx [some t10, some (.leaf nm), some (.leaf pr), some (.leaf (.int wi)), some (.leaf (.int x)), some (.leaf (.int y)), some (.leaf (.int l)), some (.leaf (.int tp)), some (.leaf (clipD clip)), some (.leaf OP), some (.leaf (.bool hid)), none] := by
    rw [hhid]
    simp [nd_s5, evS, evC, evCs, Cop.d, hd, lens, maskN, k10]
  have g6 : evS W nd_s6 [some t10, some (.leaf nm), some (.leaf pr), some (.leaf (.int wi)), some (.leaf (.int x)), some (.leaf (.int y)), some (.leaf (.int l)), some (.leaf (.int tp)), some (.leaf (clipD clip)), some (.leaf OP), some (.leaf (.bool hid)), none] = .ok .nx [some t10, some (.leaf nm), some (.leaf pr), some (.leaf (.int wi)), some (.leaf (.int x)), some (.leaf (.int y)), some (.leaf (.int l)), some (.leaf (.int tp)), some (.leaf (clipD clip)), some (.leaf OP), some (.leaf (.bool hid)), some (.leaf .none)] := by
    simp [nd_s6, evS, evC]
  obtain ⟨cont, t14, hcont, f14, g7⟩ : ∃ (cont : Option (List (List Cl))) (t14 : T), (∀ rs, cont = some rs → RowsOk wide rs) ∧ FeedOk cells (k + 350) t14 ∧ evS W nd_s7 [some t10, some (.leaf nm), some (.leaf pr), some (.leaf (.int wi)), some (.leaf (.int x)), some (.leaf (.int y)), some (.leaf (.int l)), some (.leaf (.int tp)), some (.leaf (clipD clip)), some (.leaf OP), some (.leaf (.bool hid)), some (.leaf .none)] = .ok .nx [some t14, some (.leaf nm), some (.leaf pr), some (.leaf (.int wi)), some (.leaf (.int x)), some (.leaf (.int y)), some (.leaf (.int l)), some (.leaf (.int tp)), some (.leaf (clipD clip)), some (.leaf OP), some (.leaf (.bool hid)), some (.leaf (contD cont))] := by
    by_cases h11 : 0 < r11
    · obtain ⟨r12, t12, a12, b12, f12, k12⟩ := sd cells (k + 11) t11 wi (by omega) f11 (by omega) (by omega)
      obtain ⟨r13, t13, a13, b13, f13, k13⟩ := sd cells (k + 12) t12 wi (by omega) f12 (by omega) (by omega)
      obtain ⟨w, hwn⟩ := Int.eq_ofNat_of_zero_le (show 0 ≤ 1 + r12 by omega)
      obtain ⟨h, hhn⟩ := Int.eq_ofNat_of_zero_le (show 0 ≤ 1 + r13 by omega)
      obtain ⟨d, t14, ⟨rs, hrs1, hrs2, rfl⟩, f14, k14⟩ := sc cells (k + 13) t13 w h (by omega) f13 (by omega) (by omega)
      rw [show ((w : Nat) : Int) = 1 + r12 from hwn.symm, show ((h : Nat) : Int) = 1 + r13 from hhn.symm] at k14
      refine ⟨some rs, t14, fun rs' e => ?_, f14.mono (by omega), ?_⟩
      · cases e
        exact ⟨by omega, by omega, ⟨w, by omega, by omega, fun r hr => (hrs2 r hr).1⟩, fun r hr => (hrs2 r hr).2⟩
      show _ = Res.ok Fl.nx [some t14, some (.leaf nm), some (.leaf pr), some (.leaf (.int wi)), some (.leaf (.int x)), some (.leaf (.int y)), some (.leaf (.int l)), some (.leaf (.int tp)), some (.leaf (clipD clip)), some (.leaf OP), some (.leaf (.bool hid)), some (.leaf (rowsD rs))]
      generalize rowsD rs = RD at *
      simp [nd_s7, evSs, evS, evC, evCs, Cop.d, Bop.d, hd, hc, lens, maskN, k11, h11, k12, k13, k14]
    · refine ⟨none, t11, fun rs' e => (nomatch e), f11.mono (by omega), ?_⟩
      simp [contD, nd_s7, evSs, evS, evC, evCs, Cop.d, Bop.d, hd, lens, maskN, k11, h11]
  refine ⟨x, y, clip, vn, hid, cont, t14, lim_a (by omega) (by omega), lim_a (by omega) (by omega), hclip, by omega, hcont, f14, ?_⟩
  rw [← hOP]
  generalize contD cont = CN at *
  generalize clipD clip = CD at *
  refine run_lent4g (e' := [some (.leaf nm), some (.leaf pr), some (.leaf (.int wi)), some (.leaf (.int x)), some (.leaf (.int y)), some (.leaf (.int l)), some (.leaf (.int tp)), some (.leaf CD), some (.leaf OP), some (.leaf (.bool hid)), some (.leaf CN)]) ?_ (by simp)
  · show evSs W c__law_node [some t, some (.leaf nm), some (.leaf pr), some (.leaf (.int wi)), none, none, none, none, none, none, none, none] = _
    rw [nd_eq, step (c := nd_r0) rfl g0, step (c := nd_r1) rfl g1, step (c := nd_r2) rfl g2, step (c := nd_r3) rfl g3, step (c := nd_r4) rfl g4, step (c := nd_r5) rfl g5, step (c := nd_r6) rfl g6, step (c := nd_r7) rfl g7]
    have mk8 : ∀ a b c d e f g h : D, mkTup [.leaf a, .leaf b, .leaf c, .leaf d, .leaf e, .leaf f, .leaf g, .leaf h] = .leaf (.tuple [a, b, c, d, e, f, g, h]) := fun _ _ _ _ _ _ _ _ => rfl
    simp [nd_r8, nd_s8, nd_r9, evSs, evS, evC, evCs, mk8]
end Fc

namespace Fc
open PySem PySem.Spec PyProof.Rows L2 IL
theorem er_map {α : Type} (f : α → T) (ps : List α) : ∀ j : Nat, (ps.map f).eraseIdx j = (ps.eraseIdx j).map f := by
  induction ps with
  | nil => intro j; rfl
  | cons p ps ih =>
    intro j
    cases j with
    | zero => rfl
    | succ j => simp [ih]
def strT (z : Str) : T := .leaf (.str z)
def ndT (n : Nd) : T := .leaf n.d
theorem ls_b0 {W : Wd} {Fd : FSem} (hd : W.fn "_law_draw" = some ⟨2, [0], Fd⟩) (sd : SpDraw Fd) (cells : List Int) {k : Nat} {t : T} (hk : k + 300 < 2 ^ 26) (ht : FeedOk cells k t) (tr : List Nd) {ki : Int} (hki : ki = tr.length) (h6 : tr.length ≤ 6) (x1 x2 x3 x6 x7 : Option T) :
    ∃ (pr : Str) (t' : T), (pr = "" ∨ pr ∈ tr.map (·.nm)) ∧ FeedOk cells (k + 2) t' ∧ evS W ls_b2_s0 [some t, x1, x2, x3, some (.lst (tr.map ndT)), some (.leaf (.int ki)), x6, x7] = .ok .nx [some t', x1, x2, x3, some (.lst (tr.map ndT)), some (.leaf (.int ki)), some (.leaf (.str pr)), x7] := by
  by_cases h0 : 0 < ki
  · obtain ⟨r, t1, a1, b1, f1, k1⟩ := sd cells k t 2 (by omega) ht (by decide) (by decide)
    by_cases hr : r = 0
    · subst hr
      obtain ⟨r2, t2, a2, b2, f2, k2⟩ := sd cells (k + 1) t1 ki (by omega) f1 h0 (by omega)
      obtain ⟨j, rfl⟩ := Int.eq_ofNat_of_zero_le a2
      have hj : j < tr.length := by omega
      have N : ixN (tr.map ndT).length (j : Int) = some j := by simp [ixN, hj]
      have at' : tIx (.lst (tr.map ndT)) (.int (j : Int)) = some tr[j].d := by
        have g : (tr.map ndT)[j]? = some (.leaf tr[j].d) := by simp [hj, ndT]
        simp only [tIx, L2.atI, N, Option.bind_some, g]
      have i0 : ixD tr[j].d (.int 0) = some (.str tr[j].nm) := ix_tup0 _ _
      refine ⟨tr[j].nm, t2, .inr (List.mem_map_of_mem (List.getElem_mem hj)), f2.mono (by omega), ?_⟩
      generalize T.lst (tr.map ndT) = A at *
      generalize (j : Int) = ji at *
      generalize tr[j].d = TT at *
      simp [ls_b2_s0, evS, evC, evCs, Cop.d, h0, hd, lens, maskN, k1, k2, at', i0]
    · refine ⟨"", t1, .inl rfl, f1.mono (by omega), ?_⟩
      generalize T.lst (tr.map ndT) = A at *
      simp [ls_b2_s0, evS, evC, evCs, Cop.d, h0, hd, lens, maskN, k1, hr]
  · refine ⟨"", t, .inl rfl, ht.mono (by omega), ?_⟩
    generalize T.lst (tr.map ndT) = A at *
    simp [ls_b2_s0, evS, evC, evCs, Cop.d, h0]
theorem frz_strs (ps : List Str) : frz (.lst (ps.map strT)) = .list (ps.map .str) := by
  rw [show ps.map strT = (ps.map PyData.str).map T.leaf by rw [List.map_map]; rfl, frz_lvs]
theorem frz_nds (tr : List Nd) : frz (.lst (tr.map ndT)) = .list (tr.map Nd.d) := by
  rw [show tr.map ndT = (tr.map Nd.d).map T.leaf by rw [List.map_map]; rfl, frz_lvs]
theorem ls_b1 {W : Wd} {Fd Fn : FSem} (hd : W.fn "_law_draw" = some ⟨2, [0], Fd⟩) (sd : SpDraw Fd) (hn : W.fn "_law_node" = some ⟨4, [0], Fn⟩) (sn : SpNode Fn) (cells : List Int) {k : Nat} {t : T} (hk : k + 1000 < 2 ^ 26) (ht : FeedOk cells k t) (ps : List Str) (tr : List Nd) (hp0 : 0 < ps.length) (hp6 : ps.length ≤ 6) (h6 : tr.length ≤ 6) (pr : Str) {wide : Nat} (hw1 : 1 ≤ wide) (hw8 : wide ≤ 8) {w3 : Int} (hw : w3 = (wide : Nat)) (x1 x5 x7 : Option T) :
    ∃ (j : Nat) (n : Nd) (t' : T) (hj : j < ps.length), n.nm = ps[j] ∧ n.par = pr ∧ n.Ok wide ∧ FeedOk cells (k + 360) t' ∧ evS W ls_b2_s1 [some t, x1, some (.leaf (.int w3)), some (.lst (ps.map strT)), some (.lst (tr.map ndT)), x5, some (.leaf (.str pr)), x7] = .ok .nx [some t', x1, some (.leaf (.int w3)), some (.lst ((ps.eraseIdx j).map strT)), some (.lst ((tr ++ [n]).map ndT)), x5, some (.leaf (.str pr)), x7] := by
  obtain ⟨li, hli⟩ : ∃ li : Int, li = ps.length := ⟨_, rfl⟩
  obtain ⟨r, t1, a1, b1, f1, k1⟩ := sd cells k t li (by omega) ht (by omega) (by omega)
  obtain ⟨j, hj'⟩ := Int.eq_ofNat_of_zero_le a1
  have hj : j < ps.length := by omega
  obtain ⟨x, y, clip, op, hid, cont, t2, q1, q2, q3, q4, q5, f2, k2⟩ := sn cells (k + 1) t1 (.str ps[j]) (.str pr) wide (by omega) f1 hw1 hw8
  rw [← hw] at k2
  have len1 : onlyI (lenD [frz (.lst (ps.map strT))]) = some (.leaf (.int li)) := by
    rw [frz_strs, hli]
    simp [lenD, onlyI]
  have hm : (ps.map strT).length ≤ most := by simp only [List.length_map]; exact Nat.le_trans hp6 (by decide)
  have N : ixN (ps.map strT).length r = some j := by rw [hj']; simp [ixN, hj]
  have G : (ps.map strT)[j]? = some (.leaf (.str ps[j])) := by simp [hj, strT]
  have E := er_map strT ps j
  have hl : (tr.map ndT).length < most := by simp only [List.length_map]; exact Nat.lt_of_le_of_lt h6 (by decide)
  refine ⟨j, ⟨ps[j], pr, x, y, clip, op, hid, cont⟩, t2, hj, rfl, rfl, ⟨q1, q2, q3, q4, q5⟩, f2.mono (by omega), ?_⟩
  have e9 : T.lst ((tr ++ [(⟨ps[j], pr, x, y, clip, op, hid, cont⟩ : Nd)]).map ndT) = .lst (tr.map ndT ++ [.leaf (.tuple [.str ps[j], .str pr, .int x, .int y, clipD clip, fq (q16 op), .bool hid, contD cont])]) := by
    rw [List.map_append]
    rfl
  rw [e9, ← E]
  clear E e9
  generalize PyData.tuple [.str ps[j], .str pr, .int x, .int y, clipD clip, fq (q16 op), .bool hid, contD cont] = TT at *
  generalize PyData.str ps[j] = p at *
  generalize ps.map strT = P at *
  generalize tr.map ndT = A at *
  simp [-frz_lst, ls_b2_s1, evS, evC, evCs, hd, hn, lens, maskN, consL, held, gVlen, gPop, popT, peek, len1, k1, hm, N, G, k2, hl]
def SpScene (F : FSem) : Prop := ∀ (cells : List Int) (k : Nat) (t : T) (most wide : Nat), k + 5000 < 2 ^ 26 → FeedOk cells k t → most ≤ 6 → 1 ≤ wide → wide ≤ 8 → ∃ (s : Sc) (t' : T), s.Ok wide ∧ s.tr.length ≤ most ∧ FeedOk cells (k + 2500) t' ∧ F [t, .leaf (.int most), .leaf (.int wide)] = some (.leaf s.d, [some t', none, none])
theorem pool_nodup : poolL.Nodup := by decide +kernel
theorem fq_one : fq (q16 16) = .tuple [.int 1, .int 1] := by
  have h : q16 16 = 1 := by decide +kernel
  rw [h]
  rfl
theorem run_lscene {W : Wd} {Fd Fr Fn : FSem} (hd : W.fn "_law_draw" = some ⟨2, [0], Fd⟩) (sd : SpDraw Fd) (hr : W.fn "_law_frac" = some ⟨2, [], Fr⟩) (sr : SpFr Fr) (hn : W.fn "_law_node" = some ⟨4, [0], Fn⟩) (sn : SpNode Fn) : SpScene (runM n__law_scene.length 3 [0] (evSs W c__law_scene)) := by
  intro cells k t most wide hk ht hmost hw1 hw8
  obtain ⟨mi, hmi⟩ : ∃ mi : Int, mi = most := ⟨_, rfl⟩
  obtain ⟨w3, hw3⟩ : ∃ w3 : Int, w3 = wide := ⟨_, rfl⟩
  rw [← hmi, ← hw3]
  obtain ⟨n, t1, an, bn, f1, k1⟩ := sd cells k t (mi + 1) (by omega) ht (by omega) (by omega)
  obtain ⟨N, hN⟩ := Int.eq_ofNat_of_zero_le an
  have hN6 : N ≤ most := by omega
  have g0 : evS W ls_s0 [some t, some (.leaf (.int mi)), some (.leaf (.int w3)), none, none, none, none, none] = .ok .nx [some t, some (.leaf (.int mi)), some (.leaf (.int w3)), some (.lst (poolL.map strT)), none, none, none, none] := by
    simp [ls_s0, evS, evC, evCs, poolL, strT]
  have g1 : evS W ls_s1 [some t, some (.leaf (.int mi)), some (.leaf (.int w3)), some (.lst (poolL.map strT)), none, none, none, none] = .ok .nx [some t, some (.leaf (.int mi)), some (.leaf (.int w3)), some (.lst (poolL.map strT)), some (.lst (([] : List Nd).map ndT)), none, none, none] := by
    generalize T.lst (poolL.map strT) = A
    simp [ls_s1, evS, evC, evCs]
  let Inv : Nat → En → Prop := fun i e => ∃ (t' : T) (ps : List Str) (tr : List Nd) (y5 y6 : Option T), FeedOk cells (k + 1 + 370 * i) t' ∧ ps.length + i = 6 ∧ ps.Nodup ∧ (∀ z ∈ ps, z ∈ poolL ∧ z ∉ tr.map (·.nm)) ∧ tr.length = i ∧ TreeOk wide tr ∧ e = [some t', some (.leaf (.int mi)), some (.leaf (.int w3)), some (.lst (ps.map strT)), some (.lst (tr.map ndT)), y5, y6, none]
  obtain ⟨e', q1, t', ps, tr, y5, y6, f', lp, ndp, pp, lt, tok, rfl⟩ := gFor_inv (bd := evTg W (.nm 5)) (b := evSs W ls_b2_r0) Inv (rangeL 0 N) 0 [some t1, some (.leaf (.int mi)), some (.leaf (.int w3)), some (.lst (poolL.map strT)), some (.lst (([] : List Nd).map ndT)), none, none, none] ⟨t1, poolL, [], none, none, f1.mono (by omega), rfl, pool_nodup, fun z hz => ⟨hz, by simp⟩, rfl, .nil, rfl⟩ (by
    rintro i d e hi ⟨t3, ps, tr, y5, y6, f3, lp, ndp, pp, lt, tok, rfl⟩
    obtain ⟨hil, rfl⟩ := rg_at hi
    clear hi
    obtain ⟨z, hz⟩ : ∃ z : Int, z = 0 + (i : Int) := ⟨_, rfl⟩
    rw [← hz]
    obtain ⟨pr, t4, hpr, f4, q4⟩ := ls_b0 (W := W) hd sd cells (k := k + 1 + 370 * (0 + i)) (by omega) f3 tr (ki := z) (by omega) (by omega) (some (.leaf (.int mi))) (some (.leaf (.int w3))) (some (.lst (ps.map strT))) y6 none
    obtain ⟨j, nd, t5, hj, hnm, hpar, hok, f5, q5⟩ := ls_b1 (W := W) hd sd hn sn cells (k := k + 1 + 370 * (0 + i) + 2) (by omega) f4 ps tr (by omega) (by omega) (by omega) pr hw1 hw8 hw3 (some (.leaf (.int mi))) (some (.leaf (.int z))) none
    have hmem : ps[j] ∈ ps := List.getElem_mem hj
    refine ⟨[some t5, some (.leaf (.int mi)), some (.leaf (.int w3)), some (.lst ((ps.eraseIdx j).map strT)), some (.lst ((tr ++ [nd]).map ndT)), some (.leaf (.int z)), some (.leaf (.str pr)), none], ?_, t5, ps.eraseIdx j, tr ++ [nd], some (.leaf (.int z)), some (.leaf (.str pr)), f5.mono (by omega), ?_, ?_, ?_, by simp [lt], ?_, rfl⟩
    · have run : evSs W ls_b2_r0 [some t3, some (.leaf (.int mi)), some (.leaf (.int w3)), some (.lst (ps.map strT)), some (.lst (tr.map ndT)), some (.leaf (.int z)), y6, none] = .ok .nx [some t5, some (.leaf (.int mi)), some (.leaf (.int w3)), some (.lst ((ps.eraseIdx j).map strT)), some (.lst ((tr ++ [nd]).map ndT)), some (.leaf (.int z)), some (.leaf (.str pr)), none] := by
        rw [step (c := ls_b2_r0) rfl q4, step (c := ls_b2_r1) rfl q5]
        rfl
      rw [← run]
      generalize T.lst (ps.map strT) = A
      generalize T.lst (tr.map ndT) = B
      simp [evTg]
    · rw [List.length_eraseIdx]
      simp [hj]
      omega
    · exact ndp.sublist (List.eraseIdx_sublist _ _)
    · intro z hz
      have hz' := List.mem_of_mem_eraseIdx hz
      refine ⟨(pp z hz').1, fun h => ?_⟩
      rw [List.map_append] at h
      rcases List.mem_append.mp h with h | h
      · exact (pp z hz').2 h
      · simp only [List.map_cons, List.map_nil, List.mem_cons, List.not_mem_nil, or_false] at h
        rw [hnm] at h
        subst h
        have hc := List.Nodup.count ndp (a := ps[j])
        rw [if_pos hmem] at hc
        have := List.mem_iff_getElem.mp hz
        obtain ⟨i', hi', e⟩ := this
        have hlen := List.length_eraseIdx (l := ps) (i := j)
        rw [if_pos hj] at hlen
        rw [List.getElem_eraseIdx] at e
        split at e
        · rename_i hlt
          have := (List.getElem_inj ndp).mp e
          omega
        · rename_i hge
          have := (List.getElem_inj ndp).mp e
          omega
    · exact .snoc tok hok (by rw [hnm]; exact (pp _ hmem).1) (by rw [hnm]; exact (pp _ hmem).2) (by rw [hpar]; exact hpr))
  have lr : (rangeL 0 N).length = N := by simp [rangeL]
  rw [lr, Nat.zero_add] at f' lt
  have hrg := rng_c hN (by omega)
  have hi : evI W ls_i2 [some t, some (.leaf (.int mi)), some (.leaf (.int w3)), some (.lst (poolL.map strT)), some (.lst (([] : List Nd).map ndT)), none, none, none] = .ok (rangeL 0 N) [some t1, some (.leaf (.int mi)), some (.leaf (.int w3)), some (.lst (poolL.map strT)), some (.lst (([] : List Nd).map ndT)), none, none, none] := by
    generalize T.lst (poolL.map strT) = A
    generalize T.lst (([] : List Nd).map ndT) = B
    simp [ls_i2, evI, gRng, evC, evCs, Bop.d, hd, lens, maskN, k1, hrg]
  have g2 : evS W ls_s2 [some t, some (.leaf (.int mi)), some (.leaf (.int w3)), some (.lst (poolL.map strT)), some (.lst (([] : List Nd).map ndT)), none, none, none] = .ok .nx [some t', some (.leaf (.int mi)), some (.leaf (.int w3)), some (.lst (ps.map strT)), some (.lst (tr.map ndT)), y5, y6, none] := by
    simp only [ls_s2_eq, evS]
    rw [ap_bnd, hi]
    exact q1
  obtain ⟨v, t6, a6, b6, f6, k6⟩ := sd cells (k + 1 + 370 * N) t' 17 (by omega) f' (by decide) (by decide)
  obtain ⟨vn, rfl⟩ := Int.eq_ofNat_of_zero_le a6
  have lv := lim_small a6 (by omega)
  have kf := sr (vn : Int) 16 (by decide) (lim_mono lv (by decide)) (by decide)
  simp only [lf2, nn] at kf
  obtain ⟨OP, hOP⟩ : ∃ OP, OP = fq (q16 vn) := ⟨_, rfl⟩
  rw [show fq (Rat.divInt (vn : Int) 16) = OP from hOP.symm] at kf
  obtain ⟨w, t7, a7, b7, f7, k7⟩ := sd cells (k + 1 + 370 * N + 1) t6 8 (by omega) f6 (by decide) (by decide)
  obtain ⟨h, t8, a8, b8, f8, k8⟩ := sd cells (k + 1 + 370 * N + 1 + 1) t7 6 (by omega) f7 (by decide) (by decide)
  obtain ⟨wn, hwn⟩ := Int.eq_ofNat_of_zero_le (show 0 ≤ 1 + w by omega)
  obtain ⟨hn', hhn⟩ := Int.eq_ofNat_of_zero_le (show 0 ≤ 1 + h by omega)
  have mk4 : ∀ a b c d : D, mkTup [.leaf a, .leaf b, .leaf c, .leaf d] = .leaf (.tuple [a, b, c, d]) := fun _ _ _ _ => rfl
  have hz : frz (.lst (tr.map ndT)) = .list (tr.map Nd.d) := frz_nds _
  have t1' : tupleD [.list (tr.map Nd.d)] = some (.leaf (.tuple (tr.map Nd.d))) := rfl
  have ed : (⟨wn, hn', vn, tr⟩ : Sc).d = .tuple [.int (1 + w), .int (1 + h), .tuple [OP, .tuple [.int 1, .int 1]], .tuple (tr.map Nd.d)] := by
    show PyData.tuple [.int wn, .int hn', pxN vn 16, .tuple (tr.map Nd.d)] = _
    rw [hwn, hhn, pxN, fq_one, hOP]
  refine ⟨⟨wn, hn', vn, tr⟩, t8, ⟨by show 1 ≤ wn; omega, by show wn ≤ 8; omega, by show 1 ≤ hn'; omega, by show hn' ≤ 6; omega, by show vn ≤ 16; omega, by show tr.length ≤ 6; omega, tok⟩, by show tr.length ≤ most; omega, f8.mono (by omega), ?_⟩
  rw [ed]
  refine run_lent3g (e' := [some (.leaf (.int mi)), some (.leaf (.int w3)), some (.lst (ps.map strT)), some (.leaf (.list (tr.map Nd.d))), y5, y6, some (.leaf (.tuple [OP, .tuple [.int 1, .int 1]]))]) ?_ (by simp)
  show evSs W c__law_scene [some t, some (.leaf (.int mi)), some (.leaf (.int w3)), none, none, none, none, none] = _
  have g3 : evS W ls_s3 [some t', some (.leaf (.int mi)), some (.leaf (.int w3)), some (.lst (ps.map strT)), some (.lst (tr.map ndT)), y5, y6, none] = .ok .nx [some t6, some (.leaf (.int mi)), some (.leaf (.int w3)), some (.lst (ps.map strT)), some (.lst (tr.map ndT)), y5, y6, some (.leaf (.tuple [OP, .tuple [.int 1, .int 1]]))] := by
    generalize T.lst (ps.map strT) = A
    generalize T.lst (tr.map ndT) = B
    simp [ls_s3, evS, evC, evCs, hd, hr, lens, maskN, k6, kf, mk2]
  rw [ls_eq, step (c := ls_r0) rfl g0, step (c := ls_r1) rfl g1, step (c := ls_r2) rfl g2, step (c := ls_r3) rfl g3]
  generalize T.lst (ps.map strT) = A
  generalize T.lst (tr.map ndT) = B at *
  generalize tr.map Nd.d = TD at *
  simp [ls_r4, ls_s4, ls_r5, evSs, evS, evC, evCs, Bop.d, Bif.d, hd, lens, maskN, k7, k8, hz, t1', mk4]
end Fc

namespace Fc
open PySem PySem.Spec PyProof.Rows L2 IL
/-! ### entries by names -/
def asc {α : Type} (l : List (Str × α)) (z : Str) : Option α := (l.find? fun p => decide (p.1 = z)).map (·.2)
def dT {α : Type} (f : α → D) (l : List (Str × α)) : List (Key × T) := l.map fun p => (.inr p.1, .leaf (f p.2))
def dD {α : Type} (f : α → D) (l : List (Str × α)) : List (D × D) := l.map fun p => (.str p.1, f p.2)
section
variable {α β : Type}
theorem asc_nil (z : Str) : asc ([] : List (Str × α)) z = none := rfl
theorem asc_cons (p : Str × α) (l : List (Str × α)) (z : Str) : asc (p :: l) z = if p.1 = z then some p.2 else asc l z := by
  unfold asc
  rw [List.find?_cons]
  by_cases h : p.1 = z <;> simp [h]
theorem asc_none {l : List (Str × α)} {z : Str} : asc l z = none ↔ z ∉ l.map (·.1) := by
  induction l with
  | nil => simp [asc_nil]
  | cons p l ih =>
    rw [asc_cons]
    by_cases h : p.1 = z
    · simp [h]
    · simp [h, ih, Ne.symm h]
theorem asc_app (l m : List (Str × α)) (z : Str) : asc (l ++ m) z = (asc l z).or (asc m z) := by
  induction l with
  | nil => simp [asc_nil]
  | cons p l ih =>
    rw [List.cons_append, asc_cons, asc_cons]
    split <;> simp [ih]
theorem asc_some {l : List (Str × α)} {z : Str} (h : z ∈ l.map (·.1)) : ∃ a, asc l z = some a := by
  cases hz : asc l z with
  | some a => exact ⟨a, rfl⟩
  | none => exact absurd h (asc_none.mp hz)
theorem asc_map (f : α → β) (l : List (Str × α)) (z : Str) : asc (l.map fun p => (p.1, f p.2)) z = (asc l z).map f := by
  induction l with
  | nil => rfl
  | cons p l ih =>
    rw [List.map_cons, asc_cons, asc_cons, ih]
    split <;> simp
theorem valT_dT (f : α → D) (l : List (Str × α)) (z : Str) : valT (dT f l) (.inr z) = (asc l z).map fun a => .leaf (f a) := by
  induction l with
  | nil => rfl
  | cons p l ih =>
    have e : valT (dT f (p :: l)) (.inr z) = if p.1 = z then some (.leaf (f p.2)) else valT (dT f l) (.inr z) := by
      unfold valT dT
      rw [List.map_cons, List.find?_cons]
      by_cases h : p.1 = z <;> simp [h]
    rw [e, asc_cons, ih]
    split <;> simp
theorem valD_dD (f : α → D) (l : List (Str × α)) (z : Str) : valD (dD f l) (.inr z) = (asc l z).map f := by
  induction l with
  | nil => rfl
  | cons p l ih =>
    have e : valD (dD f (p :: l)) (.inr z) = if p.1 = z then some (f p.2) else valD (dD f l) (.inr z) := by
      unfold valD dD
      rw [List.map_cons, List.find?_cons]
      by_cases h : p.1 = z <;> simp [h, keyO]
    rw [e, asc_cons, ih]
    split <;> simp
theorem any_dT (f : α → D) (l : List (Str × α)) (z : Str) : ((dT f l).any fun kv => decide (kv.1 = (.inr z : Key))) = (asc l z).isSome := by
  induction l with
  | nil => rfl
  | cons p l ih =>
    rw [asc_cons]
    have e : ((dT f (p :: l)).any fun kv => decide (kv.1 = (.inr z : Key))) = (decide (p.1 = z) || (dT f l).any fun kv => decide (kv.1 = (.inr z : Key))) := by
      simp [dT]
    rw [e, ih]
    by_cases h : p.1 = z <;> simp [h]
theorem putT_dT (f : α → D) {l : List (Str × α)} {z : Str} (a : α) (h : asc l z = none) : putT (dT f l) (.inr z) (.leaf (f a)) = dT f (l ++ [(z, a)]) := by
  unfold putT
  rw [any_dT, h]
  simp [dT]
theorem frzk_dT (f : α → D) (l : List (Str × α)) : frzk (dT f l) = dD f l := by
  induction l with
  | nil => rfl
  | cons p l ih =>
    show frzk ((.inr p.1, .leaf (f p.2)) :: dT f l) = (.str p.1, f p.2) :: dD f l
    rw [frzk, ih]
    rfl
theorem isObj_dD (f : α → D) (l : List (Str × α)) : isObj (.dict (dD f l)) = false := by
  cases l <;> rfl
theorem len_dT (f : α → D) (l : List (Str × α)) : (dT f l).length = l.length := by simp [dT]
/-- an entry of a dict looked at -/
theorem get_dT {f : α → D} {l : List (Str × α)} {z : Str} {a : α} (h : asc l z = some a) : getT (.dct (dT f l)) (.str z) = some (f a) := by
  unfold getT
  simp only [keyO, valT_dT, h, Option.map_some]
theorem get_dD {f : α → D} {l : List (Str × α)} {z : Str} {a : α} (h : asc l z = some a) : getT (.leaf (.dict (dD f l))) (.str z) = some (f a) := by
  unfold getT
  simp only [keyO, isObj_dD, valD_dD, h, Option.map_some]
  rfl
theorem get_dD' (f : α → D) (l : List (Str × α)) (z : Str) : getT (.leaf (.dict (dD f l))) (.str z) = (asc l z).map f := by
  unfold getT
  simp only [keyO, isObj_dD, valD_dD]
  rfl
end
/-! ### trees, node by node -/
theorem TreeOk.at {m : Nat} {tr : List Nd} (h : TreeOk m tr) : ∀ i (hi : i < tr.length), TreeOk m (tr.take i) ∧ tr[i].Ok m ∧ tr[i].nm ∈ poolL ∧ tr[i].nm ∉ (tr.take i).map (·.nm) ∧ (tr[i].par = "" ∨ tr[i].par ∈ (tr.take i).map (·.nm)) := by
  induction h with
  | nil => intro i hi; simp at hi
  | @snoc tr n ht hn hp hnn hpar ih =>
    intro i hi
    by_cases hlt : i < tr.length
    · obtain ⟨a, b, c, d, e⟩ := ih i hlt
      have ht' : (tr ++ [n]).take i = tr.take i := by rw [List.take_append_of_le_length (by omega)]
      have hg : (tr ++ [n])[i] = tr[i] := by rw [List.getElem_append_left hlt]
      rw [ht', hg]
      exact ⟨a, b, c, d, e⟩
    · have e : i = tr.length := by simp at hi; omega
      subst e
      have ht' : (tr ++ [n]).take tr.length = tr := by simp
      have hg : (tr ++ [n])[tr.length] = n := by simp
      rw [ht', hg]
      exact ⟨ht, hn, hp, hnn, hpar⟩
/-- corners by names -/
def corF (acc : List (Str × Int × Int)) (n : Nd) : List (Str × Int × Int) := acc ++ [(n.nm, ((asc acc n.par).getD (0, 0)).1 + n.x, ((asc acc n.par).getD (0, 0)).2 + n.y)]
def cors (tr : List Nd) : List (Str × Int × Int) := tr.foldl corF [("", 0, 0)]
/-- those above each, itself too -/
def chnF (acc : List (Str × List Str)) (n : Nd) : List (Str × List Str) := acc ++ [(n.nm, (asc acc n.par).getD [] ++ [n.nm])]
def chns (tr : List Nd) : List (Str × List Str) := tr.foldl chnF [("", [])]
theorem cors_snoc (tr : List Nd) (n : Nd) : cors (tr ++ [n]) = corF (cors tr) n := by simp [cors, List.foldl_append]
theorem chns_snoc (tr : List Nd) (n : Nd) : chns (tr ++ [n]) = chnF (chns tr) n := by simp [chns, List.foldl_append]
theorem cors_keys {m : Nat} {tr : List Nd} (h : TreeOk m tr) : (cors tr).map (·.1) = (("" : Str)) :: tr.map (·.nm) := by
  induction h with
  | nil => rfl
  | snoc ht hn hp hnn hpar ih => rw [cors_snoc]; simp only [corF, List.map_append, ih]; simp
theorem chns_keys {m : Nat} {tr : List Nd} (h : TreeOk m tr) : (chns tr).map (·.1) = (("" : Str)) :: tr.map (·.nm) := by
  induction h with
  | nil => rfl
  | snoc ht hn hp hnn hpar ih => rw [chns_snoc]; simp only [chnF, List.map_append, ih]; simp
theorem cors_len {m : Nat} {tr : List Nd} (h : TreeOk m tr) : (cors tr).length = tr.length + 1 := by
  have := congrArg List.length (cors_keys h)
  simpa using this
theorem chns_len {m : Nat} {tr : List Nd} (h : TreeOk m tr) : (chns tr).length = tr.length + 1 := by
  have := congrArg List.length (chns_keys h)
  simpa using this
theorem not_empty {z : Str} (h : z ∈ poolL) : z ≠ "" := by
  rintro rfl
  exact absurd h (by decide +kernel)
def ptD (p : Int × Int) : D := .tuple [.int p.1, .int p.2]
def namesD (l : List Str) : D := .list (l.map .str)
def namesT (l : List Str) : D := .tuple (l.map .str)
theorem take_snoc {α : Type} (l : List α) (i : Nat) (h : i < l.length) : l.take (i + 1) = l.take i ++ [l[i]] := by
  rw [List.take_succ, List.getElem?_eq_getElem h]
  rfl
theorem it_tr {tr : List Nd} {i : Nat} {d : D} (h : (tr.map Nd.d)[i]? = some d) : ∃ hi : i < tr.length, d = tr[i].d := by
  obtain ⟨h1, h2⟩ := List.getElem?_eq_some_iff.mp h
  rw [List.length_map] at h1
  exact ⟨h1, by rw [← h2, List.getElem_map]⟩
/-! ### the law's corners -/
def SpCorners (F : FSem) : Prop := ∀ (m : Nat) (s : Sc), TreeOk m s.tr → s.tr.length ≤ 6 → F [.leaf s.d] = some (.leaf (.tuple [.dict (dD ptD (cors s.tr)), .dict (dD namesD (chns s.tr))]), [none])
theorem add_names (l : List Str) (z : Str) (h : l.length ≤ 10) : addD (namesD l) (.list [.str z]) = some (.lst ((l ++ [z]).map fun z => .leaf (.str z))) := by
  have := lst_add (a := l.map PyData.str) (b := [.str z]) (by simp [most]; omega)
  unfold namesD
  rw [this]
  simp [List.map_map, Function.comp_def]
theorem ix_nd0 (n : Nd) : ixD n.d (.int 0) = some (.str n.nm) := rfl
theorem ix_nd1 (n : Nd) : ixD n.d (.int 1) = some (.str n.par) := rfl
theorem ix_nd2 (n : Nd) : ixD n.d (.int 2) = some (.int n.x) := rfl
theorem ix_nd3 (n : Nd) : ixD n.d (.int 3) = some (.int n.y) := rfl
theorem ix_nd4 (n : Nd) : ixD n.d (.int 4) = some (clipD n.clip) := rfl
theorem ix_nd5 (n : Nd) : ixD n.d (.int 5) = some (fq (q16 n.op)) := rfl
theorem ix_nd6 (n : Nd) : ixD n.d (.int 6) = some (.bool n.hid) := rfl
theorem ix_nd7 (n : Nd) : ixD n.d (.int 7) = some (contD n.cont) := rfl
theorem ix_sc3 (s : Sc) : ixD s.d (.int 3) = some (.tuple (s.tr.map Nd.d)) := rfl
theorem ix_sc0 (s : Sc) : ixD s.d (.int 0) = some (.int s.w) := rfl
theorem ix_sc1 (s : Sc) : ixD s.d (.int 1) = some (.int s.h) := rfl
theorem chn_short {m : Nat} {tr : List Nd} (h : TreeOk m tr) : ∀ z l, asc (chns tr) z = some l → l.length ≤ tr.length := by
  induction h with
  | nil => intro z l hz; simp only [chns, List.foldl_nil, asc_cons, asc_nil] at hz; split at hz <;> cases hz; simp
  | @snoc tr n ht hn hp hnn hpar ih =>
    intro z l hz
    rw [chns_snoc, chnF, asc_app] at hz
    cases h1 : asc (chns tr) z with
    | some l' =>
      rw [h1] at hz
      cases hz
      have := ih z l h1
      simp only [List.length_append, List.length_cons, List.length_nil]
      omega
    | none =>
      rw [h1] at hz
      simp only [Option.none_or, asc_cons, asc_nil] at hz
      split at hz
      · cases hz
        cases h2 : asc (chns tr) n.par with
        | none => simp
        | some l' =>
          have := ih _ _ h2
          simp
          omega
      · cases hz
theorem run_corners {W : Wd} : SpCorners (runM n__law_corners.length 1 [] (evSs W c__law_corners)) := by
  intro m s ht h6
  have hs3 := ix_sc3 s
  have hfr := frz_lvs
  obtain ⟨SD, hSD⟩ : ∃ SD, SD = s.d := ⟨_, rfl⟩
  rw [← hSD] at hs3 ⊢
  generalize s.tr = tr at *
  have g0 : evS W lk_s0 [some (.leaf SD), none, none, none, none, none] = .ok .nx [some (.leaf SD), some (.dct (dT ptD (cors []))), some (.dct (dT namesD (chns []))), none, none, none] := by
    simp [lk_s0, evS, evC, evCs, gPar, gDdis, cors, chns, dT, ptD, namesD]
  let Inv : Nat → En → Prop := fun i e => ∃ (y3 y4 y5 : Option T), e = [some (.leaf SD), some (.dct (dT ptD (cors (tr.take i)))), some (.dct (dT namesD (chns (tr.take i)))), y3, y4, y5]
  obtain ⟨e', q1, y3, y4, y5, rfl⟩ := gFor_inv (bd := evTg W (.nm 3)) (b := evSs W lk_b1_r0) Inv (tr.map Nd.d) 0 [some (.leaf SD), some (.dct (dT ptD (cors []))), some (.dct (dT namesD (chns []))), none, none, none] ⟨none, none, none, by simp⟩ (by
    rintro i d e hi ⟨y3, y4, y5, rfl⟩
    obtain ⟨hil, rfl⟩ := it_tr hi
    rw [Nat.zero_add] at *
    obtain ⟨t1, t2, t3, t4, t5⟩ := ht.at i hil
    have kp : tr[i].par ∈ (("" : Str)) :: (tr.take i).map (·.nm) := by
      rcases t5 with z | z
      · rw [z]; exact List.mem_cons_self
      · exact List.mem_cons_of_mem _ z
    obtain ⟨c, hc⟩ := asc_some (l := cors (tr.take i)) (z := tr[i].par) (by rw [cors_keys t1]; exact kp)
    obtain ⟨ch, hch⟩ := asc_some (l := chns (tr.take i)) (z := tr[i].par) (by rw [chns_keys t1]; exact kp)
    have kn : tr[i].nm ∉ (("" : Str)) :: (tr.take i).map (·.nm) := fun z => by
      rcases List.mem_cons.mp z with z | z
      · exact not_empty t3 z
      · exact t4 z
    have n1 : asc (cors (tr.take i)) tr[i].nm = none := asc_none.mpr (by rw [cors_keys t1]; exact kn)
    have n2 : asc (chns (tr.take i)) tr[i].nm = none := asc_none.mpr (by rw [chns_keys t1]; exact kn)
    have hl : (tr.take i).length ≤ 6 := by rw [List.length_take]; omega
    have l1 : (dT ptD (cors (tr.take i))).length < most := by rw [len_dT, cors_len t1]; exact Nat.lt_of_le_of_lt (Nat.succ_le_succ hl) (by decide)
    have l2 : (dT namesD (chns (tr.take i))).length < most := by rw [len_dT, chns_len t1]; exact Nat.lt_of_le_of_lt (Nat.succ_le_succ hl) (by decide)
    have s1 := chn_short t1 _ _ hch
    have e1 : cors (tr.take (i + 1)) = cors (tr.take i) ++ [(tr[i].nm, c.1 + tr[i].x, c.2 + tr[i].y)] := by
      rw [take_snoc _ _ hil, cors_snoc, corF, hc]
      rfl
    have e2 : chns (tr.take (i + 1)) = chns (tr.take i) ++ [(tr[i].nm, ch ++ [tr[i].nm])] := by
      rw [take_snoc _ _ hil, chns_snoc, chnF, hch]
      rfl
    have p1 := putT_dT ptD (c.1 + tr[i].x, c.2 + tr[i].y) n1
    have p2 := putT_dT namesD (ch ++ [tr[i].nm]) n2
    have g1 := get_dT (f := ptD) hc
    have g2 := get_dT (f := namesD) hch
    have ad := add_names ch tr[i].nm (by omega)
    have i0 := ix_nd0 tr[i]
    have i1 := ix_nd1 tr[i]
    have i2 := ix_nd2 tr[i]
    have i3 := ix_nd3 tr[i]
    have fz : frz (.lst ((ch ++ [tr[i].nm]).map fun z => T.leaf (.str z))) = namesD (ch ++ [tr[i].nm]) := by
      have := frz_lvs ((ch ++ [tr[i].nm]).map PyData.str)
      rw [List.map_map] at this
      exact this
    refine ⟨[some (.leaf SD), some (.dct (dT ptD (cors (tr.take (i + 1))))), some (.dct (dT namesD (chns (tr.take (i + 1))))), some (.leaf tr[i].d), some (.leaf (.str tr[i].nm)), some (.leaf (.str tr[i].par))], ?_, _, _, _, rfl⟩
    rw [e1, e2, ← p1, ← p2]
    generalize dT ptD (cors (tr.take i)) = A at *
    generalize dT namesD (chns (tr.take i)) = B at *
    generalize tr[i].nm = nm at *
    generalize tr[i].par = pr at *
    generalize tr[i].x = nx at *
    generalize tr[i].y = ny at *
    generalize tr[i].d = ND at *
    have pc : ptD c = .tuple [.int c.1, .int c.2] := rfl
    have pc2 : ptD (c.1 + nx, c.2 + ny) = .tuple [.int (c.1 + nx), .int (c.2 + ny)] := rfl
    rw [pc] at g1
    rw [pc2]
    generalize namesD (ch ++ [nm]) = NN at *
    generalize (List.map (fun z => T.leaf (.str z)) (ch ++ [nm])) = LL at *
    generalize namesD ch = NC at *
    have fz1 : frz (.lst [.leaf (.str nm)]) = .list [.str nm] := rfl
    simp [lk_b1_r0, lk_b1_s0, lk_b1_r1, lk_b1_s1, lk_b1_r2, lk_b1_s2, lk_b1_r3, evTg, evSs, evS, evC, evCs, Bop.d, gPar, gDput, gDix, dputT, keyO, held, peek, i0, i1, i2, i3, g1, g2, ad, fz, fz1, l1, l2, -frz_lst])
  have lr : (tr.map Nd.d).length = tr.length := by simp
  rw [lr, Nat.zero_add, List.take_length] at q1
  have g1 : evS W lk_s1 [some (.leaf SD), some (.dct (dT ptD (cors []))), some (.dct (dT namesD (chns []))), none, none, none] = .ok .nx [some (.leaf SD), some (.dct (dT ptD (cors tr))), some (.dct (dT namesD (chns tr))), y3, y4, y5] := by
    have hi : evI W lk_i1 [some (.leaf SD), some (.dct (dT ptD (cors []))), some (.dct (dT namesD (chns []))), none, none, none] = .ok (tr.map Nd.d) [some (.leaf SD), some (.dct (dT ptD (cors []))), some (.dct (dT namesD (chns []))), none, none, none] := by
      generalize dT ptD (cors []) = A
      generalize dT namesD (chns []) = B
      simp [lk_i1, evI, evC, hs3]
    simp only [lk_s1_eq, evS]
    rw [ap_bnd, hi]
    exact q1
  have z1 : frz (.dct (dT ptD (cors tr))) = .dict (dD ptD (cors tr)) := by rw [frz, frzk_dT]
  have z2 : frz (.dct (dT namesD (chns tr))) = .dict (dD namesD (chns tr)) := by rw [frz, frzk_dT]
  refine run_pure ?_
  show tell (evSs W c__law_corners) [some (.leaf SD), none, none, none, none, none] = _
  unfold tell
  rw [lk_eq, step (c := lk_r0) rfl g0, step (c := lk_r1) rfl g1]
  generalize dT ptD (cors tr) = A at *
  generalize dT namesD (chns tr) = B at *
  simp [lk_r2, lk_s2, lk_r3, evSs, evS, evC, evCs, z1, z2]
end Fc

namespace Fc
open PySem PySem.Spec PyProof.Rows L2 IL
theorem fin17 {P : Nat → Prop} [DecidablePred P] (h : ∀ n : Fin 17, P n.val) {n : Nat} (hn : n ≤ 16) : P n := h ⟨n, by omega⟩
theorem q16_num {n : Nat} (h : n ≤ 16) : (q16 n).num = 0 ↔ n = 0 := fin17 (P := fun n => (q16 n).num = 0 ↔ n = 0) (by decide +kernel) h
theorem q16_back {n : Nat} (h : n ≤ 16) : ((q16 n).num * 16).fdiv (q16 n).den = n := fin17 (P := fun n => ((q16 n).num * 16).fdiv (q16 n).den = (n : Int)) (by decide +kernel) h
theorem q16_small {n : Nat} (h : n ≤ 16) : (q16 n).num.natAbs < 2 ^ 20 ∧ (q16 n).den < 2 ^ 20 ∧ 0 < (q16 n).den := fin17 (P := fun n => (q16 n).num.natAbs < 2 ^ 20 ∧ (q16 n).den < 2 ^ 20 ∧ 0 < (q16 n).den) (by decide +kernel) h
/-! ### what a node is at a cell -/
def clipB (clip : Option (Int × Int × Int × Int)) (l t : Int) : Bool := match clip with
  | none => false
  | some (a, b, c, d) => !((decide (a ≤ l) && decide (l < c)) && (decide (b ≤ t) && decide (t < d)))
def outB (n : Nd) (c cell : Int × Int) : Bool := (n.hid || decide (n.op = 0)) || clipB n.clip (cell.1 - c.1) (cell.2 - c.2)
def rowAt (rs : List (List Cl)) (y : Int) : List Cl := (rs[y.toNat]?).getD []
def inB2 (rs : List (List Cl)) (x y : Int) : Bool := (decide (0 ≤ y) && decide (y < rs.length)) && (decide (0 ≤ x) && decide (x < ((rs[0]?).getD []).length))
def ownC (cont : Option (List (List Cl))) (x y : Int) : Nat × Nat := match cont with
  | none => (0, 0)
  | some rs => if inB2 rs x y then (match (rowAt rs y)[x.toNat]? with
    | some c => (c.p, c.c)
    | none => (0, 0)) else (0, 0)
def ownP (n : Nd) (c cell : Int × Int) : Nat × Nat := ownC n.cont (cell.1 - c.1) (cell.2 - c.2)
def SpOut (F : FSem) : Prop := ∀ (n : Nd) (c cell : Int × Int), n.op ≤ 16 → F [.leaf n.d, .leaf (ptD c), .leaf (ptD cell)] = some (.leaf (.bool (outB n c cell)), [none, none, none])
theorem ix_fq (r : Rat) : ixD (fq r) (.int 0) = some (.int r.num) := rfl
theorem ix_fq1 (r : Rat) : ixD (fq r) (.int 1) = some (.int r.den) := rfl
theorem ix_pt0 (p : Int × Int) : ixD (ptD p) (.int 0) = some (.int p.1) := rfl
theorem ix_pt1 (p : Int × Int) : ixD (ptD p) (.int 1) = some (.int p.2) := rfl
theorem ix_cl0 (a b c d : Int) : ixD (.tuple [.int a, .int b, .int c, .int d]) (.int 0) = some (.int a) := rfl
theorem ix_cl1 (a b c d : Int) : ixD (.tuple [.int a, .int b, .int c, .int d]) (.int 1) = some (.int b) := rfl
theorem ix_cl2 (a b c d : Int) : ixD (.tuple [.int a, .int b, .int c, .int d]) (.int 2) = some (.int c) := rfl
theorem ix_cl3 (a b c d : Int) : ixD (.tuple [.int a, .int b, .int c, .int d]) (.int 3) = some (.int d) := rfl
theorem run_law_out {W : Wd} : SpOut (runM n__law_out.length 3 [] (evSs W c__law_out)) := by
  intro n c cell hop
  have i4 := ix_nd4 n
  have i5 := ix_nd5 n
  have i6 := ix_nd6 n
  have j5 := ix_fq (q16 n.op)
  have hz := q16_num hop
  obtain ⟨l, hl⟩ : ∃ l, l = cell.1 - c.1 := ⟨_, rfl⟩
  obtain ⟨t, ht⟩ : ∃ t, t = cell.2 - c.2 := ⟨_, rfl⟩
  have hO : outB n c cell = ((n.hid || decide (n.op = 0)) || clipB n.clip l t) := by rw [hl, ht]; rfl
  rw [hO]
  have p0 := ix_pt0 cell
  have p1 := ix_pt1 cell
  have r0 := ix_pt0 c
  have r1 := ix_pt1 c
  generalize fq (q16 n.op) = OP at *
  generalize (q16 n.op).num = NM at *
  generalize n.d = ND at *
  generalize ptD c = PC at *
  generalize ptD cell = PE at *
  have g0 : ∀ x3 x4 x5 : Option T, evS W lo_s0 [some (.leaf ND), some (.leaf PC), some (.leaf PE), x3, x4, x5] = .ok .nx [some (.leaf ND), some (.leaf PC), some (.leaf PE), some (.leaf (clipD n.clip)), x4, x5] := fun x3 x4 x5 => by
    simp [lo_s0, evS, evC, i4]
  have g1 : evS W lo_s1 [some (.leaf ND), some (.leaf PC), some (.leaf PE), some (.leaf (clipD n.clip)), none, none] = .ok .nx [some (.leaf ND), some (.leaf PC), some (.leaf PE), some (.leaf (clipD n.clip)), some (.leaf (.int l)), some (.leaf (.int t))] := by
    rw [hl, ht]
    simp [lo_s1, evS, evC, evCs, Bop.d, gPar, p0, p1, r0, r1]
  refine run_pure ?_
  show tell (evSs W c__law_out) [some (.leaf ND), some (.leaf PC), some (.leaf PE), none, none, none] = _
  unfold tell
  rw [lo_eq, step (c := lo_r0) rfl (g0 none none none), step (c := lo_r1) rfl g1]
  cases hh : n.hid with
  | true => 
    rw [hh] at i6
    simp [lo_r2, lo_s2, lo_r3, evSs, evS, evC, evCs, i6]
  | false =>
    rw [hh] at i6
    by_cases h0 : n.op = 0
    · have hz0 := hz.mpr h0
      simp [lo_r2, lo_s2, lo_r3, evSs, evS, evC, evCs, Cop.d, i5, i6, j5, hz0, h0]
    · have hz0 : ¬ NM = 0 := fun z => h0 (hz.mp z)
      cases hc : n.clip with
      | none =>
        simp [lo_r2, lo_s2, lo_r3, lo_s3, lo_r4, evSs, evS, evC, evCs, Cop.d, i5, i6, j5, hz0, h0, clipD, clipB, isntD, isNone]
      | some q =>
        obtain ⟨a, b, cc, d⟩ := q
        have q0 := ix_cl0 a b cc d
        have q1 := ix_cl1 a b cc d
        have q2 := ix_cl2 a b cc d
        have q3 := ix_cl3 a b cc d
        have hn : isntD (clipD (some (a, b, cc, d))) .none = some (.leaf (.bool true)) := rfl
        have hcd : clipD (some (a, b, cc, d)) = .tuple [.int a, .int b, .int cc, .int d] := rfl
        rw [← hcd] at q0 q1 q2 q3
        have hB : clipB (some (a, b, cc, d)) l t = !((decide (a ≤ l) && decide (l < cc)) && (decide (b ≤ t) && decide (t < d))) := rfl
        rw [hB]
        generalize clipD (some (a, b, cc, d)) = CD at *
        by_cases c1 : a ≤ l <;> by_cases c2 : l < cc <;> by_cases c3 : b ≤ t <;> by_cases c4 : t < d <;>
          simp [lo_r2, lo_s2, lo_r3, lo_s3, lo_r4, evSs, evS, evC, evCs, Cop.d, i5, i6, j5, hz0, h0, hn, q0, q1, q2, q3, c1, c2, c3, c4]
end Fc

namespace Fc
open PySem PySem.Spec PyProof.Rows L2 IL
theorem ix_in {ds : List D} {r : Int} {x : D} (h0 : 0 ≤ r) (h : ds[r.toNat]? = some x) : ixD (.tuple ds) (.int r) = some x := by
  obtain ⟨j, rfl⟩ := Int.eq_ofNat_of_zero_le h0
  obtain ⟨h2, h3⟩ := List.getElem?_eq_some_iff.mp h
  simp at h2 h3
  simp [ixD, L2.atI, ixN, h2, h3]
theorem len_tupD (xs : List D) : lenD [.tuple xs] = some (.leaf (.int xs.length)) := rfl
/-- the parts of a content that stand about a cell -/
theorem own_shape {m : Nat} {rs : List (List Cl)} (h : RowsOk m rs) (x y : Int) : ∃ (w hh : Int) (r0 : D), w = (((rs[0]?).getD []).length : Nat) ∧ hh = (rs.length : Nat) ∧ lenD [rowsD rs] = some (.leaf (.int hh)) ∧ ixD (rowsD rs) (.int 0) = some r0 ∧ lenD [r0] = some (.leaf (.int w)) ∧
    ((0 ≤ y ∧ y < hh) ∧ (0 ≤ x ∧ x < w) → ∃ (ry : D) (c : Cl), c.Ok ∧ ixD (rowsD rs) (.int y) = some ry ∧ ixD ry (.int x) = some c.d ∧ (rowAt rs y)[x.toNat]? = some c) := by
  obtain ⟨w, hw1, hw2, hw⟩ := h.w
  have h1 := h.h1
  obtain ⟨r, rs', rfl⟩ : ∃ r rs', rs = r :: rs' := by
    cases rs with
    | nil => simp at h1
    | cons r rs' => exact ⟨r, rs', rfl⟩
  refine ⟨_, _, rowD r, rfl, rfl, by simp [rowsD, len_tupD], ?_, by simp [rowD, len_tupD], fun hin => ?_⟩
  · refine ix_in (by omega) ?_
    rfl
  · obtain ⟨⟨y0, y1⟩, x0, x1⟩ := hin
    simp only [List.getElem?_cons_zero, Option.getD_some] at x1
    have hy : y.toNat < (r :: rs').length := by omega
    have hrw : (r :: rs')[y.toNat].length = w := hw _ (List.getElem_mem hy)
    have hr0 : r.length = w := hw r List.mem_cons_self
    have hx : x.toNat < (r :: rs')[y.toNat].length := by omega
    have hra : rowAt (r :: rs') y = (r :: rs')[y.toNat] := by
      unfold rowAt
      rw [List.getElem?_eq_getElem hy]
      rfl
    refine ⟨rowD (r :: rs')[y.toNat], (r :: rs')[y.toNat][x.toNat], h.ok _ (List.getElem_mem hy) _ (List.getElem_mem hx), ?_, ?_, ?_⟩
    · refine ix_in y0 ?_
      rw [List.getElem?_map, List.getElem?_eq_getElem hy]
      rfl
    · refine ix_in x0 ?_
      rw [List.getElem?_map, List.getElem?_eq_getElem hx]
      rfl
    · rw [hra, List.getElem?_eq_getElem hx]
theorem ix_cld (c : Cl) : ixD c.d (.int 1) = some (pxN c.p c.c) := rfl
theorem ix_px0 (p c : Nat) : ixD (pxN p c) (.int 0) = some (fq (q16 p)) := rfl
theorem ix_px1 (p c : Nat) : ixD (pxN p c) (.int 1) = some (fq (q16 c)) := rfl
theorem mul16 {n : Nat} (h : n ≤ 16) : mulOk (q16 n).num 16 = true := mulOk_lim (k := 20) (l := 20) (q16_small h).1 (by decide) (by decide)
theorem div16 {n : Nat} (h : n ≤ 16) (a : Int) : divOk a (q16 n).den = true := div_small (by have := (q16_small h).2.2; omega) (by have := (q16_small h).2.1; omega)
def SpOwn (F : FSem) : Prop := ∀ (m : Nat) (n : Nd) (c cell : Int × Int), n.Ok m → F [.leaf n.d, .leaf (ptD c), .leaf (ptD cell)] = some (.leaf (.tuple [.int (ownP n c cell).1, .int (ownP n c cell).2]), [none, none, none])
theorem run_law_own {W : Wd} : SpOwn (runM n__law_own.length 3 [] (evSs W c__law_own)) := by
  intro m n c cell hn
  have i7 := ix_nd7 n
  obtain ⟨x, hx⟩ : ∃ x, x = cell.1 - c.1 := ⟨_, rfl⟩
  obtain ⟨y, hy⟩ : ∃ y, y = cell.2 - c.2 := ⟨_, rfl⟩
  have hO : ownP n c cell = ownC n.cont x y := by rw [hx, hy]; rfl
  rw [hO]
  have p0 := ix_pt0 cell
  have p1 := ix_pt1 cell
  have r0 := ix_pt0 c
  have r1 := ix_pt1 c
  generalize n.d = ND at *
  generalize ptD c = PC at *
  generalize ptD cell = PE at *
  have g0 : evS W lw_s0 [some (.leaf ND), some (.leaf PC), some (.leaf PE), none, none, none, none, none] = .ok .nx [some (.leaf ND), some (.leaf PC), some (.leaf PE), some (.leaf (contD n.cont)), none, none, none, none] := by
    simp [lw_s0, evS, evC, i7]
  have g1 : evS W lw_s1 [some (.leaf ND), some (.leaf PC), some (.leaf PE), some (.leaf (contD n.cont)), none, none, none, none] = .ok .nx [some (.leaf ND), some (.leaf PC), some (.leaf PE), some (.leaf (contD n.cont)), some (.leaf (.int x)), some (.leaf (.int y)), none, none] := by
    rw [hx, hy]
    simp [lw_s1, evS, evC, evCs, Bop.d, gPar, p0, p1, r0, r1]
  refine run_pure ?_
  show tell (evSs W c__law_own) [some (.leaf ND), some (.leaf PC), some (.leaf PE), none, none, none, none, none] = _
  unfold tell
  rw [lw_eq, step (c := lw_r0) rfl g0, step (c := lw_r1) rfl g1]
  cases hc : n.cont with
  | none => simp [lw_r2, lw_s2, lw_r3, evSs, evS, evC, evCs, Cop.d, contD, isD, isNone, ownC]
  | some rs =>
    obtain ⟨w, hh, rr, hw, hhh, l1, i0, l2, hin⟩ := own_shape (hn.cont rs hc) x y
    have hcd : contD (some rs) = rowsD rs := rfl
    have hI : isD (rowsD rs) .none = some (.leaf (.bool false)) := rfl
    rw [hcd]
    have eI : inB2 rs x y = ((decide (0 ≤ y) && decide (y < hh)) && (decide (0 ≤ x) && decide (x < w))) := by rw [hw, hhh]; rfl
    by_cases hb : (0 ≤ y ∧ y < hh) ∧ (0 ≤ x ∧ x < w)
    · obtain ⟨ry, cl, hcl, a1, a2, a3⟩ := hin hb
      have c16 := hcl.hi
      have p16 : cl.p ≤ 16 := Nat.le_trans hcl.le hcl.hi
      have eO : ownC (some rs) x y = (cl.p, cl.c) := by
        unfold ownC
        simp only [eI]
        rw [if_pos (by simp [hb.1.1, hb.1.2, hb.2.1, hb.2.2])]
        simp only [a3]
      rw [eO]
      have j1 := ix_cld cl
      have j2 : pxN cl.p cl.c = .tuple [fq (q16 cl.p), fq (q16 cl.c)] := rfl
      have k0 := ix_fq (q16 cl.p)
      have k1 := ix_fq1 (q16 cl.p)
      have k2 := ix_fq (q16 cl.c)
      have k3 := ix_fq1 (q16 cl.c)
      have m1 := mul16 p16
      have m2 := mul16 c16
      have d1 := div16 p16 ((q16 cl.p).num * 16)
      have d2 := div16 c16 ((q16 cl.c).num * 16)
      have b1 := q16_back p16
      have b2 := q16_back c16
      rw [j2] at j1
      generalize fq (q16 cl.p) = FP at *
      generalize fq (q16 cl.c) = FC at *
      generalize (q16 cl.p).num = NP at *
      generalize (q16 cl.c).num = NC at *
      generalize (q16 cl.p).den = DP at *
      generalize (q16 cl.c).den = DC at *
      generalize rowsD rs = RS at *
      generalize cl.d = CD at *
      obtain ⟨⟨h1, h2⟩, h3, h4⟩ := hb
      have g2 : evS W lw_s2 [some (.leaf ND), some (.leaf PC), some (.leaf PE), some (.leaf RS), some (.leaf (.int x)), some (.leaf (.int y)), none, none] = .ok .nx [some (.leaf ND), some (.leaf PC), some (.leaf PE), some (.leaf RS), some (.leaf (.int x)), some (.leaf (.int y)), none, none] := by
        simp [lw_s2, evSs, evS, evC, evCs, Cop.d, Bif.d, hI, l1, i0, l2, h1, h2, h3, h4]
      have g3 : evS W lw_s3 [some (.leaf ND), some (.leaf PC), some (.leaf PE), some (.leaf RS), some (.leaf (.int x)), some (.leaf (.int y)), none, none] = .ok .nx [some (.leaf ND), some (.leaf PC), some (.leaf PE), some (.leaf RS), some (.leaf (.int x)), some (.leaf (.int y)), some (.leaf FP), some (.leaf FC)] := by
        simp [lw_s3, evSs, evS, evC, evCs, evTg, evTgs, tgN, unT, consG, gAsg, a1, a2, j1]
      rw [step (c := lw_r2) rfl g2, step (c := lw_r3) rfl g3]
      simp [lw_r4, lw_s4, lw_r5, evSs, evS, evC, evCs, Bop.d, k0, k1, k2, k3, m1, m2, d1, d2, b1, b2]
    · have eO : ownC (some rs) x y = (0, 0) := by
        unfold ownC
        simp only [eI]
        rw [if_neg]
        intro z
        simp only [Bool.and_eq_true, decide_eq_true_eq] at z
        exact hb z
      rw [eO]
      generalize rowsD rs = RS at *
      by_cases h1 : 0 ≤ y <;> by_cases h2 : y < hh <;> by_cases h3 : 0 ≤ x <;> by_cases h4 : x < w <;>
        first
        | (simp [lw_r2, lw_s2, lw_r3, evSs, evS, evC, evCs, Cop.d, Bif.d, hI, l1, i0, l2, h1, h2, h3, h4]; done)
        | exact absurd ⟨⟨h1, h2⟩, h3, h4⟩ hb
end Fc

namespace Fc
open PySem PySem.Spec PyProof.Rows L2 IL
/-! ### paint order -/
def kids (tr : List Nd) (p : Str) : List Str := (tr.filter fun n => decide (n.par = p)).map (·.nm)
def ordL : Nat → List Nd → Str → List Str
  | 0, _, _ => []
  | m + 1, tr, p => (kids tr p).flatMap fun c => c :: ordL m tr c
def Fits : Nat → List Nd → Str → Prop
  | 0, _, _ => False
  | m + 1, tr, p => ∀ c ∈ kids tr p, Fits m tr c
theorem Fits.mono {tr : List Nd} : ∀ {m m' : Nat} {p : Str}, Fits m tr p → m ≤ m' → Fits m' tr p
  | 0, _, _, h, _ => h.elim
  | m + 1, 0, _, _, h => by omega
  | m + 1, m' + 1, p, h, hm => fun c hc => (h c hc).mono (by omega)
theorem ordL_fits {tr : List Nd} : ∀ {m m' : Nat} {p : Str}, Fits m tr p → m ≤ m' → ordL m' tr p = ordL m tr p
  | 0, _, _, h, _ => h.elim
  | m + 1, 0, _, _, h => by omega
  | m + 1, m' + 1, p, h, hm => by
    have go : ∀ l : List Str, (∀ c ∈ l, Fits m tr c) → (l.flatMap fun c => c :: ordL m' tr c) = l.flatMap fun c => c :: ordL m tr c := by
      intro l
      induction l with
      | nil => intro _; rfl
      | cons c l ih =>
        intro hl
        rw [List.flatMap_cons, List.flatMap_cons, ordL_fits (hl c List.mem_cons_self) (by omega), ih fun x hx => hl x (List.mem_cons_of_mem _ hx)]
    exact go _ h
theorem par_behind {m : Nat} {tr : List Nd} (h : TreeOk m tr) {i j : Nat} (hi : i < tr.length) (hj : j < tr.length) (e : tr[j].par = tr[i].nm) : i < j := by
  obtain ⟨_, _, a3, a4, a5⟩ := h.at j hj
  obtain ⟨_, _, b3, b4, _⟩ := h.at i hi
  rcases a5 with z | z
  · exact absurd (e.symm.trans z) (not_empty b3)
  · apply Classical.byContradiction
    intro hn
    rw [e] at z
    obtain ⟨x, hx, ex⟩ := List.mem_map.mp z
    apply b4
    have : x ∈ tr.take i := (List.take_sublist_take_left (l := tr) (show j ≤ i by omega)).mem hx
    exact ex ▸ List.mem_map_of_mem this
theorem kids_behind {m : Nat} {tr : List Nd} (h : TreeOk m tr) {i : Nat} (hi : i < tr.length) : kids tr tr[i].nm = kids (tr.drop (i + 1)) tr[i].nm := by
  obtain ⟨z, hz⟩ : ∃ z, z = tr[i].nm := ⟨_, rfl⟩
  rw [← hz]
  unfold kids
  conv => lhs; rw [← List.take_append_drop (i + 1) tr, List.filter_append]
  rw [show (tr.take (i + 1)).filter (fun n => decide (n.par = z)) = [] from ?_]
  · rfl
  · rw [hz, List.filter_eq_nil_iff]
    intro x hx hp
    obtain ⟨j, hj, rfl⟩ := List.mem_iff_getElem.mp hx
    rw [List.length_take] at hj
    rw [List.getElem_take] at hp
    have := par_behind h hi (by omega) (of_decide_eq_true hp)
    omega
theorem fits_at {m : Nat} {tr : List Nd} (h : TreeOk m tr) : ∀ (k i : Nat) (hi : i < tr.length), tr.length - i ≤ k → Fits k tr tr[i].nm
  | 0, i, hi, hk => by omega
  | k + 1, i, hi, hk => by
    intro c hc
    rw [kids_behind h hi] at hc
    unfold kids at hc
    obtain ⟨x, hx, rfl⟩ := List.mem_map.mp hc
    obtain ⟨j, hj, rfl⟩ := List.mem_iff_getElem.mp (List.mem_filter.mp hx).1
    rw [List.length_drop] at hj
    rw [List.getElem_drop]
    exact fits_at h k _ _ (by omega)
theorem fits_root {m : Nat} {tr : List Nd} (h : TreeOk m tr) (p : Str) : Fits (tr.length + 1) tr p := by
  intro c hc
  obtain ⟨x, hx, rfl⟩ := List.mem_map.mp hc
  obtain ⟨j, hj, rfl⟩ := List.mem_iff_getElem.mp (List.mem_filter.mp hx).1
  exact fits_at h _ j hj (by omega)
theorem ord_len {m : Nat} {tr : List Nd} (h : TreeOk m tr) : ∀ (d i k : Nat) (q : Nd → Bool), i + d = tr.length → ((((tr.drop i).filter q).map (·.nm)).flatMap fun c => c :: ordL k tr c).length + 1 ≤ 2 ^ d
  | 0, i, k, q, e => by
    rw [List.drop_eq_nil_of_le (by omega)]
    simp
  | d + 1, i, k, q, e => by
    have hi : i < tr.length := by omega
    rw [List.drop_eq_getElem_cons hi]
    have ih1 := ord_len h d (i + 1) k q (by omega)
    have ih2 : (ordL k tr tr[i].nm).length + 1 ≤ 2 ^ d := by
      cases k with
      | zero => simp only [ordL, List.length_nil]; exact Nat.one_le_two_pow
      | succ k =>
        have := ord_len h d (i + 1) k (fun n => decide (n.par = tr[i].nm)) (by omega)
        rw [ordL, kids_behind h hi]
        exact this
    have e2 : 2 ^ (d + 1) = 2 ^ d + 2 ^ d := by rw [Nat.pow_succ]; omega
    rw [e2]
    by_cases hq : q tr[i] = true
    · rw [List.filter_cons_of_pos hq, List.map_cons, List.flatMap_cons, List.length_append, List.length_cons]
      omega
    · rw [List.filter_cons_of_neg hq]
      omega
theorem ordL_len {m : Nat} {tr : List Nd} (h : TreeOk m tr) (h6 : tr.length ≤ 6) (k : Nat) (p : Str) : (ordL k tr p).length ≤ 64 := by
  cases k with
  | zero => simp [ordL]
  | succ k =>
    have := ord_len h tr.length 0 k (fun n => decide (n.par = p)) (by omega)
    rw [List.drop_zero] at this
    have h2 : 2 ^ tr.length ≤ 2 ^ 6 := Nat.pow_le_pow_right (by decide) h6
    show ((kids tr p).flatMap fun c => c :: ordL k tr c).length ≤ 64
    have e : (2 : Nat) ^ 6 = 64 := by decide
    unfold kids
    omega
theorem pre_len {m : Nat} {tr : List Nd} (h : TreeOk m tr) (h6 : tr.length ≤ 6) (k i : Nat) (p : Str) : ((kids (tr.take i) p).flatMap fun c => c :: ordL k tr c).length ≤ 64 := by
  have h1 : ((kids (tr.take i) p).flatMap fun c => c :: ordL k tr c).length ≤ ((kids tr p).flatMap fun c => c :: ordL k tr c).length := by
    have e : kids tr p = kids (tr.take i) p ++ kids (tr.drop i) p := by
      unfold kids
      conv => lhs; rw [← List.take_append_drop i tr, List.filter_append, List.map_append]
    rw [e, List.flatMap_append, List.length_append]
    omega
  exact Nat.le_trans h1 (ordL_len h h6 (k + 1) p)
theorem kids_snoc (tr : List Nd) (n : Nd) (p : Str) : kids (tr ++ [n]) p = kids tr p ++ (if n.par = p then [n.nm] else []) := by
  unfold kids
  rw [List.filter_append, List.map_append]
  by_cases h : n.par = p <;> simp [h]
theorem leaf_strs (l : List Str) : T.lst (l.map strT) = .lst ((l.map PyData.str).map .leaf) := by rw [List.map_map]; rfl
end Fc

namespace Fc
open PySem PySem.Spec PyProof.Rows L2 IL
/-! ### all cells of a screen -/
def lineL (w : Nat) (y : Nat) : List (Int × Int) := (List.range w).map fun x => (((x : Nat) : Int), ((y : Nat) : Int))
def cellsL (w h : Nat) : List (Int × Int) := (List.range h).flatMap fun y => lineL w y
theorem lineL_len (w y : Nat) : (lineL w y).length = w := by simp [lineL]
theorem cellsL_succ (w h : Nat) : cellsL w (h + 1) = cellsL w h ++ lineL w h := by
  unfold cellsL
  rw [List.range_succ, List.flatMap_append]
  simp
theorem cellsL_len (w h : Nat) : (cellsL w h).length = w * h := by
  induction h with
  | zero => simp [cellsL]
  | succ h ih => rw [cellsL_succ, List.length_append, ih, lineL_len, Nat.mul_succ]
def ptT (p : Int × Int) : T := .leaf (ptD p)
theorem frz_pts (l : List (Int × Int)) : frz (.lst (l.map ptT)) = .list (l.map ptD) := by
  rw [show l.map ptT = (l.map ptD).map T.leaf by rw [List.map_map]; rfl, frz_lvs]
theorem rg_line (w y : Nat) : (rangeL 0 w).map (fun d => PyData.tuple [d, .int (0 + (y : Int))]) = (lineL w y).map ptD := by
  unfold rangeL lineL
  rw [List.map_map, List.map_map]
  refine List.map_congr_left fun x _ => ?_
  simp [ptD]
/-! ### the law's maps -/
def byn (tr : List Nd) : List (Str × Nd) := tr.map fun n => (n.nm, n)
def mapsD (tr : List Nd) : D := .tuple [.dict (dD ptD (cors tr)), .dict (dD namesD (chns tr)), .dict (dD Nd.d (byn tr))]
theorem byn_keys (tr : List Nd) : (byn tr).map (·.1) = tr.map (·.nm) := by simp [byn]
theorem TreeOk.nd {m : Nat} {tr : List Nd} (h : TreeOk m tr) : (tr.map (·.nm)).Nodup := by
  induction h with
  | nil => exact .nil
  | @snoc tr n ht hn hp hnn hpar ih =>
    rw [List.map_append]
    refine List.nodup_append.mpr ⟨ih, by simp, fun a ha b hb e => ?_⟩
    simp at hb
    subst hb e
    exact hnn ha
theorem pairs_byn (tr : List Nd) : pairsD (tr.map fun n => PyData.tuple [.str n.nm, n.d]) = some (tr.map fun n => ((.inr n.nm : Key), n.d)) := by
  induction tr with
  | nil => rfl
  | cons n tr ih => rw [List.map_cons, pairsD, ih]; rfl
theorem merge_byn (tr : List Nd) : ∀ acc : List (Str × Nd), ((acc.map (·.1)) ++ tr.map (·.nm)).Nodup → mergeT (dT Nd.d acc) (tr.map fun n => ((.inr n.nm : Key), n.d)) = dT Nd.d (acc ++ byn tr) := by
  induction tr with
  | nil => intro acc _; simp [byn, mergeT]
  | cons n tr ih =>
    intro acc h
    have hn : asc acc n.nm = none := asc_none.mpr fun z => by
      rw [List.nodup_append] at h
      exact h.2.2 n.nm z n.nm (by simp) rfl
    have e := putT_dT Nd.d n hn
    show mergeT (putT (dT Nd.d acc) (.inr n.nm) (.leaf n.d)) (tr.map fun n => ((.inr n.nm : Key), n.d)) = _
    rw [e, ih]
    · simp [byn]
    · simpa using h
theorem dict_byn {m : Nat} {tr : List Nd} (h : TreeOk m tr) : dictD [.list (tr.map fun n => PyData.tuple [.str n.nm, n.d])] = some (.dct (dT Nd.d (byn tr))) := by
  unfold dictD
  simp only
  rw [pairs_byn, Option.map_some]
  have := merge_byn tr [] (by simpa using h.nd)
  rw [show (dT Nd.d ([] : List (Str × Nd))) = [] from rfl] at this
  rw [this]
  rfl
end Fc

namespace Fc
open PySem PySem.Spec PyProof.Rows L2 IL
/-! ### what stands by a name -/
def corAt (tr : List Nd) (z : Str) : Int × Int := (asc (cors tr) z).getD (0, 0)
def chAt (tr : List Nd) (z : Str) : List Str := (asc (chns tr) z).getD []
theorem byn_at {m : Nat} {tr : List Nd} (h : TreeOk m tr) {n : Nd} (hn : n ∈ tr) : asc (byn tr) n.nm = some n := by
  have nd := h.nd
  clear h
  induction tr with
  | nil => cases hn
  | cons k tr ih =>
    rw [List.map_cons, List.nodup_cons] at nd
    show asc ((k.nm, k) :: byn tr) n.nm = some n
    rw [asc_cons]
    rcases List.mem_cons.mp hn with rfl | hn
    · simp
    · have : k.nm ≠ n.nm := fun e => nd.1 (e ▸ List.mem_map_of_mem hn)
      simp only [if_neg this]
      exact ih hn nd.2
theorem byn_mem {tr : List Nd} {z : Str} (h : z ∈ tr.map (·.nm)) : ∃ n ∈ tr, n.nm = z := by
  obtain ⟨n, hn, e⟩ := List.mem_map.mp h
  exact ⟨n, hn, e⟩
theorem cors_at {m : Nat} {tr : List Nd} (h : TreeOk m tr) {z : Str} (hz : z = "" ∨ z ∈ tr.map (·.nm)) : asc (cors tr) z = some (corAt tr z) := by
  obtain ⟨a, ha⟩ := asc_some (l := cors tr) (z := z) (by
    rw [cors_keys h]
    rcases hz with rfl | hz
    · exact List.mem_cons_self
    · exact List.mem_cons_of_mem _ hz)
  rw [corAt, ha]
  rfl
theorem chns_at {m : Nat} {tr : List Nd} (h : TreeOk m tr) {z : Str} (hz : z = "" ∨ z ∈ tr.map (·.nm)) : asc (chns tr) z = some (chAt tr z) := by
  obtain ⟨a, ha⟩ := asc_some (l := chns tr) (z := z) (by
    rw [chns_keys h]
    rcases hz with rfl | hz
    · exact List.mem_cons_self
    · exact List.mem_cons_of_mem _ hz)
  rw [chAt, ha]
  rfl
theorem chn_mem {m : Nat} {tr : List Nd} (h : TreeOk m tr) : ∀ z l, asc (chns tr) z = some l → ∀ x ∈ l, x ∈ tr.map (·.nm) := by
  induction h with
  | nil => intro z l hz; simp only [chns, List.foldl_nil, asc_cons, asc_nil] at hz; split at hz <;> cases hz; intro x hx; cases hx
  | @snoc tr n ht hn hp hnn hpar ih =>
    intro z l hz x hx
    rw [chns_snoc, chnF, asc_app] at hz
    rw [List.map_append]
    cases h1 : asc (chns tr) z with
    | some l' =>
      rw [h1] at hz
      cases hz
      exact List.mem_append_left _ (ih z l h1 x hx)
    | none =>
      rw [h1] at hz
      simp only [Option.none_or, asc_cons, asc_nil] at hz
      split at hz
      · cases hz
        rcases List.mem_append.mp hx with hx | hx
        · cases h2 : asc (chns tr) n.par with
          | none => rw [h2] at hx; cases hx
          | some l' => rw [h2] at hx; exact List.mem_append_left _ (ih _ _ h2 x hx)
        · simp only [List.mem_cons, List.not_mem_nil, or_false] at hx
          subst hx
          exact List.mem_append_right _ (by simp)
      · cases hz
theorem chAt_mem {m : Nat} {tr : List Nd} (h : TreeOk m tr) (z : Str) : ∀ x ∈ chAt tr z, x ∈ tr.map (·.nm) := by
  intro x hx
  unfold chAt at hx
  cases h1 : asc (chns tr) z with
  | none => rw [h1] at hx; cases hx
  | some l => rw [h1] at hx; exact chn_mem h z l h1 x hx
def outZ (tr : List Nd) (cell : Int × Int) (z : Str) : Bool := match asc (byn tr) z with
  | some k => outB k (corAt tr z) cell
  | none => false
/-- whether a node is there at a cell -/
def thereB (tr : List Nd) (cell : Int × Int) (n : Nd) : Bool := (chAt tr n.nm).all (fun z => !outZ tr cell z) && decide (0 < (ownP n (corAt tr n.nm) cell).2)
end Fc

namespace IL
open PySem PySem.Spec PyProof.Rows L2
/-! ### what is done at paths, reckoned -/
theorem ev_pput {na : NA} {p : Pt} {k : KC} {f : M T} {e e1 : En} {x t : T} {l : List Stp} {ts : List (Key × T)} {z : Str} (hf : f e = .ok x e1) (hp : evPt na p e1 = some (l, .dct ts)) (hk : evK k e1 = some (.str z)) (ht : e1[p.slot]? = some (some t)) (hl : ts.length < most) (hx : isLeaf x = true ∨ (ts.any fun kv => decide (kv.1 = (.inr z : Key))) = false) :
    gPput na p k f e = .ok .nx (e1.set p.slot (some (repP t l (.dct (putT ts (.inr z) x))))) := by
  unfold gPput bnd
  rw [hf]
  simp only [hp, hk, ht, Option.bind_some, keyO]
  rw [if_pos]
  simp only [Bool.and_eq_true, decide_eq_true_eq, Bool.or_eq_true, Bool.not_eq_true']
  exact ⟨hl, hx⟩
theorem ev_ppush {na : NA} {p : Pt} {f : M T} {e e1 : En} {x t : T} {l : List Stp} {ts : List T} (hp : evPt na p e = some (l, .lst ts)) (ht : e[p.slot]? = some (some t)) (hf : f (e.set p.slot none) = .ok x e1) (h1 : e1[p.slot]? = some none) (hl : ts.length < most) :
    gPpush na p f e = .ok (.leaf .none) (e1.set p.slot (some (repP t l (.lst (ts ++ [x]))))) := by
  unfold gPpush
  simp only [hp, ht, hf, h1]
  rw [if_pos hl]
theorem ev_pfld {na : NA} {p : Pt} {f : Str} {fe : M T} {e e1 : En} {x t : T} {l : List Stp} {C : Nat} {ts : List (Key × T)} (hf : fe e = .ok x e1) (hp : evPt na p e1 = some (l, .obj C ts)) (ht : e1[p.slot]? = some (some t)) (hn : na C f = true) (hl : ts.length < 900) :
    gPfld na p f fe e = .ok .nx (e1.set p.slot (some (repP t l (.obj C (putO ts (.inr f) x))))) := by
  unfold gPfld bnd
  rw [hf]
  simp only [hp, ht]
  rw [if_pos]
  simp only [Bool.and_eq_true, decide_eq_true_eq]
  exact ⟨hn, hl⟩
theorem ev_ky {na : NA} {p : Pt} {k : KC} {e : En} {l : List Stp} {ts : List (Key × T)} {z : Str} {t : T} (hp : evPt na p e = some (l, .dct ts)) (hk : evK k e = some (.str z)) (hv : valT ts (.inr z) = some t) : evPt na (.ky p k) e = some (l ++ [.key (.inr z)], t) := by
  rw [evPt.eq_3, hp, hk]
  simp only [Option.bind_some, keyO, hv, Option.map_some]
end IL
namespace Fc
open PySem PySem.Spec PyProof.Rows L2 IL
def obj4 (C : Nat) (a b c d : T) : T := .obj C [(.inr "by_name", a), (.inr "beneath", b), (.inr "corners", c), (.inr "chains", d)]
section
variable {na : NA} {C i : Nat} {e : En} {a b c d s : T}
theorem pt_1 (h : na C "by_name" = true) (he : e[i]? = some (some (obj4 C a b c d))) : evPt na (.fld (.var i) "by_name") e = some ([.fld "by_name"], a) := by
  simp only [evPt, he, obj4, h, if_true]; rfl
theorem pt_2 (h : na C "beneath" = true) (he : e[i]? = some (some (obj4 C a b c d))) : evPt na (.fld (.var i) "beneath") e = some ([.fld "beneath"], b) := by
  simp only [evPt, he, obj4, h, if_true]; rfl
theorem pt_3 (h : na C "corners" = true) (he : e[i]? = some (some (obj4 C a b c d))) : evPt na (.fld (.var i) "corners") e = some ([.fld "corners"], c) := by
  simp only [evPt, he, obj4, h, if_true]; rfl
theorem pt_4 (h : na C "chains" = true) (he : e[i]? = some (some (obj4 C a b c d))) : evPt na (.fld (.var i) "chains") e = some ([.fld "chains"], d) := by
  simp only [evPt, he, obj4, h, if_true]; rfl
theorem rp_1 : repP (obj4 C a b c d) [.fld "by_name"] s = obj4 C s b c d := rfl
theorem rp_2 : repP (obj4 C a b c d) [.fld "beneath"] s = obj4 C a s c d := rfl
theorem rp_3 : repP (obj4 C a b c d) [.fld "corners"] s = obj4 C a b s d := rfl
theorem rp_4 : repP (obj4 C a b c d) [.fld "chains"] s = obj4 C a b c s := rfl
theorem rp_2k {ts : List (Key × T)} {k : Key} {u : T} (h : valT ts k = some u) : repP (obj4 C a (.dct ts) c d) [.fld "beneath", .key k] s = obj4 C a (.dct (setK ts k s)) c d := by
  have e1 : sub1 (obj4 C a (.dct ts) c d) (.fld "beneath") = some (.dct ts) := rfl
  have e2 : sub1 (.dct ts) (.key k) = some u := h
  simp only [repP, e1, e2]
  rfl
end
/-! ### the names beneath each -/
def lT (l : List (Str × List Str)) : List (Key × T) := l.map fun p => (.inr p.1, .lst (p.2.map strT))
def setA (l : List (Str × List Str)) (z : Str) (v : List Str) : List (Str × List Str) := match l with
  | [] => []
  | p :: r => if p.1 = z then (p.1, v) :: r else p :: setA r z v
theorem valT_lT (l : List (Str × List Str)) (z : Str) : valT (lT l) (.inr z) = (asc l z).map fun a => .lst (a.map strT) := by
  induction l with
  | nil => rfl
  | cons p l ih =>
    have e : valT (lT (p :: l)) (.inr z) = if p.1 = z then some (.lst (p.2.map strT)) else valT (lT l) (.inr z) := by
      unfold valT lT
      rw [List.map_cons, List.find?_cons]
      by_cases h : p.1 = z <;> simp [h]
    rw [e, asc_cons, ih]
    split <;> simp
theorem any_lT (l : List (Str × List Str)) (z : Str) : ((lT l).any fun kv => decide (kv.1 = (.inr z : Key))) = (asc l z).isSome := by
  induction l with
  | nil => rfl
  | cons p l ih =>
    rw [asc_cons]
    have e : ((lT (p :: l)).any fun kv => decide (kv.1 = (.inr z : Key))) = (decide (p.1 = z) || (lT l).any fun kv => decide (kv.1 = (.inr z : Key))) := by
      simp [lT]
    rw [e, ih]
    by_cases h : p.1 = z <;> simp [h]
theorem putT_lT {l : List (Str × List Str)} {z : Str} (v : List Str) (h : asc l z = none) : putT (lT l) (.inr z) (.lst (v.map strT)) = lT (l ++ [(z, v)]) := by
  unfold putT
  rw [any_lT, h]
  simp [lT]
theorem setK_lT (l : List (Str × List Str)) (z : Str) (v : List Str) : setK (lT l) (.inr z) (.lst (v.map strT)) = lT (setA l z v) := by
  induction l with
  | nil => rfl
  | cons p l ih =>
    show setK ((.inr p.1, .lst (p.2.map strT)) :: lT l) _ _ = lT (setA (p :: l) z v)
    unfold setK setA
    by_cases h : p.1 = z
    · simp [h, lT]
    · have h2 : ¬ ((.inr p.1 : Key) = .inr z) := by simpa using h
      simp only [h2, h, if_false, ih]
      rfl
theorem frzk_lT (l : List (Str × List Str)) : frzk (lT l) = dD namesD l := by
  induction l with
  | nil => rfl
  | cons p l ih =>
    show frzk ((.inr p.1, .lst (p.2.map strT)) :: lT l) = (.str p.1, namesD p.2) :: dD namesD l
    rw [frzk, ih, frz_strs]
    rfl
theorem setA_map : ∀ {l : List (Str × List Str)} (z : Str) (v : List Str), (l.map (·.1)).Nodup → setA l z v = l.map fun p => if p.1 = z then (p.1, v) else p
  | [], _, _, _ => rfl
  | p :: r, z, v, h => by
    rw [List.map_cons, List.nodup_cons] at h
    unfold setA
    by_cases hp : p.1 = z
    · subst hp
      simp only [if_true, List.map_cons]
      congr 1
      conv => lhs; rw [← List.map_id r]
      refine List.map_congr_left fun q hq => ?_
      have : q.1 ≠ p.1 := fun e => h.1 (e ▸ List.mem_map_of_mem hq)
      simp [this]
    · simp only [hp, if_false, List.map_cons, setA_map z v h.2]
def bth (tr : List Nd) : List (Str × List Str) := ("", kids tr "") :: tr.map fun n => (n.nm, kids tr n.nm)
theorem bth_keys (tr : List Nd) : (bth tr).map (·.1) = ("" : Str) :: tr.map (·.nm) := by simp [bth]
theorem kids_none {m : Nat} {tr : List Nd} {n : Nd} (h : TreeOk m (tr ++ [n])) : kids (tr ++ [n]) n.nm = [] := by
  unfold kids
  rw [List.map_eq_nil_iff, List.filter_eq_nil_iff]
  intro x hx hp
  obtain ⟨j, hj, rfl⟩ := List.mem_iff_getElem.mp hx
  have hg : (tr ++ [n])[tr.length]'(by simp) = n := by simp
  have e := of_decide_eq_true hp
  rw [show n.nm = ((tr ++ [n])[tr.length]'(by simp)).nm by rw [hg]] at e
  have := par_behind h (i := tr.length) (j := j) (by simp) hj e
  simp at hj
  omega
theorem bth_snoc {m : Nat} {tr : List Nd} {n : Nd} (h : TreeOk m (tr ++ [n])) : bth (tr ++ [n]) = setA (bth tr ++ [(n.nm, [])]) n.par (kids tr n.par ++ [n.nm]) := by
  have hnd := h.nd
  rw [List.map_append] at hnd
  have hne : n.nm ≠ "" := not_empty (h.mem n (by simp)).2.1
  have hemp : ∀ x ∈ tr, x.nm ≠ "" := fun x hx => not_empty (h.mem x (by simp [hx])).2.1
  have hk0 := kids_none h
  have hkn : kids (tr ++ [n]) n.nm = kids tr n.nm ++ (if n.par = n.nm then [n.nm] else []) := kids_snoc tr n n.nm
  rw [setA_map]
  · rw [bth, List.map_append, List.map_append]
    simp only [bth, List.map_cons, List.map_nil, List.cons_append, List.map_map]
    have hpn : n.par ≠ n.nm := fun e => by
      rw [hk0, if_pos e] at hkn
      simp at hkn
    congr 1
    · rw [kids_snoc]
      by_cases e : n.par = ""
      · simp [e]
      · have e' : ¬ (("" : Str) = n.par) := fun z => e z.symm
        simp [e, e']
    · congr 1
      · refine List.map_congr_left fun x hx => ?_
        simp only [Function.comp]
        rw [kids_snoc]
        by_cases e : n.par = x.nm
        · rw [if_pos e, if_pos e.symm, e]
        · rw [if_neg e, if_neg (fun z => e z.symm), List.append_nil]
      · rw [hk0]
        simp [Ne.symm hpn]
  · rw [List.map_append, bth_keys]
    simp only [List.map_cons, List.map_nil, List.cons_append]
    refine List.nodup_cons.mpr ⟨fun z => ?_, by simpa using hnd⟩
    rcases List.mem_append.mp z with z | z
    · obtain ⟨x, hx, e⟩ := List.mem_map.mp z
      exact hemp x hx e
    · simp at z
      exact hne z.symm
end Fc

namespace Fc
open PySem PySem.Spec PyProof.Rows L2 IL
/-! ### the boughs of a scene -/
def boughT (C : Nat) (tr : List Nd) : T := obj4 C (.dct (dT Nd.d (byn tr))) (.dct (lT (bth tr))) (.dct (dT ptD (cors tr))) (.dct (dT namesT (chns tr)))
structure HasN (na : NA) (C : Nat) : Prop where
  a : na C "by_name" = true
  b : na C "beneath" = true
  c : na C "corners" = true
  d : na C "chains" = true
theorem len_lT (l : List (Str × List Str)) : (lT l).length = l.length := by simp [lT]
theorem bth_len (tr : List Nd) : (bth tr).length = tr.length + 1 := by simp [bth]
theorem byn_len (tr : List Nd) : (byn tr).length = tr.length := by simp [byn]
theorem byn_none {tr : List Nd} {z : Str} (h : z ∉ tr.map (·.nm)) : asc (byn tr) z = none := asc_none.mpr (by rw [byn_keys]; exact h)
theorem byn_snoc (tr : List Nd) (n : Nd) : byn (tr ++ [n]) = byn tr ++ [(n.nm, n)] := by simp [byn]
theorem bth_none {tr : List Nd} {z : Str} (h : z ∉ ("" : Str) :: tr.map (·.nm)) : asc (bth tr) z = none := asc_none.mpr (by rw [bth_keys]; exact h)
theorem bth_at {tr : List Nd} (hnd : (("" : Str) :: tr.map (·.nm)).Nodup) {z : Str} (h : z ∈ ("" : Str) :: tr.map (·.nm)) : asc (bth tr) z = some (kids tr z) := by
  unfold bth
  rw [asc_cons]
  by_cases h0 : ("" : Str) = z
  · subst h0; simp
  · rw [if_neg h0]
    rcases List.mem_cons.mp h with e | h
    · exact absurd e.symm h0
    · have nd := (List.nodup_cons.mp hnd).2
      clear hnd h0
      have go : ∀ l : List Nd, (l.map (·.nm)).Nodup → z ∈ l.map (·.nm) → asc (l.map fun n => (n.nm, kids tr n.nm)) z = some (kids tr z) := by
        intro l
        induction l with
        | nil => intro _ h; cases h
        | cons k l ih =>
          intro nd h
          rw [List.map_cons, List.nodup_cons] at nd
          rw [List.map_cons, asc_cons]
          by_cases e : k.nm = z
          · rw [if_pos e]; subst e; rfl
          · rw [if_neg e]
            rw [List.map_cons] at h
            rcases List.mem_cons.mp h with h | h
            · exact absurd h.symm e
            · exact ih nd.2 h
      exact go tr nd h
theorem TreeOk.nd1 {m : Nat} {tr : List Nd} (h : TreeOk m tr) : (("" : Str) :: tr.map (·.nm)).Nodup := by
  refine List.nodup_cons.mpr ⟨fun z => ?_, h.nd⟩
  obtain ⟨x, hx, e⟩ := List.mem_map.mp z
  exact not_empty (h.mem x hx).2.1 e
theorem kids_short (tr : List Nd) (z : Str) : (kids tr z).length ≤ tr.length := by
  unfold kids
  rw [List.length_map]
  exact List.length_filter_le _ _
def initE (C : Nat) (SD : D) (l : List Nd) (x2 x3 x4 x5 x6 x7 x8 x9 : Option T) : En := [some (boughT C l), some (.leaf SD), x2, x3, x4, x5, x6, x7, x8, x9]
theorem pth_leaf {na : NA} {p : Pt} {e : En} {l : List Stp} {d : D} (h : evPt na p e = some (l, .leaf d)) : gPath na p e = .ok d e := by
  unfold gPath
  rw [h]
theorem bi_body {W : Wd} {C : Nat} (hn : HasN W.na C) {m : Nat} {tr : List Nd} {n : Nd} (ht : TreeOk m (tr ++ [n])) (h6 : tr.length < 6) (hnm : n.nm ∉ ("" : Str) :: tr.map (·.nm)) (hpr : n.par ∈ ("" : Str) :: tr.map (·.nm)) (ht0 : TreeOk m tr) (SD : D) (x3 x4 x5 x6 x7 x8 x9 : Option T) :
    ∃ y3 y4 y5 y6 y7 y8 y9, evSs W bi_b4_r0 (initE C SD tr (some (.leaf n.d)) x3 x4 x5 x6 x7 x8 x9) = .ok .nx (initE C SD (tr ++ [n]) (some (.leaf n.d)) y3 y4 y5 y6 y7 y8 y9) := by
  obtain ⟨c, hc⟩ := asc_some (l := cors tr) (z := n.par) (by rw [cors_keys ht0]; exact hpr)
  obtain ⟨ch, hch⟩ := asc_some (l := chns tr) (z := n.par) (by rw [chns_keys ht0]; exact hpr)
  have hk := bth_at ht0.nd1 hpr
  have n1 : asc (cors tr) n.nm = none := asc_none.mpr (by rw [cors_keys ht0]; exact hnm)
  have n2 : asc (chns tr) n.nm = none := asc_none.mpr (by rw [chns_keys ht0]; exact hnm)
  have n3 : asc (byn tr) n.nm = none := byn_none fun z => hnm (List.mem_cons_of_mem _ z)
  have n4 : asc (bth tr) n.nm = none := bth_none hnm
  have l1 : (dT ptD (cors tr)).length < most := by rw [len_dT, cors_len ht0]; exact Nat.lt_of_lt_of_le (Nat.succ_lt_succ h6) (by decide)
  have l2 : (dT namesT (chns tr)).length < most := by rw [len_dT, chns_len ht0]; exact Nat.lt_of_lt_of_le (Nat.succ_lt_succ h6) (by decide)
  have l3 : (dT Nd.d (byn tr)).length < most := by rw [len_dT, byn_len]; exact Nat.lt_of_lt_of_le h6 (by decide)
  have l4 : (lT (bth tr)).length < most := by rw [len_lT, bth_len]; exact Nat.lt_of_lt_of_le (Nat.succ_lt_succ h6) (by decide)
  have sk : ((kids tr n.par).map strT).length < most := by rw [List.length_map]; exact Nat.lt_of_le_of_lt (kids_short tr n.par) (Nat.lt_of_lt_of_le h6 (by decide))
  have s1 := chn_short ht0 _ _ hch
  have e1 : cors (tr ++ [n]) = cors tr ++ [(n.nm, c.1 + n.x, c.2 + n.y)] := by rw [cors_snoc, corF, hc]; rfl
  have e2 : chns (tr ++ [n]) = chns tr ++ [(n.nm, ch ++ [n.nm])] := by rw [chns_snoc, chnF, hch]; rfl
  have e3 := byn_snoc tr n
  have p1 := putT_dT ptD (c.1 + n.x, c.2 + n.y) n1
  have p2 := putT_dT namesT (ch ++ [n.nm]) n2
  have p3 := putT_dT Nd.d n n3
  have p4 := putT_lT [] n4
  have p5 := setK_lT (bth tr ++ [(n.nm, [])]) n.par (kids tr n.par ++ [n.nm])
  rw [← bth_snoc ht] at p5
  have v5 : valT (lT (bth tr ++ [(n.nm, [])])) (.inr n.par) = some (.lst ((kids tr n.par).map strT)) := by
    rw [valT_lT, asc_app, hk]
    rfl
  have v1 : valT (dT ptD (cors tr)) (.inr n.par) = some (.leaf (ptD c)) := by rw [valT_dT, hc]; rfl
  have v2 : valT (dT namesT (chns tr)) (.inr n.par) = some (.leaf (namesT ch)) := by rw [valT_dT, hch]; rfl
  have a2 : addD (namesT ch) (.tuple [.str n.nm]) = some (.leaf (namesT (ch ++ [n.nm]))) := by
    unfold namesT
    rw [tup_add (by simp [most]; omega)]
    simp
  have kk : (kids tr n.par).map strT ++ [.leaf (.str n.nm)] = (kids tr n.par ++ [n.nm]).map strT := by simp [strT]
  have eN : n.d = .tuple [.str n.nm, .str n.par, .int n.x, .int n.y, clipD n.clip, fq (q16 n.op), .bool n.hid, contD n.cont] := rfl
  have pc : ptD c = .tuple [.int c.1, .int c.2] := rfl
  have pc2 : ptD (c.1 + n.x, c.2 + n.y) = .tuple [.int (c.1 + n.x), .int (c.2 + n.y)] := rfl
  have z0 : evS W bi_b4_s0 (initE C SD tr (some (.leaf n.d)) x3 x4 x5 x6 x7 x8 x9) = .ok .nx (initE C SD tr (some (.leaf n.d)) (some (.leaf (.str n.nm))) (some (.leaf (.str n.par))) (some (.leaf (.int n.x))) (some (.leaf (.int n.y))) (some (.leaf (.list [clipD n.clip, fq (q16 n.op), .bool n.hid, contD n.cont]))) x8 x9) := by
    rw [eN]
    unfold initE
    generalize boughT C tr = B
    generalize clipD n.clip = c1
    generalize fq (q16 n.op) = c2
    generalize contD n.cont = c3
    simp [bi_b4_s0, evS, evC, gAsg, evTg, evTgs, tgN, unS, consG, store, most]
  generalize T.leaf (.list [clipD n.clip, fq (q16 n.op), .bool n.hid, contD n.cont]) = X7 at *
  generalize n.nm = nm at *
  generalize n.par = pr at *
  generalize n.x = nx at *
  generalize n.y = ny at *
  have z1 : evS W bi_b4_s1 (initE C SD tr (some (.leaf n.d)) (some (.leaf (.str nm))) (some (.leaf (.str pr))) (some (.leaf (.int nx))) (some (.leaf (.int ny))) (some X7) x8 x9) = .ok .nx (initE C SD tr (some (.leaf n.d)) (some (.leaf (.str nm))) (some (.leaf (.str pr))) (some (.leaf (.int nx))) (some (.leaf (.int ny))) (some X7) (some (.leaf (.int c.1))) (some (.leaf (.int c.2)))) := by
    have g := pth_leaf (ev_ky (k := .var 4) (z := pr) (pt_3 (i := 0) (e := initE C SD tr (some (.leaf n.d)) (some (.leaf (.str nm))) (some (.leaf (.str pr))) (some (.leaf (.int nx))) (some (.leaf (.int ny))) (some X7) x8 x9) hn.c rfl) rfl v1)
    rw [pc] at g
    unfold initE at g ⊢
    generalize boughT C tr = B at *
    simp [bi_b4_s1, evS, evC, gAsg, evTg, evTgs, tgN, unT, consG, store, g]
  let EE : T → T → T → T → En := fun a b c' d => [some (obj4 C a b c' d), some (.leaf SD), some (.leaf n.d), some (.leaf (.str nm)), some (.leaf (.str pr)), some (.leaf (.int nx)), some (.leaf (.int ny)), some X7, some (.leaf (.int c.1)), some (.leaf (.int c.2))]
  have z2 : evS W bi_b4_s2 (EE (.dct (dT Nd.d (byn tr))) (.dct (lT (bth tr))) (.dct (dT ptD (cors tr))) (.dct (dT namesT (chns tr)))) = .ok .nx (EE (.dct (dT Nd.d (byn tr ++ [(nm, n)]))) (.dct (lT (bth tr))) (.dct (dT ptD (cors tr))) (.dct (dT namesT (chns tr)))) := by
    have := ev_pput (na := W.na) (p := .fld (.var 0) "by_name") (k := .var 3) (f := evC W (.var 2)) (x := .leaf n.d) (z := nm) (e := EE (.dct (dT Nd.d (byn tr))) (.dct (lT (bth tr))) (.dct (dT ptD (cors tr))) (.dct (dT namesT (chns tr)))) rfl (pt_1 (i := 0) hn.a rfl) rfl rfl l3 (.inl rfl)
    rw [p3] at this
    exact this
  have z3 : evS W bi_b4_s3 (EE (.dct (dT Nd.d (byn tr ++ [(nm, n)]))) (.dct (lT (bth tr))) (.dct (dT ptD (cors tr))) (.dct (dT namesT (chns tr)))) = .ok .nx (EE (.dct (dT Nd.d (byn tr ++ [(nm, n)]))) (.dct (lT (bth tr ++ [(nm, [])]))) (.dct (dT ptD (cors tr))) (.dct (dT namesT (chns tr)))) := by
    have := ev_pput (na := W.na) (p := .fld (.var 0) "beneath") (k := .var 3) (f := evC W (.lst .nil)) (x := .lst []) (z := nm) (e := EE (.dct (dT Nd.d (byn tr ++ [(nm, n)]))) (.dct (lT (bth tr))) (.dct (dT ptD (cors tr))) (.dct (dT namesT (chns tr)))) rfl (pt_2 (i := 0) hn.b rfl) rfl rfl l4 (.inr (by rw [any_lT, n4]; rfl))
    rw [show ([] : List T) = ([] : List Str).map strT from rfl, p4] at this
    exact this
  have z4 : evS W bi_b4_s4 (EE (.dct (dT Nd.d (byn tr ++ [(nm, n)]))) (.dct (lT (bth tr ++ [(nm, [])]))) (.dct (dT ptD (cors tr))) (.dct (dT namesT (chns tr)))) = .ok .nx (EE (.dct (dT Nd.d (byn tr ++ [(nm, n)]))) (.dct (lT (bth (tr ++ [n])))) (.dct (dT ptD (cors tr))) (.dct (dT namesT (chns tr)))) := by
    have h1 := ev_ky (na := W.na) (k := .var 4) (z := pr) (pt_2 (i := 0) (e := EE (.dct (dT Nd.d (byn tr ++ [(nm, n)]))) (.dct (lT (bth tr ++ [(nm, [])]))) (.dct (dT ptD (cors tr))) (.dct (dT namesT (chns tr)))) hn.b rfl) rfl v5
    have h2 := ev_ppush (na := W.na) (f := evC W (.var 3)) (x := .leaf (.str nm)) h1 rfl rfl rfl sk
    rw [List.singleton_append, rp_2k v5, kk, p5] at h2
    show gExp _ _ = _
    unfold gExp
    rw [ap_bnd]
    have h3 : evC W (.ppush (.ky (.fld (.var 0) "beneath") (.var 4)) (.var 3)) (EE (.dct (dT Nd.d (byn tr ++ [(nm, n)]))) (.dct (lT (bth tr ++ [(nm, [])]))) (.dct (dT ptD (cors tr))) (.dct (dT namesT (chns tr)))) = _ := h2
    rw [h3]
    rfl
  have z5 : evS W bi_b4_s5 (EE (.dct (dT Nd.d (byn tr ++ [(nm, n)]))) (.dct (lT (bth (tr ++ [n])))) (.dct (dT ptD (cors tr))) (.dct (dT namesT (chns tr)))) = .ok .nx (EE (.dct (dT Nd.d (byn tr ++ [(nm, n)]))) (.dct (lT (bth (tr ++ [n])))) (.dct (dT ptD (cors tr ++ [(nm, c.1 + nx, c.2 + ny)]))) (.dct (dT namesT (chns tr)))) := by
    have := ev_pput (na := W.na) (p := .fld (.var 0) "corners") (k := .var 3) (f := evC W (.tup (.own (.bin .add (.var 8) (.var 5)) (.own (.bin .add (.var 9) (.var 6)) .nil)))) (x := .leaf (ptD (c.1 + nx, c.2 + ny))) (z := nm) (e := EE (.dct (dT Nd.d (byn tr ++ [(nm, n)]))) (.dct (lT (bth (tr ++ [n])))) (.dct (dT ptD (cors tr))) (.dct (dT namesT (chns tr)))) rfl (pt_3 (i := 0) hn.c rfl) rfl rfl l1 (.inl rfl)
    rw [p1] at this
    exact this
  have z6 : evS W bi_b4_s6 (EE (.dct (dT Nd.d (byn tr ++ [(nm, n)]))) (.dct (lT (bth (tr ++ [n])))) (.dct (dT ptD (cors tr ++ [(nm, c.1 + nx, c.2 + ny)]))) (.dct (dT namesT (chns tr)))) = .ok .nx (EE (.dct (dT Nd.d (byn tr ++ [(nm, n)]))) (.dct (lT (bth (tr ++ [n])))) (.dct (dT ptD (cors tr ++ [(nm, c.1 + nx, c.2 + ny)]))) (.dct (dT namesT (chns tr ++ [(nm, ch ++ [nm])])))) := by
    have g := pth_leaf (ev_ky (na := W.na) (k := .var 4) (z := pr) (pt_4 (i := 0) (e := EE (.dct (dT Nd.d (byn tr ++ [(nm, n)]))) (.dct (lT (bth (tr ++ [n])))) (.dct (dT ptD (cors tr ++ [(nm, c.1 + nx, c.2 + ny)]))) (.dct (dT namesT (chns tr)))) hn.d rfl) rfl v2)
    have hf : evC W (.bin .add (.pth (.ky (.fld (.var 0) "chains") (.var 4))) (.tup (.own (.var 3) .nil))) (EE (.dct (dT Nd.d (byn tr ++ [(nm, n)]))) (.dct (lT (bth (tr ++ [n])))) (.dct (dT ptD (cors tr ++ [(nm, c.1 + nx, c.2 + ny)]))) (.dct (dT namesT (chns tr)))) = .ok (.leaf (namesT (ch ++ [nm]))) (EE (.dct (dT Nd.d (byn tr ++ [(nm, n)]))) (.dct (lT (bth (tr ++ [n])))) (.dct (dT ptD (cors tr ++ [(nm, c.1 + nx, c.2 + ny)]))) (.dct (dT namesT (chns tr)))) := by
      have mk1 : frz (mkTup [T.leaf (.str nm)]) = .tuple [.str nm] := rfl
      simp only [EE] at g ⊢
      generalize obj4 C _ _ _ _ = B at *
      generalize namesT ch = NC at *
      generalize namesT (ch ++ [nm]) = NN at *
      simp [evC, evCs, Bop.d, g, mk1, a2]
    have := ev_pput (na := W.na) (p := .fld (.var 0) "chains") (k := .var 3) (z := nm) hf (pt_4 (i := 0) hn.d rfl) rfl rfl l2 (.inl rfl)
    rw [p2] at this
    exact this
  refine ⟨some (.leaf (.str nm)), some (.leaf (.str pr)), some (.leaf (.int nx)), some (.leaf (.int ny)), some X7, some (.leaf (.int c.1)), some (.leaf (.int c.2)), ?_⟩
  rw [show bi_b4_r0 = .cons bi_b4_s0 bi_b4_r1 from rfl, step (c := .cons bi_b4_s0 bi_b4_r1) rfl z0, step (c := bi_b4_r1) rfl z1]
  rw [show evSs W bi_b4_r2 (initE C SD tr (some (.leaf n.d)) (some (.leaf (.str nm))) (some (.leaf (.str pr))) (some (.leaf (.int nx))) (some (.leaf (.int ny))) (some X7) (some (.leaf (.int c.1))) (some (.leaf (.int c.2)))) = evSs W bi_b4_r2 (EE (.dct (dT Nd.d (byn tr))) (.dct (lT (bth tr))) (.dct (dT ptD (cors tr))) (.dct (dT namesT (chns tr)))) from rfl]
  rw [step (c := bi_b4_r2) rfl z2, step (c := bi_b4_r3) rfl z3, step (c := bi_b4_r4) rfl z4, step (c := bi_b4_r5) rfl z5, step (c := bi_b4_r6) rfl z6]
  unfold initE boughT
  rw [e1, e2, e3]
  rfl
def SpInit (C : Nat) (F : FSem) : Prop := ∀ (m : Nat) (s : Sc), TreeOk m s.tr → s.tr.length ≤ 6 → F [.obj C [], .leaf s.d] = some (.leaf .none, [some (boughT C s.tr), none])
theorem run_init {W : Wd} {C : Nat} (hn : HasN W.na C) : SpInit C (runM n_Boughs___init__.length 2 [0] (evSs W c_Boughs___init__)) := by
  intro m s ht h6
  have hs3 := ix_sc3 s
  obtain ⟨SD, hSD⟩ : ∃ SD, SD = s.d := ⟨_, rfl⟩
  rw [← hSD] at hs3 ⊢
  generalize s.tr = tr at *
  let EO : List (Key × T) → En := fun kvs => [some (.obj C kvs), some (.leaf SD), none, none, none, none, none, none, none, none]
  have po : ∀ kvs, evPt W.na (.var 0) (EO kvs) = some ([], .obj C kvs) := fun _ => rfl
  have z0 : evS W bi_s0 (EO []) = .ok .nx (EO [(.inr "by_name", .dct [])]) := ev_pfld (na := W.na) (p := .var 0) (fe := evC W (.dlit [])) (x := .dct []) (l := []) (ts := []) rfl rfl rfl hn.a (by decide)
  have z1 : evS W bi_s1 (EO [(.inr "by_name", .dct [])]) = .ok .nx (EO [(.inr "by_name", .dct []), (.inr "beneath", .dct (lT (bth [])))]) := ev_pfld (na := W.na) (p := .var 0) (fe := evC W (.ddis [.inr ""] (.own (.lst .nil) .nil))) (x := .dct (lT (bth []))) (l := []) (ts := [(.inr "by_name", .dct [])]) rfl rfl rfl hn.b (by decide)
  have z2 : evS W bi_s2 (EO [(.inr "by_name", .dct []), (.inr "beneath", .dct (lT (bth [])))]) = .ok .nx (EO [(.inr "by_name", .dct []), (.inr "beneath", .dct (lT (bth []))), (.inr "corners", .dct (dT ptD (cors [])))]) := ev_pfld (na := W.na) (p := .var 0) (fe := evC W (.ddis [.inr ""] (.own (.tup (.own (.int 0) (.own (.int 0) .nil))) .nil))) (x := .dct (dT ptD (cors []))) (l := []) (ts := [(.inr "by_name", .dct []), (.inr "beneath", .dct (lT (bth [])))]) rfl rfl rfl hn.c (by decide)
  have z3 : evS W bi_s3 (EO [(.inr "by_name", .dct []), (.inr "beneath", .dct (lT (bth []))), (.inr "corners", .dct (dT ptD (cors [])))]) = .ok .nx (initE C SD [] none none none none none none none none) := ev_pfld (na := W.na) (p := .var 0) (fe := evC W (.ddis [.inr ""] (.own (.tup .nil) .nil))) (x := .dct (dT namesT (chns []))) (l := []) (ts := [(.inr "by_name", .dct []), (.inr "beneath", .dct (lT (bth []))), (.inr "corners", .dct (dT ptD (cors [])))]) rfl rfl rfl hn.d (by decide)
  let Inv : Nat → En → Prop := fun i e => ∃ (y2 y3 y4 y5 y6 y7 y8 y9 : Option T), e = initE C SD (tr.take i) y2 y3 y4 y5 y6 y7 y8 y9
  obtain ⟨e', q1, y2, y3, y4, y5, y6, y7, y8, y9, rfl⟩ := gFor_inv (bd := evTg W (.nm 2)) (b := evSs W bi_b4_r0) Inv (tr.map Nd.d) 0 (initE C SD [] none none none none none none none none) ⟨none, none, none, none, none, none, none, none, by simp⟩ (by
    rintro i d e hi ⟨y2, y3, y4, y5, y6, y7, y8, y9, rfl⟩
    obtain ⟨hil, rfl⟩ := it_tr hi
    rw [Nat.zero_add] at *
    obtain ⟨t1, t2, t3, t4, t5⟩ := ht.at i hil
    have kp : tr[i].par ∈ (("" : Str)) :: (tr.take i).map (·.nm) := by
      rcases t5 with z | z
      · rw [z]; exact List.mem_cons_self
      · exact List.mem_cons_of_mem _ z
    have kn : tr[i].nm ∉ (("" : Str)) :: (tr.take i).map (·.nm) := fun z => by
      rcases List.mem_cons.mp z with z | z
      · exact not_empty t3 z
      · exact t4 z
    have e2 := take_snoc _ _ hil
    have t6 : TreeOk m (tr.take i ++ [tr[i]]) := by
      rw [← e2]
      by_cases h : i + 1 < tr.length
      · exact (ht.at (i + 1) h).1
      · rw [List.take_of_length_le (by omega)]
        exact ht
    obtain ⟨w3, w4, w5, w6, w7, w8, w9, hw⟩ := bi_body (W := W) hn t6 (by rw [List.length_take]; omega) kn kp t1 SD y3 y4 y5 y6 y7 y8 y9
    rw [← e2] at hw
    exact ⟨_, hw, _, _, _, _, _, _, _, _, rfl⟩)
  have lr : (tr.map Nd.d).length = tr.length := by simp
  rw [lr, Nat.zero_add, List.take_length] at q1
  have z4 : evS W bi_s4 (initE C SD [] none none none none none none none none) = .ok .nx (initE C SD tr y2 y3 y4 y5 y6 y7 y8 y9) := by
    have hi : evI W bi_i4 (initE C SD [] none none none none none none none none) = .ok (tr.map Nd.d) (initE C SD [] none none none none none none none none) := by
      unfold initE
      generalize boughT C [] = B
      simp [bi_i4, evI, evC, hs3]
    simp only [bi_s4_eq, evS]
    rw [ap_bnd, hi]
    exact q1
  have fin : evSs W c_Boughs___init__ (EO []) = .ok .nx (initE C SD tr y2 y3 y4 y5 y6 y7 y8 y9) := by
    rw [bi_eq, step (c := bi_r0) rfl z0, step (c := bi_r1) rfl z1, step (c := bi_r2) rfl z2, step (c := bi_r3) rfl z3, step (c := bi_r4) rfl z4]
    rfl
  have hE : ([T.obj C [], T.leaf SD].map some ++ List.replicate (n_Boughs___init__.length - 2) none : En) = EO [] := rfl
  unfold runM runF
  rw [hE, fin]
  rfl
end Fc

namespace IL
open PySem PySem.Spec PyProof.Rows L2
def methK (C : Nat) (m : Str) (d : D) : Bool := match d with
  | .dict ((.none, .int z) :: ds) => decide (z = (C : Int)) && (valD ds (.inr m)).isNone
  | _ => false
theorem methA_eq (C : Nat) (m : Str) (dv : List D) (fo : M D) (fa : M (List T)) : methA C m dv fo fa = bnd fo fun d => if methK C m d = true then bnd fa fun ts => ret (.leaf d :: (ts ++ dv.map .leaf)) else bad := by
  unfold methA
  congr 1
  funext d
  unfold methK
  split <;> simp
end IL
namespace Fc
open PySem PySem.Spec PyProof.Rows L2 IL
/-! ### the methods -/
def boughD (C : Nat) (tr : List Nd) : D := .dict [(.none, .int C), (.str "by_name", .dict (dD Nd.d (byn tr))), (.str "beneath", .dict (dD namesD (bth tr))), (.str "corners", .dict (dD ptD (cors tr))), (.str "chains", .dict (dD namesT (chns tr)))]
theorem frz_bough (C : Nat) (tr : List Nd) : frz (boughT C tr) = boughD C tr := by
  have h1 : frz (.dct (dT Nd.d (byn tr))) = .dict (dD Nd.d (byn tr)) := by rw [frz, frzk_dT]
  have h2 : frz (.dct (lT (bth tr))) = .dict (dD namesD (bth tr)) := by rw [frz, frzk_lT]
  have h3 : frz (.dct (dT ptD (cors tr))) = .dict (dD ptD (cors tr)) := by rw [frz, frzk_dT]
  have h4 : frz (.dct (dT namesT (chns tr))) = .dict (dD namesT (chns tr)) := by rw [frz, frzk_dT]
  unfold boughT boughD obj4
  rw [frz]
  simp only [frzk, h1, h2, h3, h4]
  rfl
section
variable {na : NA} {C : Nat} (h : HasN na C) (tr : List Nd)
include h
theorem fl_1 : fldD na (boughD C tr) "by_name" = some (.dict (dD Nd.d (byn tr))) := by
  show (if na (((C : Nat) : Int).toNat) "by_name" = true then _ else none) = _
  rw [Int.toNat_natCast, h.a]; rfl
theorem fl_2 : fldD na (boughD C tr) "beneath" = some (.dict (dD namesD (bth tr))) := by
  show (if na (((C : Nat) : Int).toNat) "beneath" = true then _ else none) = _
  rw [Int.toNat_natCast, h.b]; rfl
theorem fl_3 : fldD na (boughD C tr) "corners" = some (.dict (dD ptD (cors tr))) := by
  show (if na (((C : Nat) : Int).toNat) "corners" = true then _ else none) = _
  rw [Int.toNat_natCast, h.c]; rfl
theorem fl_4 : fldD na (boughD C tr) "chains" = some (.dict (dD namesT (chns tr))) := by
  show (if na (((C : Nat) : Int).toNat) "chains" = true then _ else none) = _
  rw [Int.toNat_natCast, h.d]; rfl
end
theorem mk_out (C : Nat) (tr : List Nd) : methK C "is_out" (boughD C tr) = true := by
  show (decide (((C : Nat) : Int) = (C : Int)) && _) = true
  rw [decide_eq_true rfl]; rfl
theorem mk_own (C : Nat) (tr : List Nd) : methK C "own_pixel" (boughD C tr) = true := by
  show (decide (((C : Nat) : Int) = (C : Int)) && _) = true
  rw [decide_eq_true rfl]; rfl
theorem mk_there (C : Nat) (tr : List Nd) : methK C "is_there" (boughD C tr) = true := by
  show (decide (((C : Nat) : Int) = (C : Int)) && _) = true
  rw [decide_eq_true rfl]; rfl
theorem mk_order (C : Nat) (tr : List Nd) : methK C "order" (boughD C tr) = true := by
  show (decide (((C : Nat) : Int) = (C : Int)) && _) = true
  rw [decide_eq_true rfl]; rfl
def inB (q : Int × Int × Int × Int) (c : Int × Int) : Bool := (decide (q.1 ≤ c.1) && decide (c.1 < q.2.2.1)) && (decide (q.2.1 ≤ c.2) && decide (c.2 < q.2.2.2))
def SpHas (F : FSem) : Prop := ∀ (q : Int × Int × Int × Int) (c : Int × Int), F [.leaf (.tuple [clipD (some q)]), .leaf (ptD c)] = some (.leaf (.bool (inB q c)), [none, none])
def hcC : IL.C := .comp [4, 5, 6, 7] (.tp (.cons (.nm 4) (.cons (.nm 5) (.cons (.nm 6) (.cons (.nm 7) .nil))))) (.seq (.var 0)) .no (.and (.chain .le .lt (.var 4) (.var 2) (.var 6)) (.chain .le .lt (.var 5) (.var 3) (.var 7)))
def hc_s0 : S := .asg (.tp (.cons (.nm 2) (.cons (.nm 3) .nil))) (.var 1)
def hc_s1 : S := .ret (.bif .any (.val hcC .nil))
def hc_r1 : Ss := .cons hc_s1 .nil
def hc_r0 : Ss := .cons hc_s0 hc_r1
theorem hc_eq : c_has_cell = hc_r0 := rfl
theorem run_has {W : Wd} : SpHas (runM n_has_cell.length 2 [] (evSs W c_has_cell)) := by
  rintro ⟨a, b, cc, d⟩ ⟨x, y⟩
  have hcd : clipD (some (a, b, cc, d)) = .tuple [.int a, .int b, .int cc, .int d] := rfl
  have hp : ptD (x, y) = .tuple [.int x, .int y] := rfl
  obtain ⟨bb, hbb⟩ : ∃ bb, bb = inB (a, b, cc, d) (x, y) := ⟨_, rfl⟩
  obtain ⟨RD, hRD⟩ : ∃ RD, RD = PyData.tuple [clipD (some (a, b, cc, d))] := ⟨_, rfl⟩
  have g0 : evS W hc_s0 [some (.leaf RD), some (.leaf (ptD (x, y))), none, none, none, none, none, none] = .ok .nx [some (.leaf RD), some (.leaf (ptD (x, y))), some (.leaf (.int x)), some (.leaf (.int y)), none, none, none, none] := by
    rw [hp]
    simp [hc_s0, evS, evC, evCs, evTg, evTgs, tgN, unT, consG, gAsg]
  obtain ⟨e1, k1, y4, y5, y6, y7, rfl⟩ := comp_ok (W := W) (vs := [4, 5, 6, 7]) (tg := .tp (.cons (.nm 4) (.cons (.nm 5) (.cons (.nm 6) (.cons (.nm 7) .nil))))) (it := .seq (.var 0)) (t := .no) (el := .and (.chain .le .lt (.var 4) (.var 2) (.var 6)) (.chain .le .lt (.var 5) (.var 3) (.var 7))) (e := [some (.leaf RD), some (.leaf (ptD (x, y))), some (.leaf (.int x)), some (.leaf (.int y)), none, none, none, none]) (ds := [clipD (some (a, b, cc, d))]) (fun _ => true) (fun _ => .bool bb) (fun e => ∃ y4 y5 y6 y7, e = [some (.leaf RD), some (.leaf (ptD (x, y))), some (.leaf (.int x)), some (.leaf (.int y)), y4, y5, y6, y7]) (e0 := [some (.leaf RD), some (.leaf (ptD (x, y))), some (.leaf (.int x)), some (.leaf (.int y)), none, none, none, none]) (by
      rw [hRD]
      simp [evI, evC, evCs]) ⟨none, none, none, none, rfl⟩ (by simp [most]) (by
    rintro dd e hd ⟨y4, y5, y6, y7, rfl⟩
    simp only [List.mem_cons, List.not_mem_nil, or_false] at hd
    subst hd
    refine ⟨[some (.leaf RD), some (.leaf (ptD (x, y))), some (.leaf (.int x)), some (.leaf (.int y)), some (.leaf (.int a)), some (.leaf (.int b)), some (.leaf (.int cc)), some (.leaf (.int d))], by rw [hcd]; simp [evTg, evTgs, tgN, unT, consG, wipeE], _, by simp [evCond]; rfl, fun _ => ⟨[some (.leaf RD), some (.leaf (ptD (x, y))), some (.leaf (.int x)), some (.leaf (.int y)), some (.leaf (.int a)), some (.leaf (.int b)), some (.leaf (.int cc)), some (.leaf (.int d))], ?_, ⟨_, _, _, _, rfl⟩⟩, fun h => by cases h⟩
    have hbv : bb = ((decide (a ≤ x) && decide (x < cc)) && (decide (b ≤ y) && decide (y < d))) := hbb
    rw [hbv]
    by_cases c1 : a ≤ x <;> by_cases c2 : x < cc <;> by_cases c3 : b ≤ y <;> by_cases c4 : y < d <;> simp [evC, evCs, Cop.d, c1, c2, c3, c4])
  rw [filter_true] at k1
  replace k1 : evC W hcC [some (.leaf RD), some (.leaf (ptD (x, y))), some (.leaf (.int x)), some (.leaf (.int y)), none, none, none, none] = .ok (.lst [.leaf (.bool bb)]) (wipeE [some (.leaf RD), some (.leaf (ptD (x, y))), some (.leaf (.int x)), some (.leaf (.int y)), y4, y5, y6, y7] [4, 5, 6, 7]) := k1
  rw [← hRD, ← hbb]
  refine run_pure ?_
  show tell (evSs W c_has_cell) [some (.leaf RD), some (.leaf (ptD (x, y))), none, none, none, none, none, none] = _
  unfold tell
  rw [hc_eq, step (c := hc_r0) rfl g0]
  generalize ptD (x, y) = PC at *
  have ab : anyD [.list [.bool bb]] = some (.leaf (.bool bb)) := by cases bb <;> rfl
  simp [hc_r1, hc_s1, evSs, evS, evC, evCs, Bif.d, k1, ab]
def SpRect (F : FSem) : Prop := ∀ d : D, F [.leaf d] = some (.leaf (.tuple [d]), [none])
theorem run_rect {W : Wd} : SpRect (runM n_rectangle_region.length 1 [] (evSs W c_rectangle_region)) := by
  intro d
  refine run_pure ?_
  show tell (evSs W c_rectangle_region) [some (.leaf d)] = _
  unfold tell
  simp [c_rectangle_region, evSs, evS, evC, evCs]
  rfl
end Fc

namespace Fc
open PySem PySem.Spec PyProof.Rows L2 IL
theorem zero_eq {n : Nat} (h : n ≤ 16) : eqD (fq (q16 n)) (fq (q16 0)) = some (.leaf (.bool (decide (n = 0)))) := by
  have h2 : eqB (fq (q16 n)) (fq (q16 0)) = some (decide (n = 0)) := fin17 (P := fun n => eqB (fq (q16 n)) (fq (q16 0)) = some (decide (n = 0))) (by decide +kernel) h
  unfold eqD bT
  rw [h2]
  rfl
def SpIsOut (C : Nat) (F : FSem) : Prop := ∀ (m : Nat) (tr : List Nd) (n : Nd) (cell : Int × Int), TreeOk m tr → n ∈ tr → F [.leaf (boughD C tr), .leaf (.str n.nm), .leaf (ptD cell)] = some (.leaf (.bool (outB n (corAt tr n.nm) cell)), [none, none, none])
theorem run_isout {W : Wd} {C : Nat} {Fh Fr : FSem} (hn : HasN W.na C) (hh : W.fn "has_cell" = some ⟨2, [], Fh⟩) (sh : SpHas Fh) (hr : W.fn "rectangle_region" = some ⟨1, [], Fr⟩) (sr : SpRect Fr) (hz : W.glb "ZERO" = some (fq (q16 0))) : SpIsOut C (runM n_Boughs_is_out.length 3 [] (evSs W c_Boughs_is_out)) := by
  intro m tr n cell ht hm
  have hop := (ht.mem n hm).1.op
  have f1 := fl_1 hn tr
  have f3 := fl_3 hn tr
  have hnm : n.nm ∈ tr.map (·.nm) := List.mem_map_of_mem hm
  have b1 := get_dD (f := Nd.d) (byn_at ht hm)
  have b2 := get_dD (f := ptD) (cors_at ht (.inr hnm))
  generalize corAt tr n.nm = c at *
  generalize boughD C tr = BD at *
  generalize n.nm = nm at *
  obtain ⟨l, hl⟩ : ∃ l, l = cell.1 - c.1 := ⟨_, rfl⟩
  obtain ⟨t, htt⟩ : ∃ t, t = cell.2 - c.2 := ⟨_, rfl⟩
  have hO : outB n c cell = ((n.hid || decide (n.op = 0)) || clipB n.clip l t) := by rw [hl, htt]; rfl
  rw [hO]
  have p0 := ix_pt0 cell
  have p1 := ix_pt1 cell
  have pc : ptD c = .tuple [.int c.1, .int c.2] := rfl
  have ze := zero_eq hop
  have sl : slD n.d (some 4) none = some (.leaf (.tuple [clipD n.clip, fq (q16 n.op), .bool n.hid, contD n.cont])) := rfl
  generalize ptD cell = PE at *
  generalize contD n.cont = CD at *
  generalize fq (q16 n.op) = OP at *
  generalize fq (q16 0) = ZZ at *
  generalize n.d = ND at *
  generalize PyData.dict (dD Nd.d (byn tr)) = D1 at *
  generalize PyData.dict (dD ptD (cors tr)) = D2 at *
  have g0 : evS W bo_s0 [some (.leaf BD), some (.leaf (.str nm)), some (.leaf PE), none, none, none, none, none, none] = .ok .nx [some (.leaf BD), some (.leaf (.str nm)), some (.leaf PE), some (.leaf (clipD n.clip)), some (.leaf OP), some (.leaf (.bool n.hid)), some (.leaf CD), none, none] := by
    generalize clipD n.clip = CL at *
    simp [bo_s0, evS, evC, evCs, evO, evTg, evTgs, tgN, unT, consG, gAsg, gDgt, gFld, gSl, gPart, asI, f1, b1, sl]
  have g2 : evS W bo_s2 [some (.leaf BD), some (.leaf (.str nm)), some (.leaf PE), some (.leaf (clipD n.clip)), some (.leaf OP), some (.leaf (.bool n.hid)), some (.leaf CD), none, none] = .ok .nx [some (.leaf BD), some (.leaf (.str nm)), some (.leaf PE), some (.leaf (clipD n.clip)), some (.leaf OP), some (.leaf (.bool n.hid)), some (.leaf CD), some (.leaf (.int c.1)), some (.leaf (.int c.2))] := by
    rw [pc] at b2
    generalize clipD n.clip = CL at *
    simp [bo_s2, evS, evC, evCs, evTg, evTgs, tgN, unT, consG, gAsg, gDgt, gFld, f3, b2]
  refine run_pure ?_
  show tell (evSs W c_Boughs_is_out) [some (.leaf BD), some (.leaf (.str nm)), some (.leaf PE), none, none, none, none, none, none] = _
  unfold tell
  rw [bo_eq, step (c := bo_r0) rfl g0]
  cases hb : (n.hid || decide (n.op = 0)) with
  | true =>
    generalize clipD n.clip = CL at *
    cases hh2 : n.hid with
    | true => simp [bo_r1, bo_s1, bo_r2, evSs, evS, evC, evCs, Cop.d]
    | false =>
      rw [hh2, Bool.false_or] at hb
      rw [hb] at ze
      simp [bo_r1, bo_s1, bo_r2, evSs, evS, evC, evCs, Cop.d, gGlb, hz, ze]
  | false =>
    have hb1 : n.hid = false := by
      cases h : n.hid with
      | true => rw [h] at hb; cases hb
      | false => rfl
    have hb2 : decide (n.op = 0) = false := by rw [hb1, Bool.false_or] at hb; exact hb
    rw [hb2] at ze
    have g1 : evS W bo_s1 [some (.leaf BD), some (.leaf (.str nm)), some (.leaf PE), some (.leaf (clipD n.clip)), some (.leaf OP), some (.leaf (.bool n.hid)), some (.leaf CD), none, none] = .ok .nx [some (.leaf BD), some (.leaf (.str nm)), some (.leaf PE), some (.leaf (clipD n.clip)), some (.leaf OP), some (.leaf (.bool n.hid)), some (.leaf CD), none, none] := by
      rw [hb1]
      generalize clipD n.clip = CL at *
      simp [bo_s1, evSs, evS, evC, evCs, Cop.d, gGlb, hz, ze]
    rw [step (c := bo_r1) rfl g1, step (c := bo_r2) rfl g2]
    cases hc : n.clip with
    | none =>
      simp [bo_r3, bo_s3, bo_r4, evSs, evS, evC, evCs, Cop.d, clipD, clipB, isntD, isNone]
    | some q =>
      have hi : isntD (clipD (some q)) .none = some (.leaf (.bool true)) := rfl
      have q1 := sr (clipD (some q))
      have q2 := sh q (l, t)
      have ep : ptD (l, t) = .tuple [.int (cell.1 - c.1), .int (cell.2 - c.2)] := by rw [hl, htt]; rfl
      rw [ep] at q2
      have eB : clipB (some q) l t = !inB q (l, t) := rfl
      rw [eB]
      generalize inB q (l, t) = bb at *
      generalize clipD (some q) = CL at *
      cases bb <;> simp [bo_r3, bo_s3, bo_r4, evSs, evS, evC, evCs, Cop.d, Bop.d, hi, hh, hr, lens, q1, q2, p0, p1]
end Fc

namespace Fc
open PySem PySem.Spec PyProof.Rows L2 IL
def SpOwnPx (C : Nat) (F : FSem) : Prop := ∀ (m : Nat) (tr : List Nd) (n : Nd) (cell : Int × Int), TreeOk m tr → n ∈ tr → F [.leaf (boughD C tr), .leaf (.str n.nm), .leaf (ptD cell)] = some (.leaf (pxN (ownP n (corAt tr n.nm) cell).1 (ownP n (corAt tr n.nm) cell).2), [none, none, none])
theorem run_ownpx {W : Wd} {C : Nat} (hn : HasN W.na C) (hz : W.glb "NOTHING" = some (pxN 0 0)) : SpOwnPx C (runM n_Boughs_own_pixel.length 3 [] (evSs W c_Boughs_own_pixel)) := by
  intro m tr n cell ht hm
  have f1 := fl_1 hn tr
  have f3 := fl_3 hn tr
  have hnm : n.nm ∈ tr.map (·.nm) := List.mem_map_of_mem hm
  have b1 := get_dD (f := Nd.d) (byn_at ht hm)
  have b2 := get_dD (f := ptD) (cors_at ht (.inr hnm))
  have hok := (ht.mem n hm).1
  have i7 := ix_nd7 n
  generalize corAt tr n.nm = c at *
  generalize boughD C tr = BD at *
  generalize n.nm = nm at *
  obtain ⟨x, hx⟩ : ∃ x, x = cell.1 - c.1 := ⟨_, rfl⟩
  obtain ⟨y, hy⟩ : ∃ y, y = cell.2 - c.2 := ⟨_, rfl⟩
  have hO : ownP n c cell = ownC n.cont x y := by rw [hx, hy]; rfl
  rw [hO]
  have p0 := ix_pt0 cell
  have p1 := ix_pt1 cell
  have pc : ptD c = .tuple [.int c.1, .int c.2] := rfl
  rw [pc] at b2
  generalize ptD cell = PE at *
  generalize n.d = ND at *
  generalize PyData.dict (dD Nd.d (byn tr)) = D1 at *
  generalize PyData.dict (dD ptD (cors tr)) = D2 at *
  have g0 : evS W bp_s0 [some (.leaf BD), some (.leaf (.str nm)), some (.leaf PE), none, none, none, none, none] = .ok .nx [some (.leaf BD), some (.leaf (.str nm)), some (.leaf PE), some (.leaf (contD n.cont)), none, none, none, none] := by
    generalize contD n.cont = CD at *
    simp [bp_s0, evS, evC, evCs, gDgt, gFld, f1, b1, i7]
  have g1 : evS W bp_s1 [some (.leaf BD), some (.leaf (.str nm)), some (.leaf PE), some (.leaf (contD n.cont)), none, none, none, none] = .ok .nx [some (.leaf BD), some (.leaf (.str nm)), some (.leaf PE), some (.leaf (contD n.cont)), some (.leaf (.int c.1)), some (.leaf (.int c.2)), none, none] := by
    generalize contD n.cont = CD at *
    simp [bp_s1, evS, evC, evCs, evTg, evTgs, tgN, unT, consG, gAsg, gDgt, gFld, f3, b2]
  have g2 : evS W bp_s2 [some (.leaf BD), some (.leaf (.str nm)), some (.leaf PE), some (.leaf (contD n.cont)), some (.leaf (.int c.1)), some (.leaf (.int c.2)), none, none] = .ok .nx [some (.leaf BD), some (.leaf (.str nm)), some (.leaf PE), some (.leaf (contD n.cont)), some (.leaf (.int c.1)), some (.leaf (.int c.2)), some (.leaf (.int x)), some (.leaf (.int y))] := by
    rw [hx, hy]
    generalize contD n.cont = CD at *
    simp [bp_s2, evS, evC, evCs, Bop.d, gPar, p0, p1]
  refine run_pure ?_
  show tell (evSs W c_Boughs_own_pixel) [some (.leaf BD), some (.leaf (.str nm)), some (.leaf PE), none, none, none, none, none] = _
  unfold tell
  rw [bp_eq, step (c := bp_r0) rfl g0, step (c := bp_r1) rfl g1, step (c := bp_r2) rfl g2]
  cases hc : n.cont with
  | none =>
    have : ownC none x y = (0, 0) := rfl
    rw [this]
    generalize pxN 0 0 = NO at *
    simp [bp_r3, bp_s3, bp_r4, evSs, evS, evC, evCs, Cop.d, contD, isD, isNone, gGlb, hz]
  | some rs =>
    obtain ⟨w, hh, rr, hw, hhh, l1, i0, l2, hin⟩ := own_shape (hok.cont rs hc) x y
    have hcd : contD (some rs) = rowsD rs := rfl
    have hI : isD (rowsD rs) .none = some (.leaf (.bool false)) := rfl
    rw [hcd]
    have eI : inB2 rs x y = ((decide (0 ≤ y) && decide (y < hh)) && (decide (0 ≤ x) && decide (x < w))) := by rw [hw, hhh]; rfl
    by_cases hb : (0 ≤ y ∧ y < hh) ∧ (0 ≤ x ∧ x < w)
    · obtain ⟨ry, cl, hcl, a1, a2, a3⟩ := hin hb
      have eO : ownC (some rs) x y = (cl.p, cl.c) := by
        unfold ownC
        simp only [eI]
        rw [if_pos (by simp [hb.1.1, hb.1.2, hb.2.1, hb.2.2])]
        simp only [a3]
      rw [eO]
      have j1 := ix_cld cl
      generalize pxN cl.p cl.c = PP at *
      generalize pxN 0 0 = NO at *
      generalize rowsD rs = RS at *
      generalize cl.d = CD at *
      obtain ⟨⟨h1, h2⟩, h3, h4⟩ := hb
      simp [bp_r3, bp_s3, bp_r4, bp_s4, bp_r5, evSs, evS, evC, evCs, Cop.d, Bif.d, hI, l1, i0, l2, h1, h2, h3, h4, a1, a2, j1]
    · have eO : ownC (some rs) x y = (0, 0) := by
        unfold ownC
        simp only [eI]
        rw [if_neg]
        intro z
        simp only [Bool.and_eq_true, decide_eq_true_eq] at z
        exact hb z
      rw [eO]
      generalize pxN 0 0 = NO at *
      generalize rowsD rs = RS at *
      by_cases h1 : 0 ≤ y <;> by_cases h2 : y < hh <;> by_cases h3 : 0 ≤ x <;> by_cases h4 : x < w <;>
        first
        | (simp [bp_r3, bp_s3, bp_r4, evSs, evS, evC, evCs, Cop.d, Bif.d, hI, l1, i0, l2, h1, h2, h3, h4, gGlb, hz]; done)
        | exact absurd ⟨⟨h1, h2⟩, h3, h4⟩ hb
theorem ne_zero {n : Nat} (h : n ≤ 16) : neD (fq (q16 n)) (fq (q16 0)) = some (.leaf (.bool (decide (0 < n)))) := by
  have h2 : eqB (fq (q16 n)) (fq (q16 0)) = some (decide (n = 0)) := fin17 (P := fun n => eqB (fq (q16 n)) (fq (q16 0)) = some (decide (n = 0))) (by decide +kernel) h
  unfold neD bT
  rw [h2]
  by_cases e : n = 0
  · subst e; rfl
  · simp [e]
    omega
theorem own_le {m : Nat} {n : Nd} (h : n.Ok m) (c cell : Int × Int) : (ownP n c cell).1 ≤ 16 ∧ (ownP n c cell).2 ≤ 16 := by
  unfold ownP ownC
  split
  · simp
  · rename_i rs hc
    split
    · split
      · rename_i cl hcl
        have := (h.cont rs hc).ok
        have hm : cl ∈ rowAt rs (cell.2 - c.2) := List.mem_of_getElem? hcl
        unfold rowAt at hm
        cases hr : rs[(cell.2 - c.2).toNat]? with
        | none => rw [hr] at hm; cases hm
        | some r =>
          rw [hr] at hm
          have q := this r (List.mem_of_getElem? hr) cl hm
          exact ⟨Nat.le_trans q.le q.hi, q.hi⟩
      · simp
    · simp
end Fc

namespace Fc
open PySem PySem.Spec PyProof.Rows L2 IL
def gGcd : List D → Option D
  | [.int a, .int b] => if 0 ≤ a ∧ 0 ≤ b ∧ lim 1000 b then some (.int (Nat.gcd a.toNat b.toNat : Nat)) else none
  | _ => none
theorem ok_common_divisor (W : Wd) : ∀ ts r, ts.length = 2 → pureF 2 gGcd ts = some r → runM n_common_divisor.length 2 [] (evSs W c_common_divisor) ts = some r := by
  refine pure_ok fun ds d hl hg => ?_
  unfold gGcd at hg
  split at hg
  · split at hg
    · rename_i a b hz
      cases hg
      obtain ⟨h1, h2, h3⟩ := hz
      obtain ⟨x, rfl⟩ := Int.eq_ofNat_of_zero_le h1
      obtain ⟨y, rfl⟩ := Int.eq_ofNat_of_zero_le h2
      have hy : y < 2 ^ 1000 := by simpa [lim] using h3
      have hw := gcd_loop (tst (evC W (.cmp .ne (.var 1) (.int 0)))) (fun x y rest => by
        simp [evC, Cop.d, neD, eqB, bT, scalEq]
        by_cases h : y = 0 <;> simp [h]) 1000 x y 4096 [] hy (by decide)
      show tell (gSeq (gWhile 4096 _ swapBody) (gSeq (gRet (lf (gVar 0))) (IL.ret .nx))) [some (.leaf (.int x)), some (.leaf (.int y))] = _
      unfold tell gSeq bnd
      rw [hw]
      rfl
    · cases hg
  · cases hg
def gRatio : List D → Option D
  | [.int a, .int b] => if b ≠ 0 ∧ lim 900 a ∧ lim 900 b then some (fq (Rat.divInt a b)) else none
  | _ => none
theorem ok_ratio (W : Wd) (h : W.fn "common_divisor" = some ⟨2, [], pureF 2 gGcd⟩) : ∀ ts r, ts.length = 2 → pureF 2 gRatio ts = some r → runM n_ratio.length 2 [] (evSs W c_ratio) ts = some r := by
  refine pure_ok fun ds d hl hg => ?_
  unfold gRatio at hg
  split at hg
  · split at hg
    · rename_i a b hz
      cases hg
      obtain ⟨h1, h2, h3⟩ := hz
      have hG : gGcd [.int (a.natAbs : Int), .int (b.natAbs : Int)] = some (.int (Int.gcd a b : Nat)) := by
        refine if_pos ⟨by omega, by omega, ?_⟩
        unfold lim at *
        rw [Int.natAbs_natCast]
        exact Nat.lt_of_lt_of_le h3 (Nat.pow_le_pow_right (by decide) (by decide))
      have hg := gcd_pos (a := a) h1
      have hgl := gcd_lim (a := a) h1 h3
      by_cases hb : b < 0
      · have d1 : divOk a (0 - (Int.gcd a b : Nat)) = true := divOk_lim (by omega) (lim_neg.mpr hgl) (by decide)
        have d2 : divOk b (0 - (Int.gcd a b : Nat)) = true := divOk_lim (by omega) (lim_neg.mpr hgl) (by decide)
        have hr := rat_neg (a := a) hb
        simp only [Int.zero_sub] at d1 d2 hr
        simp [tell, c_ratio, evSs, evS, evC, evCs, Bop.d, Cop.d, Bif.d, h, lens, n_ratio, pureF, hG, hb, d1, d2]
        exact hr
      · have d1 : divOk a (Int.gcd a b : Nat) = true := divOk_lim (by omega) hgl (by decide)
        have d2 : divOk b (Int.gcd a b : Nat) = true := divOk_lim (by omega) hgl (by decide)
        have hr := rat_pos (a := a) (b := b) (by omega)
        simp [tell, c_ratio, evSs, evS, evC, evCs, Bop.d, Cop.d, Bif.d, h, lens, n_ratio, pureF, hG, hb, d1, d2]
        exact hr
    · cases hg
  · cases hg
/-- two pairs of numbers -/
def g2fr (g : Int → Int → Int → Int → D) : List D → Option D
  | [.tuple [.int a, .int b], .tuple [.int c, .int d]] => if 0 < b ∧ 0 < d ∧ lim 400 a ∧ lim 400 b ∧ lim 400 c ∧ lim 400 d then some (g a b c d) else none
  | _ => none
def gAdded : List D → Option D := g2fr fun a b c d => fq (Rat.divInt a b + Rat.divInt c d)
def gLess : List D → Option D := g2fr fun a b c d => fq (Rat.divInt a b - Rat.divInt c d)
def gTimes : List D → Option D := g2fr fun a b c d => fq (Rat.divInt a b * Rat.divInt c d)
theorem g2fr_some {g : Int → Int → Int → Int → D} {ds : List D} {r : D} (h : g2fr g ds = some r) : ∃ a b c d, ds = [fr a b, fr c d] ∧ 0 < b ∧ 0 < d ∧ lim 400 a ∧ lim 400 b ∧ lim 400 c ∧ lim 400 d ∧ r = g a b c d := by
  unfold g2fr at h
  split at h
  · split at h
    · rename_i a b c d hz
      cases h
      exact ⟨a, b, c, d, rfl, hz.1, hz.2.1, hz.2.2.1, hz.2.2.2.1, hz.2.2.2.2.1, hz.2.2.2.2.2, rfl⟩
    · cases h
  · cases h
theorem ok_added (W : Wd) (h : W.fn "ratio" = some ⟨2, [], pureF 2 gRatio⟩) : ∀ ts r, ts.length = 2 → pureF 2 gAdded ts = some r → runM n_added.length 2 [] (evSs W c_added) ts = some r := by
  refine pure_ok fun ds r hl hg => ?_
  obtain ⟨a, b, c, d, rfl, hb, hd, la, lb, lc, ld, rfl⟩ := g2fr_some hg
  have m1 := mulOk_lim la ld (by decide)
  have m2 := mulOk_lim lc lb (by decide)
  have m3 := mulOk_lim lb ld (by decide)
  have hG : gRatio [.int (a * d + c * b), .int (b * d)] = some (fq (Rat.divInt a b + Rat.divInt c d)) := by
    rw [Rat.divInt_add_divInt _ _ (by omega) (by omega)]
    exact if_pos ⟨Int.mul_ne_zero (by omega) (by omega), lim_mono (lim_add (lim_mul la ld) (lim_mul lc lb)) (by decide), lim_mono (lim_mul lb ld) (by decide)⟩
  simp [tell, c_added, evSs, evS, evC, evCs, Bop.d, h, lens, n_added, pureF, hG, m1, m2, m3, fr]
theorem ok_less (W : Wd) (h : W.fn "ratio" = some ⟨2, [], pureF 2 gRatio⟩) : ∀ ts r, ts.length = 2 → pureF 2 gLess ts = some r → runM n_less.length 2 [] (evSs W c_less) ts = some r := by
  refine pure_ok fun ds r hl hg => ?_
  obtain ⟨a, b, c, d, rfl, hb, hd, la, lb, lc, ld, rfl⟩ := g2fr_some hg
  have m1 := mulOk_lim la ld (by decide)
  have m2 := mulOk_lim lc lb (by decide)
  have m3 := mulOk_lim lb ld (by decide)
  have hG : gRatio [.int (a * d - c * b), .int (b * d)] = some (fq (Rat.divInt a b - Rat.divInt c d)) := by
    rw [Rat.divInt_sub_divInt _ _ (by omega) (by omega)]
    exact if_pos ⟨Int.mul_ne_zero (by omega) (by omega), lim_mono (lim_sub (lim_mul la ld) (lim_mul lc lb)) (by decide), lim_mono (lim_mul lb ld) (by decide)⟩
  simp [tell, c_less, evSs, evS, evC, evCs, Bop.d, h, lens, n_less, pureF, hG, m1, m2, m3, fr]
theorem ok_times (W : Wd) (h : W.fn "ratio" = some ⟨2, [], pureF 2 gRatio⟩) : ∀ ts r, ts.length = 2 → pureF 2 gTimes ts = some r → runM n_times.length 2 [] (evSs W c_times) ts = some r := by
  refine pure_ok fun ds r hl hg => ?_
  obtain ⟨a, b, c, d, rfl, hb, hd, la, lb, lc, ld, rfl⟩ := g2fr_some hg
  have m1 := mulOk_lim la lc (by decide)
  have m3 := mulOk_lim lb ld (by decide)
  have hG : gRatio [.int (a * c), .int (b * d)] = some (fq (Rat.divInt a b * Rat.divInt c d)) := by
    rw [Rat.divInt_mul_divInt]
    exact if_pos ⟨Int.mul_ne_zero (by omega) (by omega), lim_mono (lim_mul la lc) (by decide), lim_mono (lim_mul lb ld) (by decide)⟩
  simp [tell, c_times, evSs, evS, evC, evCs, Bop.d, h, lens, n_times, pureF, hG, m1, m3, fr]
end Fc

namespace Fc
open PySem PySem.Spec PyProof.Rows L2 IL
def SpQ2 (f : Rat → Rat → Rat) (F : FSem) : Prop := ∀ r s, limQ 400 r → limQ 400 s → F (lf2 (fq r) (fq s)) = some (.leaf (fq (f r s)), nn)
theorem pure2 {g : List D → Option D} {a b d : D} (h : g [a, b] = some d) : pureF 2 g (lf2 a b) = some (.leaf d, nn) := by
  simp [pureF, h]
theorem g2fr_q {g : Int → Int → Int → Int → D} {r s : Rat} (h : limQ 400 r) (h' : limQ 400 s) : g2fr g [fq r, fq s] = some (g r.num r.den s.num s.den) := if_pos ⟨den_pos' r, den_pos' s, h.1, h.2, h'.1, h'.2⟩
theorem sp_added : SpQ2 (fun r s => r + s) (pureF 2 gAdded) := fun r s h h' => pure2 (by
  have := g2fr_q (g := fun a b c d => fq (Rat.divInt a b + Rat.divInt c d)) h h'
  rw [Rat.num_divInt_den, Rat.num_divInt_den] at this
  exact this)
theorem sp_less : SpQ2 (fun r s => r - s) (pureF 2 gLess) := fun r s h h' => pure2 (by
  have := g2fr_q (g := fun a b c d => fq (Rat.divInt a b - Rat.divInt c d)) h h'
  rw [Rat.num_divInt_den, Rat.num_divInt_den] at this
  exact this)
theorem sp_times : SpQ2 (fun r s => r * s) (pureF 2 gTimes) := fun r s h h' => pure2 (by
  have := g2fr_q (g := fun a b c d => fq (Rat.divInt a b * Rat.divInt c d)) h h'
  rw [Rat.num_divInt_den, Rat.num_divInt_den] at this
  exact this)
/-- p laid on q -/
def lp (c p q : Rat) : Rat := p + (1 - c) * q
def SpLaid (F : FSem) : Prop := ∀ p c q e, limQ 110 p → limQ 110 c → limQ 250 q → limQ 250 e → F (lf2 (px p c) (px q e)) = some (.leaf (px (lp c p q) (lp c c e)), nn)
theorem lim_lp {k : Nat} {c p q : Rat} (h : limQ 40 p) (h' : limQ 40 c) (hq : limQ k q) : limQ (k + 83) (lp c p q) := (h.add ((limQ_one.sub h').mul hq)).mono (by omega)
theorem lim_lp5 {k : Nat} {c p q : Rat} (h : limQ 5 p) (h' : limQ 5 c) (hq : limQ k q) : limQ (k + 13) (lp c p q) := (h.add ((limQ_one.sub h').mul hq)).mono (by omega)
theorem run_laid_on {W : Wd} {Fa Fl Ft : FSem} (wg : W.glb "WHOLE" = some (fq 1)) (ha : W.fn "added" = some ⟨2, [], Fa⟩) (hl : W.fn "less" = some ⟨2, [], Fl⟩) (ht : W.fn "times" = some ⟨2, [], Ft⟩) (sa : SpQ2 (fun r s => r + s) Fa) (sl : SpQ2 (fun r s => r - s) Fl) (st : SpQ2 (fun r s => r * s) Ft) : SpLaid (runM n_laid_on.length 2 [] (evSs W c_laid_on)) := by
  intro p c q e hp hc hq he
  refine run_pure ?_
  have l1 := limQ_one.sub hc
  have k1 := sl 1 c (limQ_one.mono (by decide)) (hc.mono (by decide))
  have k2 := st (1 - c) q (l1.mono (by decide)) (hq.mono (by decide))
  have k3 := st (1 - c) e (l1.mono (by decide)) (he.mono (by decide))
  have k4 := sa p ((1 - c) * q) (hp.mono (by decide)) ((l1.mul hq).mono (by decide))
  have k5 := sa c ((1 - c) * e) (hc.mono (by decide)) ((l1.mul he).mono (by decide))
  simp only [lf2, nn] at k1 k2 k3 k4 k5
  simp [tell, c_laid_on, evSs, evS, evC, evCs, gGlb, wg, ha, hl, ht, lens, n_laid_on, px, k1, k2, k3, k4, k5, lp]
def SpFaded (F : FSem) : Prop := ∀ p c o, limQ 300 p → limQ 300 c → limQ 40 o → F (lf2 (px p c) (fq o)) = some (.leaf (px (p * o) (c * o)), nn)
theorem run_faded {W : Wd} {Ft : FSem} (ht : W.fn "times" = some ⟨2, [], Ft⟩) (st : SpQ2 (fun r s => r * s) Ft) : SpFaded (runM n_faded.length 2 [] (evSs W c_faded)) := by
  intro p c o hp hc ho
  refine run_pure ?_
  have k2 := st p o (hp.mono (by decide)) (ho.mono (by decide))
  have k3 := st c o (hc.mono (by decide)) (ho.mono (by decide))
  simp only [lf2, nn] at k2 k3
  simp [tell, c_faded, evSs, evS, evC, evCs, ht, lens, n_faded, px, k2, k3]
/-! rows laid -/
end Fc

namespace Fc
open PySem PySem.Spec PyProof.Rows L2 IL
/-! ### pictures: the program's and the law's -/
def layQ (p f : Rat × Rat) : Rat × Rat := (lp p.2 p.1 f.1, lp p.2 p.2 f.2)
def layI (p f : Int × Int × Int) : Int × Int × Int := (p.1 * f.2.2 + (p.2.2 - p.2.1) * f.1, p.2.1 * f.2.2 + (p.2.2 - p.2.1) * f.2.1, p.2.2 * f.2.2)
structure Rl (k : Nat) (q : Rat × Rat) (t : Int × Int × Int) : Prop where
  a0 : 0 ≤ t.1
  ab : t.1 ≤ t.2.1
  bB : t.2.1 ≤ t.2.2
  B0 : 0 < t.2.2
  Bk : t.2.2 ≤ 16 ^ k
  e1 : q.1 * (t.2.2 : Rat) = (t.1 : Rat)
  e2 : q.2 * (t.2.2 : Rat) = (t.2.1 : Rat)
theorem pow16 (a b : Nat) : (16 : Int) ^ (a + b) = 16 ^ a * 16 ^ b := Int.pow_add 16 a b
theorem pow16_pos (a : Nat) : (0 : Int) < 16 ^ a := Int.pow_pos (by decide)
theorem Rl.mono {a b : Nat} {q : Rat × Rat} {t : Int × Int × Int} (h : Rl a q t) (hb : a ≤ b) : Rl b q t := by
  refine ⟨h.a0, h.ab, h.bB, h.B0, Int.le_trans h.Bk ?_, h.e1, h.e2⟩
  obtain ⟨c, rfl⟩ := Nat.exists_eq_add_of_le hb
  rw [pow16]
  have h1 := pow16_pos a
  have h2 := pow16_pos c
  have := Int.mul_le_mul_of_nonneg_left (show (1 : Int) ≤ 16 ^ c by omega) (show (0 : Int) ≤ 16 ^ a by omega)
  omega
theorem Rl.lay {a b : Nat} {p f : Rat × Rat} {t u : Int × Int × Int} (h : Rl a p t) (h' : Rl b f u) : Rl (a + b) (layQ p f) (layI t u) := by
  obtain ⟨x, y, X⟩ := t
  obtain ⟨u, v, U⟩ := u
  obtain ⟨p1, p2⟩ := p
  obtain ⟨f1, f2⟩ := f
  obtain ⟨a0, ab, bB, B0, Bk, e1, e2⟩ := h
  obtain ⟨c0, cd, dU, U0, Uk, g1, g2⟩ := h'
  simp only at *
  have m1 := Int.mul_nonneg a0 (show 0 ≤ U by omega)
  have m2 := Int.mul_nonneg (show 0 ≤ X - y by omega) c0
  have m3 := Int.mul_le_mul_of_nonneg_right ab (show 0 ≤ U by omega)
  have m4 := Int.mul_le_mul_of_nonneg_left cd (show 0 ≤ X - y by omega)
  have m5 := Int.mul_le_mul_of_nonneg_left dU (show 0 ≤ X - y by omega)
  have m6 : X * U = y * U + (X - y) * U := by rw [Int.sub_mul]; omega
  have m7 := Int.mul_pos B0 U0
  have m8 := Int.mul_le_mul Bk Uk (show 0 ≤ U by omega) (show 0 ≤ (16 : Int) ^ a by have := pow16_pos a; omega)
  refine ⟨?_, ?_, ?_, ?_, ?_, ?_, ?_⟩ <;> simp only [layI, layQ, lp]
  · omega
  · omega
  · omega
  · exact m7
  · rw [pow16]; exact m8
  · rw [Rat.intCast_mul, Rat.intCast_add, Rat.intCast_mul, Rat.intCast_mul, Rat.intCast_sub, ← e1, ← e2, ← g1]
    grind
  · rw [Rat.intCast_mul, Rat.intCast_add, Rat.intCast_mul, Rat.intCast_mul, Rat.intCast_sub, ← e2, ← g2]
    grind
theorem Rl.out : Rl 0 (0, 0) (0, 0, 1) := ⟨by decide, by decide, by decide, by decide, by decide, by decide +kernel, by decide +kernel⟩
theorem q16_mul (n : Nat) : q16 n * ((16 : Int) : Rat) = ((n : Int) : Rat) := by
  unfold q16
  rw [Rat.divInt_eq_div]
  have : ((16 : Int) : Rat) ≠ 0 := by decide +kernel
  exact Rat.div_mul_cancel this
theorem Rl.own {a b : Nat} (h : a ≤ b) (h' : b ≤ 16) : Rl 1 (q16 a, q16 b) ((a : Int), (b : Int), 16) :=
  ⟨by simp only; omega, by simp only; omega, by simp only; omega, show (0 : Int) < 16 by decide, show (16 : Int) ≤ 16 ^ 1 by decide, q16_mul a, q16_mul b⟩
theorem q16_den (n : Nat) (h : n ≤ 16) : q16 n * ((((q16 n).den : Nat) : Int) : Rat) = (((q16 n).num : Int) : Rat) ∧ 0 ≤ (q16 n).num ∧ (q16 n).num ≤ ((q16 n).den : Int) ∧ ((q16 n).den : Int) ≤ 16 :=
  fin17 (P := fun n => q16 n * ((((q16 n).den : Nat) : Int) : Rat) = (((q16 n).num : Int) : Rat) ∧ 0 ≤ (q16 n).num ∧ (q16 n).num ≤ ((q16 n).den : Int) ∧ ((q16 n).den : Int) ≤ 16) (by decide +kernel) h
theorem Rl.fade {k n : Nat} {q : Rat × Rat} {t : Int × Int × Int} (h : Rl k q t) (hn : n ≤ 16) : Rl (k + 1) (q.1 * q16 n, q.2 * q16 n) (t.1 * (q16 n).num, t.2.1 * (q16 n).num, t.2.2 * ((q16 n).den : Int)) := by
  obtain ⟨x, y, X⟩ := t
  obtain ⟨p1, p2⟩ := q
  obtain ⟨a0, ab, bB, B0, Bk, e1, e2⟩ := h
  obtain ⟨d1, d2, d3, d4⟩ := q16_den n hn
  have d5 := (q16_small hn).2.2
  simp only at *
  have key : ∀ (o : Rat) (N M : Int), o * (M : Rat) = (N : Rat) → 0 ≤ N → N ≤ M → M ≤ 16 → 0 < M → Rl (k + 1) (p1 * o, p2 * o) (x * N, y * N, X * M) := by
    intro o N M d1 d2 d3 d4 M0
    refine ⟨Int.mul_nonneg a0 d2, Int.mul_le_mul_of_nonneg_right ab d2, ?_, Int.mul_pos B0 M0, ?_, ?_, ?_⟩ <;> simp only
    · exact Int.mul_le_mul bB d3 d2 (by omega)
    · rw [pow16]
      exact Int.mul_le_mul Bk (show M ≤ 16 ^ 1 by rw [Int.pow_one]; exact d4) (by omega) (by have := pow16_pos k; omega)
    · rw [Rat.intCast_mul, Rat.intCast_mul, ← e1, ← d1]; grind
    · rw [Rat.intCast_mul, Rat.intCast_mul, ← e2, ← d1]; grind
  exact key (q16 n) (q16 n).num (q16 n).den d1 d2 d3 d4 (by omega)
theorem Rl.div {k : Nat} {q : Rat × Rat} {t : Int × Int × Int} (h : Rl k q t) : q.1 = Rat.divInt t.1 t.2.2 ∧ q.2 = Rat.divInt t.2.1 t.2.2 := by
  have hB := h.B0
  have h0 : ((t.2.2 : Int) : Rat) ≠ 0 := by
    intro z
    have : t.2.2 = 0 := by exact_mod_cast z
    omega
  rw [Rat.divInt_eq_div, Rat.divInt_eq_div, ← h.e1, ← h.e2, Rat.mul_div_cancel h0, Rat.mul_div_cancel h0]
  exact ⟨rfl, rfl⟩
theorem lim16 {k : Nat} {i : Int} (h0 : 0 ≤ i) (h : i ≤ 16 ^ k) : lim (4 * k + 1) i := by
  show i.natAbs < 2 ^ (4 * k + 1)
  have e : (16 : Int) ^ k = ((2 ^ (4 * k) : Nat) : Int) := by
    rw [Nat.pow_mul]
    push_cast
    rfl
  rw [e] at h
  have : 2 ^ (4 * k + 1) = 2 ^ (4 * k) * 2 := Nat.pow_succ ..
  have p : 0 < 2 ^ (4 * k) := Nat.two_pow_pos _
  omega
theorem Rl.lims {k : Nat} {q : Rat × Rat} {t : Int × Int × Int} (h : Rl k q t) : lim (4 * k + 1) t.1 ∧ lim (4 * k + 1) t.2.1 ∧ lim (4 * k + 1) t.2.2 ∧ limQ (4 * k + 1) q.1 ∧ limQ (4 * k + 1) q.2 := by
  have l3 := lim16 (k := k) (Int.le_of_lt h.B0) h.Bk
  have l2 := lim16 (k := k) (Int.le_trans h.a0 h.ab) (Int.le_trans h.bB h.Bk)
  have l1 := lim16 (k := k) h.a0 (Int.le_trans h.ab (Int.le_trans h.bB h.Bk))
  have hne : t.2.2 ≠ 0 := by have := h.B0; omega
  refine ⟨l1, l2, l3, ?_, ?_⟩
  · rw [h.div.1]; exact limQ_divInt hne l1 l3
  · rw [h.div.2]; exact limQ_divInt hne l2 l3
end Fc

namespace Fc
open PySem PySem.Spec PyProof.Rows L2 IL
def kidN (tr : List Nd) (p : Str) : List Nd := tr.filter fun n => decide (n.par = p)
theorem kids_kidN (tr : List Nd) (p : Str) : kids tr p = (kidN tr p).map (·.nm) := rfl
theorem kidN_snoc (tr : List Nd) (n : Nd) (p : Str) : kidN (tr ++ [n]) p = kidN tr p ++ (if n.par = p then [n] else []) := by
  unfold kidN
  rw [List.filter_append]
  by_cases h : n.par = p <;> simp [h]
theorem kidN_mem {tr : List Nd} {p : Str} {n : Nd} (h : n ∈ kidN tr p) : n ∈ tr ∧ n.par = p := by
  unfold kidN at h
  obtain ⟨h1, h2⟩ := List.mem_filter.mp h
  exact ⟨h1, of_decide_eq_true h2⟩
def foldQ (g : Nd → Rat × Rat) (l : List Nd) (f : Rat × Rat) : Rat × Rat := l.foldl (fun f k => layQ (g k) f) f
def foldI (g : Nd → Int × Int × Int) (l : List Nd) (f : Int × Int × Int) : Int × Int × Int := l.foldl (fun f k => layI (g k) f) f
def ownQ (o : Nat × Nat) : Rat × Rat := (q16 o.1, q16 o.2)
def ownI (o : Nat × Nat) : Int × Int × Int := ((o.1 : Int), (o.2 : Int), 16)
def picQ : Nat → List Nd → Int × Int → Nd → Rat × Rat
  | 0, _, _, _ => (0, 0)
  | m + 1, tr, cell, n => if outB n (corAt tr n.nm) cell then (0, 0) else
    ((foldQ (picQ m tr cell) (kidN tr n.nm) (ownQ (ownP n (corAt tr n.nm) cell))).1 * q16 n.op, (foldQ (picQ m tr cell) (kidN tr n.nm) (ownQ (ownP n (corAt tr n.nm) cell))).2 * q16 n.op)
def picI : Nat → List Nd → Int × Int → Nd → Int × Int × Int
  | 0, _, _, _ => (0, 0, 1)
  | m + 1, tr, cell, n => if outB n (corAt tr n.nm) cell then (0, 0, 1) else
    let f := foldI (picI m tr cell) (kidN tr n.nm) (ownI (ownP n (corAt tr n.nm) cell))
    (f.1 * (q16 n.op).num, f.2.1 * (q16 n.op).num, f.2.2 * ((q16 n.op).den : Int))
def wt : Nat → List Nd → Nd → Nat
  | 0, _, _ => 0
  | m + 1, tr, n => 2 + ((kidN tr n.nm).map (wt m tr)).sum
theorem sum_le {α : Type} {f g : α → Nat} : ∀ {l : List α}, (∀ x ∈ l, f x ≤ g x) → (l.map f).sum ≤ (l.map g).sum
  | [], _ => Nat.le_refl _
  | a :: l, h => by
    have h1 := h a List.mem_cons_self
    have h2 := sum_le (l := l) (f := f) (g := g) fun x hx => h x (List.mem_cons_of_mem _ hx)
    simp only [List.map_cons, List.sum_cons]
    omega
theorem wt_mono (tr : List Nd) : ∀ (m : Nat) (n : Nd), wt m tr n ≤ wt (m + 1) tr n
  | 0, n => Nat.zero_le _
  | m + 1, n => by
    rw [wt, wt]
    have := sum_le (l := kidN tr n.nm) (f := wt m tr) (g := wt (m + 1) tr) fun x _ => wt_mono tr m x
    omega
theorem kidN_behind {m : Nat} {tr : List Nd} (h : TreeOk m tr) {i : Nat} (hi : i < tr.length) : kidN tr tr[i].nm = kidN (tr.drop (i + 1)) tr[i].nm ∧ kidN (tr.take (i + 1)) tr[i].nm = [] := by
  have e : kidN (tr.take (i + 1)) tr[i].nm = [] := by
    unfold kidN
    rw [List.filter_eq_nil_iff]
    intro x hx hp
    obtain ⟨j, hj, rfl⟩ := List.mem_iff_getElem.mp hx
    rw [List.length_take] at hj
    rw [List.getElem_take] at hp
    have := par_behind h hi (by omega) (of_decide_eq_true hp)
    omega
  refine ⟨?_, e⟩
  obtain ⟨z, hz⟩ : ∃ z, z = tr[i].nm := ⟨_, rfl⟩
  rw [← hz] at e ⊢
  unfold kidN at e ⊢
  conv => lhs; rw [← List.take_append_drop (i + 1) tr, List.filter_append, e]
  rfl
theorem nm_apart {m : Nat} {tr : List Nd} (h : TreeOk m tr) {i j : Nat} (hij : i < j) (hj : j < tr.length) : tr[j].nm ≠ tr[i].nm := by
  intro e
  obtain ⟨_, _, _, a4, _⟩ := h.at j hj
  apply a4
  rw [e]
  refine List.mem_map_of_mem (f := fun n : Nd => n.nm) ?_
  have hl : i < (tr.take j).length := by rw [List.length_take]; omega
  have : (tr.take j)[i] = tr[i] := List.getElem_take ..
  rw [← this]
  exact List.getElem_mem hl
/-- weights of disjoint subtrees -/
theorem wt_sum {m : Nat} {tr : List Nd} (h : TreeOk m tr) : ∀ (d i k : Nat) (q : Str → Bool), i + d = tr.length → (∀ x ∈ tr.drop i, q x.nm = false) → (((tr.drop i).filter fun n => q n.par).map (wt k tr)).sum ≤ 2 * d
  | 0, i, k, q, e, _ => by
    rw [List.drop_eq_nil_of_le (by omega)]
    simp
  | d + 1, i, k, q, e, hq => by
    have hi : i < tr.length := by omega
    have hdr := List.drop_eq_getElem_cons hi
    have hq1 : q tr[i].nm = false := hq _ (by rw [hdr]; exact List.mem_cons_self)
    have hq2 : ∀ x ∈ tr.drop (i + 1), q x.nm = false := fun x hx => hq x (by rw [hdr]; exact List.mem_cons_of_mem _ hx)
    rw [hdr]
    by_cases hp : q tr[i].par = true
    · rw [List.filter_cons_of_pos (by simpa using hp), List.map_cons, List.sum_cons]
      cases k with
      | zero =>
        have := wt_sum h d (i + 1) 0 q (by omega) hq2
        have e0 : wt 0 tr tr[i] = 0 := rfl
        omega
      | succ k =>
        have hnd := h.nd
        have ih := wt_sum h d (i + 1) (k + 1) (fun z => q z || decide (z = tr[i].nm)) (by omega) (by
          intro x hx
          simp only [hq2 x hx, Bool.false_or, decide_eq_false_iff_not]
          intro ez
          obtain ⟨j, hj, rfl⟩ := List.mem_iff_getElem.mp hx
          rw [List.length_drop] at hj
          rw [List.getElem_drop] at ez
          exact nm_apart h (by omega) _ ez)
        have sp : ∀ l : List Nd, (((l.filter fun n => q n.par || decide (n.par = tr[i].nm)).map (wt (k + 1) tr)).sum) = ((l.filter fun n => q n.par).map (wt (k + 1) tr)).sum + ((l.filter fun n => decide (n.par = tr[i].nm)).map (wt (k + 1) tr)).sum := by
          intro l
          induction l with
          | nil => rfl
          | cons x l ih =>
            by_cases e1 : q x.par = true
            · have e2 : ¬ x.par = tr[i].nm := fun z => by rw [z, hq1] at e1; cases e1
              simp [List.filter_cons, e1, e2, ih]
              omega
            · by_cases e2 : x.par = tr[i].nm
              · simp [List.filter_cons, e2, hq1, ih]
                omega
              · simp [List.filter_cons, e1, e2, ih]
        rw [sp] at ih
        have hw : wt (k + 1) tr tr[i] ≤ 2 + (((tr.drop (i + 1)).filter fun n => decide (n.par = tr[i].nm)).map (wt (k + 1) tr)).sum := by
          rw [wt, (kidN_behind h hi).1]
          have := sum_le (l := kidN (tr.drop (i + 1)) tr[i].nm) (f := wt k tr) (g := wt (k + 1) tr) fun x _ => wt_mono tr k x
          unfold kidN at this ⊢
          omega
        omega
    · rw [List.filter_cons_of_neg (by simpa using hp)]
      have := wt_sum h d (i + 1) k q (by omega) hq2
      omega
theorem wt_kids {m : Nat} {tr : List Nd} (h : TreeOk m tr) (k : Nat) {z : Str} (hz : z = "" ∨ ∃ (i : Nat) (hi : i < tr.length), z = tr[i].nm) : ((kidN tr z).map (wt k tr)).sum ≤ 2 * tr.length := by
  rcases hz with rfl | ⟨i, hi, rfl⟩
  · have := wt_sum h tr.length 0 k (fun z => decide (z = "")) (by omega) (fun x hx => by
      rw [List.drop_zero] at hx
      exact decide_eq_false (not_empty (h.mem x hx).2.1))
    rw [List.drop_zero] at this
    exact this
  · have hnd := h.nd
    have := wt_sum h (tr.length - (i + 1)) (i + 1) k (fun z => decide (z = tr[i].nm)) (by omega) (fun x hx => by
      refine decide_eq_false fun ez => ?_
      obtain ⟨j, hj, rfl⟩ := List.mem_iff_getElem.mp hx
      rw [List.length_drop] at hj
      rw [List.getElem_drop] at ez
      exact nm_apart h (by omega) _ ez)
    rw [(kidN_behind h hi).1]
    unfold kidN
    omega
/-- a stack of pictures, both ways -/
theorem rl_fold {gq : Nd → Rat × Rat} {gi : Nd → Int × Int × Int} {w : Nd → Nat} : ∀ (l : List Nd) (k : Nat) (f : Rat × Rat) (u : Int × Int × Int), (∀ x ∈ l, Rl (w x) (gq x) (gi x)) → Rl k f u → Rl (k + (l.map w).sum) (foldQ gq l f) (foldI gi l u)
  | [], k, f, u, _, h => by simpa [foldQ, foldI] using h
  | x :: l, k, f, u, hl, h => by
    have h1 := (hl x List.mem_cons_self).lay h
    have h2 := rl_fold l _ _ _ (fun y hy => hl y (List.mem_cons_of_mem _ hy)) h1
    rw [List.map_cons, List.sum_cons]
    have e : w x + k + (l.map w).sum = k + (w x + (l.map w).sum) := by omega
    rw [e] at h2
    exact h2
theorem own_wf {m : Nat} {n : Nd} (h : n.Ok m) (c cell : Int × Int) : (ownP n c cell).1 ≤ (ownP n c cell).2 := by
  unfold ownP ownC
  split
  · simp
  · rename_i rs hc
    split
    · split
      · rename_i cl hcl
        have := (h.cont rs hc).ok
        have hm : cl ∈ rowAt rs (cell.2 - c.2) := List.mem_of_getElem? hcl
        unfold rowAt at hm
        cases hr : rs[(cell.2 - c.2).toNat]? with
        | none => rw [hr] at hm; cases hm
        | some r =>
          rw [hr] at hm
          exact (this r (List.mem_of_getElem? hr) cl hm).le
      · simp
    · simp
theorem rl_own {m : Nat} {n : Nd} (h : n.Ok m) (c cell : Int × Int) : Rl 1 (ownQ (ownP n c cell)) (ownI (ownP n c cell)) := Rl.own (own_wf h c cell) (own_le h c cell).2
theorem rl_pic {mm : Nat} {tr : List Nd} (h : TreeOk mm tr) (cell : Int × Int) : ∀ (m : Nat) (n : Nd), n ∈ tr → Rl (wt m tr n) (picQ m tr cell n) (picI m tr cell n)
  | 0, n, _ => Rl.out
  | m + 1, n, hn => by
    unfold picQ picI
    cases hb : outB n (corAt tr n.nm) cell with
    | true => exact Rl.out.mono (Nat.zero_le _)
    | false =>
      have hok := (h.mem n hn).1
      have h1 := rl_fold (gq := picQ m tr cell) (gi := picI m tr cell) (w := wt m tr) (kidN tr n.nm) 1 _ _ (fun x hx => rl_pic h cell m x (kidN_mem hx).1) (rl_own hok (corAt tr n.nm) cell)
      have h2 := h1.fade hok.op
      rw [wt]
      exact h2.mono (by omega)
/-- what is shown of a cell -/
def shQ (s : Sc) (cell : Int × Int) : Rat × Rat := foldQ (picQ 6 s.tr cell) (kidN s.tr "") (q16 s.back, q16 16)
def backI (b : Nat) : Int × Int × Int := ((q16 b).num, ((q16 b).den : Int), ((q16 b).den : Int))
def shI (s : Sc) (cell : Int × Int) : Int × Int × Int := foldI (picI 6 s.tr cell) (kidN s.tr "") (backI s.back)
theorem q16_one : q16 16 = 1 := by decide +kernel
theorem rl_back {b : Nat} (h : b ≤ 16) : Rl 1 (q16 b, q16 16) (backI b) := by
  obtain ⟨d1, d2, d3, d4⟩ := q16_den b h
  have d5 := (q16_small h).2.2
  refine ⟨d2, d3, Int.le_refl _, by show (0 : Int) < ((q16 b).den : Int); omega, by show ((q16 b).den : Int) ≤ 16 ^ 1; rw [Int.pow_one]; exact d4, d1, ?_⟩
  show q16 16 * _ = _
  rw [q16_one]
  show (1 : Rat) * _ = _
  rw [Rat.one_mul]
  rfl
theorem rl_shown {m : Nat} {s : Sc} (h : s.Ok m) (cell : Int × Int) : Rl 13 (shQ s cell) (shI s cell) := by
  have h1 := rl_fold (gq := picQ 6 s.tr cell) (gi := picI 6 s.tr cell) (w := wt 6 s.tr) (kidN s.tr "") 1 _ _ (fun x hx => rl_pic h.tree cell 6 x (kidN_mem hx).1) (rl_back h.back)
  have h2 := wt_kids h.tree 6 (z := "") (.inl rfl)
  have h3 := h.six
  exact h1.mono (by omega)
end Fc

namespace Fc
open PySem PySem.Spec PyProof.Rows L2 IL
def triD (t : Int × Int × Int) : D := .tuple [.int t.1, .int t.2.1, .int t.2.2]
def lim3 (t : Int × Int × Int) : Prop := lim 100 t.1 ∧ lim 100 t.2.1 ∧ lim 100 t.2.2
theorem ix_t0 (t : Int × Int × Int) : ixD (triD t) (.int 0) = some (.int t.1) := rfl
theorem ix_t1 (t : Int × Int × Int) : ixD (triD t) (.int 1) = some (.int t.2.1) := rfl
theorem ix_t2 (t : Int × Int × Int) : ixD (triD t) (.int 2) = some (.int t.2.2) := rfl
theorem mul_l {a b : Int} (ha : lim 120 a) (hb : lim 120 b) : mulOk a b = true := mulOk_lim ha hb (by decide)
theorem lim_sub1 {a b : Int} (ha : lim 100 a) (hb : lim 100 b) : lim 120 (a - b) := by
  unfold lim at *
  have h1 : (a - b).natAbs ≤ a.natAbs + b.natAbs := by omega
  have h2 : 2 ^ 100 + 2 ^ 100 < 2 ^ 120 := by decide
  omega
def SpLay (F : FSem) : Prop := ∀ t u, lim3 t → lim3 u → F [.leaf (triD t), .leaf (triD u)] = some (.leaf (triD (layI t u)), [none, none])
theorem run_lay {W : Wd} : SpLay (runM n__law_lay.length 2 [] (evSs W c__law_lay)) := by
  intro t u ht hu
  obtain ⟨x, y, X⟩ := t
  obtain ⟨a, b, B⟩ := u
  obtain ⟨h1, h2, h3⟩ := ht
  obtain ⟨k1, k2, k3⟩ := hu
  have i0 := ix_t0 (x, y, X)
  have i1 := ix_t1 (x, y, X)
  have i2 := ix_t2 (x, y, X)
  have j0 := ix_t0 (a, b, B)
  have j1 := ix_t1 (a, b, B)
  have j2 := ix_t2 (a, b, B)
  have up : ∀ {i : Int}, lim 100 i → lim 120 i := fun h => lim_mono h (by decide)
  simp only at *
  have s1 := lim_sub1 h3 h2
  have m1 := mul_l (up h1) (up k3)
  have m2 := mul_l (up h2) (up k3)
  have m3 := mul_l (up h3) (up k3)
  have m4 := mul_l s1 (up k1)
  have m5 := mul_l s1 (up k2)
  have hO : layI (x, y, X) (a, b, B) = (x * B + (X - y) * a, y * B + (X - y) * b, X * B) := rfl
  rw [hO]
  have eT : triD (x * B + (X - y) * a, y * B + (X - y) * b, X * B) = .tuple [.int (x * B + (X - y) * a), .int (y * B + (X - y) * b), .int (X * B)] := rfl
  rw [eT]
  generalize triD (x, y, X) = T1 at *
  generalize triD (a, b, B) = T2 at *
  refine run_pure ?_
  show tell (evSs W c__law_lay) [some (.leaf T1), some (.leaf T2), none] = _
  unfold tell
  simp [c__law_lay, evSs, evS, evC, evCs, Bop.d, i0, i1, i2, j0, j1, j2, m1, m2, m3, m4, m5]
theorem ix_tr {tr : List Nd} {i : Nat} (h : i < tr.length) : ixD (.tuple (tr.map Nd.d)) (.int (i : Int)) = some tr[i].d := by
  refine ix_in (by omega) ?_
  simp [h]
theorem len_tr (tr : List Nd) : lenD [.tuple (tr.map Nd.d)] = some (.leaf (.int tr.length)) := by rw [len_tupD, List.length_map]
def SpPicL (k : Nat) (F : FSem) : Prop := ∀ (m : Nat) (s : Sc) (i : Nat) (cell : Int × Int) (hi : i < s.tr.length), s.Ok m → s.tr.length - i ≤ k → F [.leaf s.d, .leaf (.dict (dD ptD (cors s.tr))), .leaf (.int i), .leaf (ptD cell)] = some (.leaf (triD (picI k s.tr cell s.tr[i])), [none, none, none, none])
theorem rng2_tr {a b : Nat} (ha : a ≤ 9) (hb : b ≤ 9) : rng2 [.int (a : Int), .int (b : Int)] = some (rangeL a (b - a)) := by
  have h1 := far10 ⟨a, by omega⟩
  have h2 := far10 ⟨b, by omega⟩
  unfold rng2
  simp only at h1 h2 ⊢
  rw [h1, h2]
  have e : ((b : Int) - (a : Int)).toNat = b - a := by omega
  rw [e]
  rfl
theorem rg2_at {a i C : Nat} {d : D} (h : (rangeL a C)[i]? = some d) : i < C ∧ d = .int ((a + i : Nat) : Int) := by
  unfold rangeL at h
  rw [List.getElem?_map] at h
  obtain ⟨j, h1, h2⟩ := Option.map_eq_some_iff.mp h
  have h3 := (List.getElem?_eq_some_iff.mp h1)
  obtain ⟨h4, h5⟩ := h3
  rw [List.length_range] at h4
  rw [List.getElem_range] at h5
  subst h5
  exact ⟨h4, by rw [← h2]; simp⟩
theorem lim3_of {k : Nat} {q : Rat × Rat} {t : Int × Int × Int} (h : Rl k q t) (hk : k ≤ 20) : lim3 t := by
  obtain ⟨a, b, c, _, _⟩ := h.lims
  exact ⟨lim_mono a (by omega), lim_mono b (by omega), lim_mono c (by omega)⟩
theorem kidN_take {tr : List Nd} {j : Nat} (hj : j < tr.length) (p : Str) : kidN (tr.take (j + 1)) p = kidN (tr.take j) p ++ (if tr[j].par = p then [tr[j]] else []) := by
  rw [take_snoc _ _ hj, kidN_snoc]
theorem foldI_snoc (g : Nd → Int × Int × Int) (l : List Nd) (x : Nd) (u : Int × Int × Int) : foldI g (l ++ [x]) u = layI (g x) (foldI g l u) := by simp [foldI, List.foldl_append]
theorem foldQ_snoc (g : Nd → Rat × Rat) (l : List Nd) (x : Nd) (u : Rat × Rat) : foldQ g (l ++ [x]) u = layQ (g x) (foldQ g l u) := by simp [foldQ, List.foldl_append]
theorem wt_kids_take {m : Nat} {tr : List Nd} (h : TreeOk m tr) (k j : Nat) {z : Str} (hz : z = "" ∨ ∃ (i : Nat) (hi : i < tr.length), z = tr[i].nm) : ((kidN (tr.take j) z).map (wt k tr)).sum ≤ 2 * tr.length := by
  have h1 := wt_kids h k hz
  have e : kidN tr z = kidN (tr.take j) z ++ kidN (tr.drop j) z := by
    unfold kidN
    conv => lhs; rw [← List.take_append_drop j tr, List.filter_append]
  rw [e, List.map_append, List.sum_append] at h1
  omega
theorem rl_take {m : Nat} {tr : List Nd} (h : TreeOk m tr) (h6 : tr.length ≤ 6) (cell : Int × Int) (k j : Nat) {z : Str} (hz : z = "" ∨ ∃ (i : Nat) (hi : i < tr.length), z = tr[i].nm) {f : Rat × Rat} {u : Int × Int × Int} (hf : Rl 1 f u) : Rl 13 (foldQ (picQ k tr cell) (kidN (tr.take j) z) f) (foldI (picI k tr cell) (kidN (tr.take j) z) u) := by
  have h1 := rl_fold (gq := picQ k tr cell) (gi := picI k tr cell) (w := wt k tr) (kidN (tr.take j) z) 1 f u (fun x hx => rl_pic h cell k x (List.mem_of_mem_take (kidN_mem hx).1)) hf
  have h2 := wt_kids_take h k j hz
  exact h1.mono (by omega)
theorem wt_one {m : Nat} {tr : List Nd} (h : TreeOk m tr) (h6 : tr.length ≤ 6) (k i : Nat) (hi : i < tr.length) : wt k tr tr[i] ≤ 14 := by
  cases k with
  | zero => exact Nat.zero_le _
  | succ k =>
    rw [wt]
    have := wt_kids h k (.inr ⟨i, hi, rfl⟩)
    omega
end Fc

namespace Fc
open PySem PySem.Spec PyProof.Rows L2 IL
theorem run_law_picture {W : Wd} {k : Nat} {Fo Fw Fl F : FSem} (ho : W.fn "_law_out" = some ⟨3, [], Fo⟩) (so : SpOut Fo) (hw : W.fn "_law_own" = some ⟨3, [], Fw⟩) (sw : SpOwn Fw) (hl : W.fn "_law_lay" = some ⟨2, [], Fl⟩) (sl : SpLay Fl) (hF : W.fn "_law_picture" = some ⟨4, [], F⟩) (sF : SpPicL k F) : SpPicL (k + 1) (runM n__law_picture.length 4 [] (evSs W c__law_picture)) := by
  intro m s i cell hi hs hik
  have hT := hs.tree
  have h6 := hs.six
  obtain ⟨hok, _, _⟩ := hT.mem s.tr[i] (List.getElem_mem hi)
  have hnm : s.tr[i].nm ∈ s.tr.map (·.nm) := List.mem_map_of_mem (List.getElem_mem hi)
  have hsp := get_dD (f := ptD) (cors_at hT (.inr hnm))
  have r1 := so s.tr[i] (corAt s.tr s.tr[i].nm) cell hok.op
  have r2 := sw m s.tr[i] (corAt s.tr s.tr[i].nm) cell hok
  have i3 := ix_sc3 s
  have it := ix_tr hi
  have i0 := ix_nd0 s.tr[i]
  have i5 := ix_nd5 s.tr[i]
  have k0 := ix_fq (q16 s.tr[i].op)
  have k1 := ix_fq1 (q16 s.tr[i].op)
  have ln := len_tr s.tr
  have hR := rl_own hok (corAt s.tr s.tr[i].nm) cell
  have itj : ∀ j (hj : j < s.tr.length), ixD (.tuple (s.tr.map Nd.d)) (.int (j : Int)) = some s.tr[j].d := fun j hj => ix_tr hj
  have r3 : ∀ j (hj : j < s.tr.length), i < j → F [.leaf s.d, .leaf (.dict (dD ptD (cors s.tr))), .leaf (.int (j : Int)), .leaf (ptD cell)] = some (.leaf (triD (picI k s.tr cell s.tr[j])), [none, none, none, none]) := fun j hj hij => sF m s j cell hj hs (by omega)
  have hbeh := (kidN_behind hT hi).2
  have l1 : ∀ j (hj : j < s.tr.length), lim3 (picI k s.tr cell s.tr[j]) := fun j hj => lim3_of (rl_pic hT cell k _ (List.getElem_mem hj)) (Nat.le_trans (wt_one hT h6 k j hj) (by decide))
  have l2 : ∀ j, lim3 (foldI (picI k s.tr cell) (kidN (s.tr.take j) s.tr[i].nm) (ownI (ownP s.tr[i] (corAt s.tr s.tr[i].nm) cell))) := fun j => lim3_of (rl_take hT h6 cell k j (.inr ⟨i, hi, rfl⟩) hR) (by decide)
  obtain ⟨SD, hSD⟩ : ∃ SD, SD = s.d := ⟨_, rfl⟩
  obtain ⟨ND, hND⟩ : ∃ ND, ND = s.tr[i].d := ⟨_, rfl⟩
  obtain ⟨nm, hnmE⟩ : ∃ nm, nm = s.tr[i].nm := ⟨_, rfl⟩
  have eP : picI (k + 1) s.tr cell s.tr[i] = if outB s.tr[i] (corAt s.tr s.tr[i].nm) cell then (0, 0, 1) else
    ((foldI (picI k s.tr cell) (kidN s.tr s.tr[i].nm) (ownI (ownP s.tr[i] (corAt s.tr s.tr[i].nm) cell))).1 * (q16 s.tr[i].op).num, (foldI (picI k s.tr cell) (kidN s.tr s.tr[i].nm) (ownI (ownP s.tr[i] (corAt s.tr s.tr[i].nm) cell))).2.1 * (q16 s.tr[i].op).num, (foldI (picI k s.tr cell) (kidN s.tr s.tr[i].nm) (ownI (ownP s.tr[i] (corAt s.tr s.tr[i].nm) cell))).2.2 * ((q16 s.tr[i].op).den : Int)) := rfl
  rw [eP]
  have hoL : lim 120 (q16 s.tr[i].op).num ∧ lim 120 ((q16 s.tr[i].op).den : Int) := by
    have := q16_lim hok.op
    exact ⟨lim_mono this.1 (by decide), lim_mono this.2 (by decide)⟩
  have hop : fq (q16 s.tr[i].op) = .tuple [.int (q16 s.tr[i].op).num, .int ((q16 s.tr[i].op).den : Int)] := rfl
  rw [← hSD] at i3 r3 ⊢
  rw [← hND] at it i0 i5 r1 r2
  rw [← hnmE] at hsp r1 r2 i0 l2 hbeh ⊢
  generalize hB : outB s.tr[i] (corAt s.tr nm) cell = ob at *
  generalize ownP s.tr[i] (corAt s.tr nm) cell = OW at *
  generalize ptD (corAt s.tr nm) = PC at *
  generalize fq (q16 s.tr[i].op) = OP at *
  generalize (q16 s.tr[i].op).num = oN at *
  generalize ((q16 s.tr[i].op).den : Int) = oM at *
  obtain ⟨PE, hPE⟩ : ∃ PE, PE = ptD cell := ⟨_, rfl⟩
  rw [← hPE] at r1 r2 r3 ⊢
  generalize PyData.dict (dD ptD (cors s.tr)) = SP at *
  generalize hTD : PyData.tuple (s.tr.map Nd.d) = TD at *
  obtain ⟨ii, hii⟩ : ∃ ii : Int, ii = (i : Int) := ⟨_, rfl⟩
  rw [← hii] at it ⊢
  let E5 : Option T → Option T → Option T → Option T → En := fun x5 x6 x7 x8 => [some (.leaf SD), some (.leaf SP), some (.leaf (.int ii)), some (.leaf PE), some (.leaf ND), x5, x6, x7, x8]
  have g0 : evS W lq_s0 [some (.leaf SD), some (.leaf SP), some (.leaf (.int ii)), some (.leaf PE), none, none, none, none, none] = .ok .nx (E5 none none none none) := by
    simp [lq_s0, evS, evC, i3, it, E5]
  refine run_pure ?_
  show tell (evSs W c__law_picture) [some (.leaf SD), some (.leaf SP), some (.leaf (.int ii)), some (.leaf PE), none, none, none, none, none] = _
  unfold tell
  rw [lq_eq, step (c := lq_r0) rfl g0]
  cases ob with
  | true =>
    simp only [E5]
    simp [lq_r1, lq_s1, lq_r2, evSs, evS, evC, evCs, gDix, held, peek, ho, lens, i0, hsp, r1]
    rfl
  | false =>
    have g1 : evS W lq_s1 (E5 none none none none) = .ok .nx (E5 none none none none) := by
      simp only [E5]
      simp [lq_s1, evSs, evS, evC, evCs, gDix, held, peek, ho, lens, i0, hsp, r1]
    have eo : ownI OW = ((OW.1 : Int), (OW.2 : Int), 16) := rfl
    have t3 : addD (.tuple [.int (OW.1 : Int), .int (OW.2 : Int)]) (.tuple [.int 16]) = some (.leaf (triD (ownI OW))) := by
      rw [tup_add (by simp)]
      rfl
    have fm : frz (mkTup [.leaf (.int 16)]) = .tuple [.int 16] := rfl
    have g2 : evS W lq_s2 (E5 none none none none) = .ok .nx (E5 (some (.leaf (triD (ownI OW)))) none none none) := by
      simp only [E5]
      generalize triD (ownI OW) = TT at *
      simp [lq_s2, evSs, evS, evC, evCs, Bop.d, gDix, held, peek, hw, lens, i0, hsp, r2, fm, t3]
    let G : Nat → Int × Int × Int := fun j => foldI (picI k s.tr cell) (kidN (s.tr.take j) nm) (ownI OW)
    have G0 : G (i + 1) = ownI OW := by
      show foldI _ (kidN (s.tr.take (i + 1)) nm) _ = _
      rw [hbeh]
      rfl
    let Inv : Nat → En → Prop := fun j e => ∃ x6, e = E5 (some (.leaf (triD (G (i + 1 + j))))) x6 none none
    obtain ⟨e', q1, x6, rfl⟩ := gFor_inv (bd := evTg W (.nm 6)) (b := evSs W lq_b3_r0) Inv (rangeL ((i + 1 : Nat) : Int) (s.tr.length - (i + 1))) 0 (E5 (some (.leaf (triD (G (i + 1))))) none none none) ⟨none, rfl⟩ (by
      rintro j d e hd ⟨x6, rfl⟩
      obtain ⟨hj, rfl⟩ := rg2_at hd
      rw [Nat.zero_add] at *
      have hij : i + 1 + j < s.tr.length := by omega
      have a1 := itj (i + 1 + j) hij
      have a2 := ix_nd1 s.tr[i + 1 + j]
      have a3 := r3 (i + 1 + j) hij (by omega)
      have a4 := sl _ _ (l1 (i + 1 + j) hij) (l2 (i + 1 + j))
      have kt := kidN_take hij nm
      refine ⟨E5 (some (.leaf (triD (G (i + 1 + (j + 1)))))) (some (.leaf (.int ((i + 1 + j : Nat) : Int)))) none none, ?_, _, rfl⟩
      have eG : G (i + 1 + (j + 1)) = if s.tr[i + 1 + j].par = nm then layI (picI k s.tr cell s.tr[i + 1 + j]) (G (i + 1 + j)) else G (i + 1 + j) := by
        show foldI _ (kidN (s.tr.take (i + 1 + j + 1)) nm) _ = _
        rw [kt]
        by_cases hp : s.tr[i + 1 + j].par = nm
        · rw [if_pos hp, if_pos hp, foldI_snoc]
        · rw [if_neg hp, if_neg hp, List.append_nil]
      rw [eG]
      have a4' : Fl [.leaf (triD (picI k s.tr cell s.tr[i + 1 + j])), .leaf (triD (G (i + 1 + j)))] = some (.leaf (triD (layI (picI k s.tr cell s.tr[i + 1 + j]) (G (i + 1 + j)))), [none, none]) := a4
      have ee := eq_strs s.tr[i + 1 + j].par nm
      generalize (s.tr[i + 1 + j].par) = pr at *
      generalize s.tr[i + 1 + j].d = NJ at *
      generalize triD (picI k s.tr cell s.tr[i + 1 + j]) = T1 at *
      by_cases hp : pr = nm
      · rw [if_pos hp]
        rw [decide_eq_true hp] at ee
        generalize triD (layI (picI k s.tr cell s.tr[i + 1 + j]) (G (i + 1 + j))) = T3 at *
        generalize triD (G (i + 1 + j)) = T2 at *
        generalize ((i + 1 + j : Nat) : Int) = jj at *
        simp only [E5]
        simp [lq_b3_r0, lq_b3_s0, lq_b3_r1, evTg, evSs, evS, evC, evCs, Cop.d, hF, hl, lens, i3, i0, a1, a2, a3, a4', ee]
      · rw [if_neg hp]
        rw [decide_eq_false hp] at ee
        generalize triD (G (i + 1 + j)) = T2 at *
        generalize ((i + 1 + j : Nat) : Int) = jj at *
        simp only [E5]
        simp [lq_b3_r0, lq_b3_s0, lq_b3_r1, evTg, evSs, evS, evC, evCs, Cop.d, hF, hl, lens, i3, i0, a1, a2, ee])
    have lr : (rangeL ((i + 1 : Nat) : Int) (s.tr.length - (i + 1))).length = s.tr.length - (i + 1) := by simp [rangeL]
    rw [lr, Nat.zero_add, show i + 1 + (s.tr.length - (i + 1)) = s.tr.length by omega] at q1
    rw [G0] at q1
    have hI : evI W lq_i3 (E5 (some (.leaf (triD (ownI OW)))) none none none) = .ok (rangeL ((i + 1 : Nat) : Int) (s.tr.length - (i + 1))) (E5 (some (.leaf (triD (ownI OW)))) none none none) := by
      have rg := rng2_tr (a := i + 1) (b := s.tr.length) (by omega) (by omega)
      have e1 : (((i + 1 : Nat) : Int)) = ii + 1 := by omega
      rw [e1] at rg ⊢
      generalize rangeL (ii + 1) (s.tr.length - (i + 1)) = RL at *
      simp only [E5]
      generalize triD (ownI OW) = TT at *
      simp [lq_i3, evI, evC, evCs, Bop.d, Bif.d, gRng, i3, ln, rg]
    have g3 : evS W lq_s3 (E5 (some (.leaf (triD (ownI OW)))) none none none) = .ok .nx (E5 (some (.leaf (triD (G s.tr.length)))) x6 none none) := by
      simp only [lq_s3_eq, evS]
      rw [ap_bnd, hI]
      exact q1
    have GL : G s.tr.length = foldI (picI k s.tr cell) (kidN s.tr nm) (ownI OW) := by
      show foldI _ (kidN (s.tr.take s.tr.length) nm) _ = _
      rw [List.take_length]
    have l3 := l2 s.tr.length
    rw [List.take_length] at l3
    rw [GL] at g3
    generalize foldI (picI k s.tr cell) (kidN s.tr nm) (ownI OW) = TR at *
    have g4 : evS W lq_s4 (E5 (some (.leaf (triD TR))) x6 none none) = .ok .nx (E5 (some (.leaf (triD TR))) x6 (some (.leaf (.int oN))) (some (.leaf (.int oM)))) := by
      rw [hop] at i5
      simp only [E5]
      generalize triD TR = TT at *
      simp [lq_s4, evS, evC, evCs, evTg, evTgs, tgN, unT, consG, gAsg, i5]
    rw [step (c := lq_r1) rfl g1, step (c := lq_r2) rfl g2, step (c := lq_r3) rfl g3, step (c := lq_r4) rfl g4]
    have j0 := ix_t0 TR
    have j1 := ix_t1 TR
    have j2 := ix_t2 TR
    have m1 := mul_l (lim_mono l3.1 (by decide)) hoL.1
    have m2 := mul_l (lim_mono l3.2.1 (by decide)) hoL.1
    have m3 := mul_l (lim_mono l3.2.2 (by decide)) hoL.2
    have eF : triD (TR.1 * oN, TR.2.1 * oN, TR.2.2 * oM) = .tuple [.int (TR.1 * oN), .int (TR.2.1 * oN), .int (TR.2.2 * oM)] := rfl
    simp only [Bool.false_eq_true, if_false]
    rw [eF]
    simp only [E5]
    generalize triD TR = TT at *
    simp [lq_r5, lq_s5, lq_r6, evSs, evS, evC, evCs, Bop.d, j0, j1, j2, m1, m2, m3]
end Fc

namespace Fc
open PySem PySem.Spec PyProof.Rows L2 IL
def SpTold (F : FSem) : Prop := ∀ (k : Nat) (q : Rat × Rat) (t : Int × Int × Int), k ≤ 20 → Rl k q t → F [.leaf (triD t)] = some (.leaf (px q.1 q.2), [none])
theorem run_told {W : Wd} {F : FSem} (hF : W.fn "_law_frac" = some ⟨2, [], F⟩) (sF : SpFr F) : SpTold (runM n__law_told_pixel.length 1 [] (evSs W c__law_told_pixel)) := by
  intro k q t hk h
  obtain ⟨l1, l2, l3, _, _⟩ := h.lims
  have a1 := sF t.1 t.2.2 h.B0 (lim_mono l1 (by omega)) (lim_mono l3 (by omega))
  have a2 := sF t.2.1 t.2.2 h.B0 (lim_mono l2 (by omega)) (lim_mono l3 (by omega))
  rw [← h.div.1] at a1
  rw [← h.div.2] at a2
  have j0 := ix_t0 t
  have j1 := ix_t1 t
  have j2 := ix_t2 t
  simp only [lf2, nn] at a1 a2
  have ep : px q.1 q.2 = .tuple [fq q.1, fq q.2] := rfl
  rw [ep]
  generalize fq q.1 = P1 at *
  generalize fq q.2 = P2 at *
  generalize triD t = TT at *
  refine run_pure ?_
  show tell (evSs W c__law_told_pixel) [some (.leaf TT)] = _
  unfold tell
  simp [c__law_told_pixel, evSs, evS, evC, evCs, hF, lens, j0, j1, j2, a1, a2]
def SpShL (F : FSem) : Prop := ∀ (m : Nat) (s : Sc) (cell : Int × Int), s.Ok m → F [.leaf s.d, .leaf (.dict (dD ptD (cors s.tr))), .leaf (ptD cell)] = some (.leaf (px (shQ s cell).1 (shQ s cell).2), [none, none, none])
theorem ix_sc2 (s : Sc) : ixD s.d (.int 2) = some (pxN s.back 16) := rfl
theorem run_law_shown {W : Wd} {Fl F Ft : FSem} (hl : W.fn "_law_lay" = some ⟨2, [], Fl⟩) (sl : SpLay Fl) (hF : W.fn "_law_picture" = some ⟨4, [], F⟩) (sF : SpPicL 6 F) (ht : W.fn "_law_told_pixel" = some ⟨1, [], Ft⟩) (st : SpTold Ft) : SpShL (runM n__law_shown.length 3 [] (evSs W c__law_shown)) := by
  intro m s cell hs
  have hT := hs.tree
  have h6 := hs.six
  have i2 := ix_sc2 s
  have i3 := ix_sc3 s
  have b0 := ix_px0 s.back 16
  have k0 := ix_fq (q16 s.back)
  have k1 := ix_fq1 (q16 s.back)
  have ln := len_tr s.tr
  have hR := rl_back hs.back
  have itj : ∀ j (hj : j < s.tr.length), ixD (.tuple (s.tr.map Nd.d)) (.int (j : Int)) = some s.tr[j].d := fun j hj => ix_tr hj
  have r3 : ∀ j (hj : j < s.tr.length), F [.leaf s.d, .leaf (.dict (dD ptD (cors s.tr))), .leaf (.int (j : Int)), .leaf (ptD cell)] = some (.leaf (triD (picI 6 s.tr cell s.tr[j])), [none, none, none, none]) := fun j hj => sF m s j cell hj hs (by omega)
  have l1 : ∀ j (hj : j < s.tr.length), lim3 (picI 6 s.tr cell s.tr[j]) := fun j hj => lim3_of (rl_pic hT cell 6 _ (List.getElem_mem hj)) (Nat.le_trans (wt_one hT h6 6 j hj) (by decide))
  have l2 : ∀ j, lim3 (foldI (picI 6 s.tr cell) (kidN (s.tr.take j) "") (backI s.back)) := fun j => lim3_of (rl_take hT h6 cell 6 j (.inl rfl) hR) (by decide)
  have rT := st 13 _ _ (by decide) (rl_shown hs cell)
  have eS : shI s cell = foldI (picI 6 s.tr cell) (kidN s.tr "") (backI s.back) := rfl
  rw [eS] at rT
  have eb : triD (backI s.back) = .tuple [.int (q16 s.back).num, .int ((q16 s.back).den : Int), .int ((q16 s.back).den : Int)] := rfl
  obtain ⟨SD, hSD⟩ : ∃ SD, SD = s.d := ⟨_, rfl⟩
  rw [← hSD] at i2 i3 r3 ⊢
  obtain ⟨PE, hPE⟩ : ∃ PE, PE = ptD cell := ⟨_, rfl⟩
  rw [← hPE] at r3 ⊢
  generalize PyData.dict (dD ptD (cors s.tr)) = SP at *
  generalize hTD : PyData.tuple (s.tr.map Nd.d) = TD at *
  generalize px (shQ s cell).1 (shQ s cell).2 = OUT at *
  generalize pxN s.back 16 = BK at *
  generalize fq (q16 s.back) = FB at *
  let E4 : Option T → Option T → En := fun x4 x5 => [some (.leaf SD), some (.leaf SP), some (.leaf PE), some (.leaf FB), x4, x5]
  have g0 : evS W lv_s0 [some (.leaf SD), some (.leaf SP), some (.leaf PE), none, none, none] = .ok .nx (E4 none none) := by
    simp [lv_s0, evS, evC, i2, b0, E4]
  have g1 : evS W lv_s1 (E4 none none) = .ok .nx (E4 (some (.leaf (triD (backI s.back)))) none) := by
    rw [eb]
    simp [lv_s1, evS, evC, evCs, k0, k1, E4]
  let G : Nat → Int × Int × Int := fun j => foldI (picI 6 s.tr cell) (kidN (s.tr.take j) "") (backI s.back)
  have G0 : G 0 = backI s.back := rfl
  let Inv : Nat → En → Prop := fun j e => ∃ x5, e = E4 (some (.leaf (triD (G j)))) x5
  obtain ⟨e', q1, x5, rfl⟩ := gFor_inv (bd := evTg W (.nm 5)) (b := evSs W lv_b2_r0) Inv (rangeL 0 s.tr.length) 0 (E4 (some (.leaf (triD (G 0)))) none) ⟨none, rfl⟩ (by
    rintro j d e hd ⟨x5, rfl⟩
    obtain ⟨hj, rfl⟩ := rg_at hd
    rw [Nat.zero_add] at *
    have a1 := itj j hj
    have a2 := ix_nd1 s.tr[j]
    have a3 := r3 j hj
    have a4 := sl _ _ (l1 j hj) (l2 j)
    have kt := kidN_take hj ""
    rw [Int.zero_add]
    refine ⟨E4 (some (.leaf (triD (G (j + 1))))) (some (.leaf (.int (j : Int)))), ?_, _, rfl⟩
    have eG : G (j + 1) = if s.tr[j].par = "" then layI (picI 6 s.tr cell s.tr[j]) (G j) else G j := by
      show foldI _ (kidN (s.tr.take (j + 1)) "") _ = _
      rw [kt]
      by_cases hp : s.tr[j].par = ""
      · rw [if_pos hp, if_pos hp, foldI_snoc]
      · rw [if_neg hp, if_neg hp, List.append_nil]
    rw [eG]
    have a4' : Fl [.leaf (triD (picI 6 s.tr cell s.tr[j])), .leaf (triD (G j))] = some (.leaf (triD (layI (picI 6 s.tr cell s.tr[j]) (G j))), [none, none]) := a4
    have ee := eq_strs s.tr[j].par ""
    generalize (s.tr[j].par) = pr at *
    generalize s.tr[j].d = NJ at *
    generalize triD (picI 6 s.tr cell s.tr[j]) = T1 at *
    by_cases hp : pr = ""
    · rw [if_pos hp]
      rw [decide_eq_true hp] at ee
      generalize triD (layI (picI 6 s.tr cell s.tr[j]) (G j)) = T3 at *
      generalize triD (G j) = T2 at *
      generalize (j : Int) = jj at *
      simp only [E4]
      simp [lv_b2_r0, lv_b2_s0, lv_b2_r1, evTg, evSs, evS, evC, evCs, Cop.d, hF, hl, lens, i3, a1, a2, a3, a4', ee]
    · rw [if_neg hp]
      rw [decide_eq_false hp] at ee
      generalize triD (G j) = T2 at *
      generalize (j : Int) = jj at *
      simp only [E4]
      simp [lv_b2_r0, lv_b2_s0, lv_b2_r1, evTg, evSs, evS, evC, evCs, Cop.d, hF, hl, lens, i3, a1, a2, ee])
  have lr : (rangeL 0 s.tr.length).length = s.tr.length := by simp [rangeL]
  have GL : G s.tr.length = foldI (picI 6 s.tr cell) (kidN s.tr "") (backI s.back) := by
    show foldI _ (kidN (s.tr.take s.tr.length) "") _ = _
    rw [List.take_length]
  rw [lr, Nat.zero_add, G0, GL] at q1
  have hI : evI W lv_i2 (E4 (some (.leaf (triD (backI s.back)))) none) = .ok (rangeL 0 s.tr.length) (E4 (some (.leaf (triD (backI s.back)))) none) := by
    have rg := rng_c (c := (s.tr.length : Int)) (C := s.tr.length) rfl (by omega)
    generalize rangeL 0 s.tr.length = RL at *
    simp only [E4]
    generalize triD (backI s.back) = TT at *
    simp [lv_i2, evI, evC, evCs, Bif.d, gRng, i3, ln, rg]
  have g2 : evS W lv_s2 (E4 (some (.leaf (triD (backI s.back)))) none) = .ok .nx (E4 (some (.leaf (triD (foldI (picI 6 s.tr cell) (kidN s.tr "") (backI s.back))))) x5) := by
    simp only [lv_s2_eq, evS]
    rw [ap_bnd, hI]
    exact q1
  refine run_pure ?_
  show tell (evSs W c__law_shown) [some (.leaf SD), some (.leaf SP), some (.leaf PE), none, none, none] = _
  unfold tell
  rw [lv_eq, step (c := lv_r0) rfl g0, step (c := lv_r1) rfl g1, step (c := lv_r2) rfl g2]
  simp only [E4]
  generalize triD (foldI (picI 6 s.tr cell) (kidN s.tr "") (backI s.back)) = TT at *
  simp [lv_r3, lv_s3, lv_r4, evSs, evS, evC, evCs, ht, lens, rT]
end Fc

namespace Fc
open PySem PySem.Spec PyProof.Rows L2 IL
theorem px_nought : pxN 0 0 = px 0 0 := by unfold pxN px; rw [q16_0']
  where q16_0' : q16 0 = 0 := by decide +kernel
def SpPicP (k C : Nat) (F : FSem) : Prop := ∀ (m : Nat) (tr : List Nd) (n : Nd) (cell : Int × Int), TreeOk m tr → tr.length ≤ 6 → n ∈ tr → Fits k tr n.nm → F [.leaf (boughD C tr), .leaf (.str n.nm), .leaf (ptD cell)] = some (.leaf (px (picQ k tr cell n).1 (picQ k tr cell n).2), [none, none, none])
theorem at_mem {tr : List Nd} {n : Nd} (h : n ∈ tr) : ∃ (i : Nat) (hi : i < tr.length), n = tr[i] := by
  obtain ⟨i, hi, e⟩ := List.mem_iff_getElem.mp h
  exact ⟨i, hi, e.symm⟩
theorem wt_pre {m : Nat} {tr : List Nd} (h : TreeOk m tr) (k j : Nat) {z : Str} (hz : z = "" ∨ ∃ (i : Nat) (hi : i < tr.length), z = tr[i].nm) : (((kidN tr z).take j).map (wt k tr)).sum ≤ 2 * tr.length := by
  have h1 := wt_kids h k hz
  rw [← List.take_append_drop j (kidN tr z), List.map_append, List.sum_append] at h1
  omega
theorem rl_pre {m : Nat} {tr : List Nd} (h : TreeOk m tr) (h6 : tr.length ≤ 6) (cell : Int × Int) (k j : Nat) {z : Str} (hz : z = "" ∨ ∃ (i : Nat) (hi : i < tr.length), z = tr[i].nm) {f : Rat × Rat} {u : Int × Int × Int} (hf : Rl 1 f u) : Rl 13 (foldQ (picQ k tr cell) ((kidN tr z).take j) f) (foldI (picI k tr cell) ((kidN tr z).take j) u) := by
  have h1 := rl_fold (gq := picQ k tr cell) (gi := picI k tr cell) (w := wt k tr) ((kidN tr z).take j) 1 f u (fun x hx => rl_pic h cell k x (kidN_mem (List.mem_of_mem_take hx)).1) hf
  have h2 := wt_pre h k j hz
  exact h1.mono (by omega)
/-- one picture laid on what is found -/
theorem lay_step {m : Nat} {tr : List Nd} (h : TreeOk m tr) (h6 : tr.length ≤ 6) (cell : Int × Int) (k j : Nat) {z : Str} (hz : z = "" ∨ ∃ (i : Nat) (hi : i < tr.length), z = tr[i].nm) {f : Rat × Rat} {u : Int × Int × Int} (hf : Rl 1 f u) {Fl : FSem} (sl : SpLaid Fl) (hj : j < (kidN tr z).length) :
    Fl [.leaf (px (picQ k tr cell (kidN tr z)[j]).1 (picQ k tr cell (kidN tr z)[j]).2), .leaf (px (foldQ (picQ k tr cell) ((kidN tr z).take j) f).1 (foldQ (picQ k tr cell) ((kidN tr z).take j) f).2)] = some (.leaf (px (foldQ (picQ k tr cell) ((kidN tr z).take (j + 1)) f).1 (foldQ (picQ k tr cell) ((kidN tr z).take (j + 1)) f).2), [none, none]) := by
  obtain ⟨i, hi, ei⟩ := at_mem (kidN_mem (List.getElem_mem hj)).1
  obtain ⟨_, _, _, a1, a2⟩ := (rl_pre h h6 cell k j hz hf).lims
  have h2 := rl_pic h cell k _ (kidN_mem (List.getElem_mem hj)).1
  have hw := wt_one h h6 k i hi
  rw [← ei] at hw
  obtain ⟨_, _, _, b1, b2⟩ := h2.lims
  have := sl _ _ _ _ (b1.mono (by omega)) (b2.mono (by omega)) (a1.mono (by decide)) (a2.mono (by decide))
  rw [take_snoc _ _ hj, foldQ_snoc]
  exact this
theorem q16_l20 {n : Nat} (h : n ≤ 16) : limQ 40 (q16 n) := by
  have := q16_small h
  exact ⟨lim_mono (k := 20) this.1 (by decide), lim_mono (k := 20) (show (((q16 n).den : Nat) : Int).natAbs < 2 ^ 20 by rw [Int.natAbs_natCast]; exact this.2.1) (by decide)⟩
theorem it_kids {tr : List Nd} {z : Str} {j : Nat} {d : D} (h : ((kids tr z).map PyData.str)[j]? = some d) : ∃ hj : j < (kidN tr z).length, d = .str (kidN tr z)[j].nm := by
  rw [kids_kidN, List.map_map] at h
  obtain ⟨h1, h2⟩ := List.getElem?_eq_some_iff.mp h
  rw [List.length_map] at h1
  exact ⟨h1, by rw [← h2, List.getElem_map]; rfl⟩
theorem run_pic {W : Wd} {C k : Nat} {Fo Fw Fl Ff F : FSem} (hn : HasN W.na C) (hz : W.glb "NOTHING" = some (pxN 0 0)) (ho : W.mt "Boughs" "is_out" 2 = some (C, [], ⟨3, [], Fo⟩)) (so : SpIsOut C Fo) (hw : W.mt "Boughs" "own_pixel" 2 = some (C, [], ⟨3, [], Fw⟩)) (sw : SpOwnPx C Fw)
    (hl : W.fn "laid_on" = some ⟨2, [], Fl⟩) (sl : SpLaid Fl) (hf : W.fn "faded" = some ⟨2, [], Ff⟩) (sf : SpFaded Ff) (hF : W.fn "picture_at" = some ⟨3, [], F⟩) (sF : SpPicP k C F) : SpPicP (k + 1) C (runM n_picture_at.length 3 [] (evSs W c_picture_at)) := by
  intro m tr n cell hT h6 hm hfit
  have hok := (hT.mem n hm).1
  have hnm : n.nm ∈ ("" : Str) :: tr.map (·.nm) := List.mem_cons_of_mem _ (List.mem_map_of_mem hm)
  have hzz : n.nm = "" ∨ ∃ (i : Nat) (hi : i < tr.length), n.nm = tr[i].nm := by
    obtain ⟨i, hi, e⟩ := at_mem hm
    exact .inr ⟨i, hi, by rw [← e]⟩
  have f1 := fl_1 hn tr
  have f2 := fl_2 hn tr
  have b1 := get_dD (f := Nd.d) (byn_at hT hm)
  have b3 := get_dD (f := namesD) (bth_at hT.nd1 hnm)
  have i5 := ix_nd5 n
  have r1 := so m tr n cell hT hm
  have r2 := sw m tr n cell hT hm
  have m1 := mk_out C tr
  have m2 := mk_own C tr
  have hR := rl_own hok (corAt tr n.nm) cell
  have r3 : ∀ j (hj : j < (kidN tr n.nm).length), F [.leaf (boughD C tr), .leaf (.str (kidN tr n.nm)[j].nm), .leaf (ptD cell)] = some (.leaf (px (picQ k tr cell (kidN tr n.nm)[j]).1 (picQ k tr cell (kidN tr n.nm)[j]).2), [none, none, none]) := fun j hj => sF m tr _ cell hT h6 (kidN_mem (List.getElem_mem hj)).1 (hfit _ (by rw [kids_kidN]; exact List.mem_map_of_mem (List.getElem_mem hj)))
  have st := fun j hj => lay_step hT h6 cell k j hzz hR sl hj
  have hRl := rl_pre hT h6 cell k (kidN tr n.nm).length hzz hR
  rw [List.take_length] at hRl
  obtain ⟨_, _, _, q1, q2⟩ := hRl.lims
  have r5 := sf _ _ _ (q1.mono (by decide)) (q2.mono (by decide)) (q16_l20 hok.op)
  have eP : picQ (k + 1) tr cell n = if outB n (corAt tr n.nm) cell then (0, 0) else
    ((foldQ (picQ k tr cell) (kidN tr n.nm) (ownQ (ownP n (corAt tr n.nm) cell))).1 * q16 n.op, (foldQ (picQ k tr cell) (kidN tr n.nm) (ownQ (ownP n (corAt tr n.nm) cell))).2 * q16 n.op) := rfl
  rw [eP]
  have hN : namesD (kids tr n.nm) = .list ((kids tr n.nm).map .str) := rfl
  rw [hN] at b3
  have hit := @it_kids tr n.nm
  have hkl : (kids tr n.nm).length = (kidN tr n.nm).length := by rw [kids_kidN, List.length_map]
  have eo : pxN (ownP n (corAt tr n.nm) cell).1 (ownP n (corAt tr n.nm) cell).2 = px (ownQ (ownP n (corAt tr n.nm) cell)).1 (ownQ (ownP n (corAt tr n.nm) cell)).2 := rfl
  rw [eo] at r2
  rw [px_nought] at hz
  simp only [lf2, nn] at r5
  generalize ownQ (ownP n (corAt tr n.nm) cell) = OQ at *
  generalize outB n (corAt tr n.nm) cell = ob at *
  generalize picQ k tr cell = g at *
  generalize kidN tr n.nm = KN at *
  generalize hks : (kids tr n.nm).map PyData.str = KS at *
  have hkl2 : KS.length = KN.length := by rw [← hks, List.length_map, hkl]
  generalize boughD C tr = BD at *
  generalize n.nm = nm at *
  generalize ptD cell = PE at *
  generalize fq (q16 n.op) = OP at *
  generalize n.d = ND at *
  generalize PyData.dict (dD Nd.d (byn tr)) = D1 at *
  generalize PyData.dict (dD namesD (bth tr)) = D2 at *
  refine run_pure ?_
  show tell (evSs W c_picture_at) [some (.leaf BD), some (.leaf (.str nm)), some (.leaf PE), none, none] = _
  unfold tell
  rw [pa_eq]
  cases ob with
  | true =>
    simp [pa_r0, pa_s0, pa_r1, evSs, evS, evC, evCs, ho, lens, gMeth, methA_eq, m1, r1, gGlb, hz]
  | false =>
    have g0 : evS W pa_s0 [some (.leaf BD), some (.leaf (.str nm)), some (.leaf PE), none, none] = .ok .nx [some (.leaf BD), some (.leaf (.str nm)), some (.leaf PE), none, none] := by
      simp [pa_s0, evSs, evS, evC, evCs, ho, lens, gMeth, methA_eq, m1, r1, gGlb, hz, putBack]
    have g1 : evS W pa_s1 [some (.leaf BD), some (.leaf (.str nm)), some (.leaf PE), none, none] = .ok .nx [some (.leaf BD), some (.leaf (.str nm)), some (.leaf PE), some (.leaf (px OQ.1 OQ.2)), none] := by
      generalize px OQ.1 OQ.2 = P0 at *
      simp [pa_s1, evSs, evS, evC, evCs, hw, lens, gMeth, methA_eq, m2, r2, putBack]
    let G : Nat → Rat × Rat := fun j => foldQ g (KN.take j) OQ
    let Inv : Nat → En → Prop := fun j e => ∃ x4, e = [some (.leaf BD), some (.leaf (.str nm)), some (.leaf PE), some (.leaf (px (G j).1 (G j).2)), x4]
    obtain ⟨e', k1, x4, rfl⟩ := gFor_inv (bd := evTg W (.nm 4)) (b := evSs W pa_b2_r0) Inv KS 0 [some (.leaf BD), some (.leaf (.str nm)), some (.leaf PE), some (.leaf (px (G 0).1 (G 0).2)), none] ⟨none, rfl⟩ (by
      rintro j d e hd ⟨x4, rfl⟩
      rw [Nat.zero_add] at *
      obtain ⟨hj, rfl⟩ := hit hd
      have a3 := r3 j hj
      have a4 : Fl [.leaf (px (g KN[j]).1 (g KN[j]).2), .leaf (px (G j).1 (G j).2)] = some (.leaf (px (G (j + 1)).1 (G (j + 1)).2), [none, none]) := st j hj
      refine ⟨[some (.leaf BD), some (.leaf (.str nm)), some (.leaf PE), some (.leaf (px (G (j + 1)).1 (G (j + 1)).2)), some (.leaf (.str KN[j].nm))], ?_, _, rfl⟩
      generalize px (G (j + 1)).1 (G (j + 1)).2 = P3 at *
      generalize px (G j).1 (G j).2 = P2 at *
      generalize px (g KN[j]).1 (g KN[j]).2 = P1 at *
      simp [pa_b2_r0, pa_b2_s0, pa_b2_r1, evTg, evSs, evS, evC, evCs, hF, hl, lens, a3, a4])
    rw [Nat.zero_add, hkl2] at k1
    have GL : G KN.length = foldQ g KN OQ := by
      show foldQ g (KN.take KN.length) OQ = _
      rw [List.take_length]
    rw [GL] at k1
    have hI : evI W pa_i2 [some (.leaf BD), some (.leaf (.str nm)), some (.leaf PE), some (.leaf (px OQ.1 OQ.2)), none] = .ok KS [some (.leaf BD), some (.leaf (.str nm)), some (.leaf PE), some (.leaf (px OQ.1 OQ.2)), none] := by
      generalize px OQ.1 OQ.2 = P0 at *
      simp [pa_i2, evI, evC, evCs, gDgt, gFld, f2, b3]
    have g2 : evS W pa_s2 [some (.leaf BD), some (.leaf (.str nm)), some (.leaf PE), some (.leaf (px OQ.1 OQ.2)), none] = .ok .nx [some (.leaf BD), some (.leaf (.str nm)), some (.leaf PE), some (.leaf (px (foldQ g KN OQ).1 (foldQ g KN OQ).2)), x4] := by
      simp only [pa_s2_eq, evS]
      rw [ap_bnd, hI]
      exact k1
    rw [step (c := pa_r0) rfl g0, step (c := pa_r1) rfl g1, step (c := pa_r2) rfl g2]
    simp only [Bool.false_eq_true, if_false]
    generalize px (foldQ g KN OQ).1 (foldQ g KN OQ).2 = P1 at *
    generalize px ((foldQ g KN OQ).1 * q16 n.op) ((foldQ g KN OQ).2 * q16 n.op) = P2 at *
    simp [pa_r3, pa_s3, pa_r4, evSs, evS, evC, evCs, hf, lens, gDgt, gFld, f1, b1, i5, r5]
end Fc

namespace Fc
open PySem PySem.Spec PyProof.Rows L2 IL
def shD (s : Sc) (cell : Int × Int) : D := px (shQ s cell).1 (shQ s cell).2
def SpShP (C : Nat) (F : FSem) : Prop := ∀ (m : Nat) (s : Sc) (cell : Int × Int), s.Ok m → F [.leaf s.d, .leaf (boughD C s.tr), .leaf (ptD cell)] = some (.leaf (shD s cell), [none, none, none])
theorem run_shown_at {W : Wd} {C : Nat} {Fl F : FSem} (hn : HasN W.na C) (hl : W.fn "laid_on" = some ⟨2, [], Fl⟩) (sl : SpLaid Fl) (hF : W.fn "picture_at" = some ⟨3, [], F⟩) (sF : SpPicP 6 C F) : SpShP C (runM n_shown_at.length 3 [] (evSs W c_shown_at)) := by
  intro m s cell hs
  have hT := hs.tree
  have h6 := hs.six
  have f2 := fl_2 hn s.tr
  have b3 := get_dD (f := namesD) (bth_at hT.nd1 (z := "") List.mem_cons_self)
  have i2 := ix_sc2 s
  have hR := rl_back hs.back
  have r3 : ∀ j (hj : j < (kidN s.tr "").length), F [.leaf (boughD C s.tr), .leaf (.str (kidN s.tr "")[j].nm), .leaf (ptD cell)] = some (.leaf (px (picQ 6 s.tr cell (kidN s.tr "")[j]).1 (picQ 6 s.tr cell (kidN s.tr "")[j]).2), [none, none, none]) := fun j hj => by
    obtain ⟨i, hi, e⟩ := at_mem (kidN_mem (List.getElem_mem hj)).1
    exact sF m s.tr _ cell hT h6 (kidN_mem (List.getElem_mem hj)).1 (by rw [e]; exact fits_at hT 6 i hi (by omega))
  have st := fun j hj => lay_step hT h6 cell 6 j (.inl rfl) hR sl hj
  have eS : shD s cell = px (foldQ (picQ 6 s.tr cell) (kidN s.tr "") (q16 s.back, q16 16)).1 (foldQ (picQ 6 s.tr cell) (kidN s.tr "") (q16 s.back, q16 16)).2 := rfl
  rw [eS]
  have hN : namesD (kids s.tr "") = .list ((kids s.tr "").map .str) := rfl
  rw [hN] at b3
  have hit := @it_kids s.tr ""
  have hkl : (kids s.tr "").length = (kidN s.tr "").length := by rw [kids_kidN, List.length_map]
  have eo : pxN s.back 16 = px ((q16 s.back, q16 16) : Rat × Rat).1 ((q16 s.back, q16 16) : Rat × Rat).2 := rfl
  rw [eo] at i2
  generalize ((q16 s.back, q16 16) : Rat × Rat) = OQ at *
  generalize picQ 6 s.tr cell = g at *
  generalize kidN s.tr "" = KN at *
  generalize hks : (kids s.tr "").map PyData.str = KS at *
  have hkl2 : KS.length = KN.length := by rw [← hks, List.length_map, hkl]
  generalize boughD C s.tr = BD at *
  generalize ptD cell = PE at *
  generalize s.d = SD at *
  generalize PyData.dict (dD namesD (bth s.tr)) = D2 at *
  have g0 : evS W sh_s0 [some (.leaf SD), some (.leaf BD), some (.leaf PE), none, none] = .ok .nx [some (.leaf SD), some (.leaf BD), some (.leaf PE), some (.leaf (px OQ.1 OQ.2)), none] := by
    generalize px OQ.1 OQ.2 = P0 at *
    simp [sh_s0, evS, evC, i2]
  let G : Nat → Rat × Rat := fun j => foldQ g (KN.take j) OQ
  let Inv : Nat → En → Prop := fun j e => ∃ x4, e = [some (.leaf SD), some (.leaf BD), some (.leaf PE), some (.leaf (px (G j).1 (G j).2)), x4]
  obtain ⟨e', k1, x4, rfl⟩ := gFor_inv (bd := evTg W (.nm 4)) (b := evSs W sh_b1_r0) Inv KS 0 [some (.leaf SD), some (.leaf BD), some (.leaf PE), some (.leaf (px (G 0).1 (G 0).2)), none] ⟨none, rfl⟩ (by
    rintro j d e hd ⟨x4, rfl⟩
    rw [Nat.zero_add] at *
    obtain ⟨hj, rfl⟩ := hit hd
    have a3 := r3 j hj
    have a4 : Fl [.leaf (px (g KN[j]).1 (g KN[j]).2), .leaf (px (G j).1 (G j).2)] = some (.leaf (px (G (j + 1)).1 (G (j + 1)).2), [none, none]) := st j hj
    refine ⟨[some (.leaf SD), some (.leaf BD), some (.leaf PE), some (.leaf (px (G (j + 1)).1 (G (j + 1)).2)), some (.leaf (.str KN[j].nm))], ?_, _, rfl⟩
    generalize px (G (j + 1)).1 (G (j + 1)).2 = P3 at *
    generalize px (G j).1 (G j).2 = P2 at *
    generalize px (g KN[j]).1 (g KN[j]).2 = P1 at *
    simp [sh_b1_r0, sh_b1_s0, sh_b1_r1, evTg, evSs, evS, evC, evCs, hF, hl, lens, a3, a4])
  rw [Nat.zero_add, hkl2] at k1
  have GL : G KN.length = foldQ g KN OQ := by
    show foldQ g (KN.take KN.length) OQ = _
    rw [List.take_length]
  rw [GL] at k1
  have hI : evI W sh_i1 [some (.leaf SD), some (.leaf BD), some (.leaf PE), some (.leaf (px OQ.1 OQ.2)), none] = .ok KS [some (.leaf SD), some (.leaf BD), some (.leaf PE), some (.leaf (px OQ.1 OQ.2)), none] := by
    generalize px OQ.1 OQ.2 = P0 at *
    simp [sh_i1, evI, evC, evCs, gDgt, gFld, f2, b3]
  have g1 : evS W sh_s1 [some (.leaf SD), some (.leaf BD), some (.leaf PE), some (.leaf (px OQ.1 OQ.2)), none] = .ok .nx [some (.leaf SD), some (.leaf BD), some (.leaf PE), some (.leaf (px (foldQ g KN OQ).1 (foldQ g KN OQ).2)), x4] := by
    simp only [sh_s1_eq, evS]
    rw [ap_bnd, hI]
    exact k1
  refine run_pure ?_
  show tell (evSs W c_shown_at) [some (.leaf SD), some (.leaf BD), some (.leaf PE), none, none] = _
  unfold tell
  rw [sh_eq, step (c := sh_r0) rfl g0, step (c := sh_r1) rfl g1]
  rfl
def SpShows (F : FSem) : Prop := ∀ (m : Nat) (s : Sc) (cell : Int × Int), s.Ok m → F [.leaf s.d, .leaf (ptD cell)] = some (.leaf (shD s cell), [none, none])
theorem run_shows {W : Wd} {C : Nat} {Fi Fs : FSem} (hi : W.ct "Boughs" = some (C, ⟨2, [0], Fi⟩)) (si : SpInit C Fi) (hs : W.fn "shown_at" = some ⟨3, [], Fs⟩) (ss : SpShP C Fs) : SpShows (runM n_shows.length 2 [] (evSs W c_shows)) := by
  intro m s cell ho
  have r1 := si m s ho.tree ho.six
  have r2 := ss m s cell ho
  have fb := frz_bough C s.tr
  generalize shD s cell = OUT at *
  generalize boughD C s.tr = BD at *
  generalize boughT C s.tr = BT at *
  generalize ptD cell = PE at *
  generalize s.d = SD at *
  refine run_pure ?_
  show tell (evSs W c_shows) [some (.leaf SD), some (.leaf PE)] = _
  unfold tell
  simp [c_shows, evSs, evS, evC, evCs, hi, gMake, hs, lens, r1, r2, fb]
/-! ### rows -/
def cellOf : D → Int × Int
  | .tuple [.int a, .int b] => (a, b)
  | _ => (0, 0)
theorem cellOf_pt (c : Int × Int) : cellOf (ptD c) = c := rfl
def rowsPt (w h : Nat) : List D := (List.range h).map fun y => .list ((lineL w y).map ptD)
def SpRows (F : FSem) : Prop := ∀ (m : Nat) (s : Sc), s.Ok m → ∃ t, F [.leaf s.d] = some (t, [none]) ∧ frz t = .list (rowsPt s.w s.h)
def srIn : IL.C := .comp [2] (.nm 2) (.rng1 (.val (.vix 0 (.int 0)) .nil)) .no (.tup (.own (.var 2) (.own (.var 1) .nil)))
def srOut : IL.C := .comp [1] (.nm 1) (.rng1 (.val (.vix 0 (.int 1)) .nil)) .no srIn
theorem sr_s0_eq : sr_s0 = .ret srOut := rfl
def intOf : D → Int
  | .int i => i
  | _ => 0
theorem rg_len (a : Int) (n : Nat) : (rangeL a n).length = n := by simp [rangeL]
theorem rows_em (w h : Nat) : (rangeL 0 h).map (fun d => PyData.list ((lineL w (intOf d).toNat).map ptD)) = rowsPt w h := by
  unfold rangeL rowsPt
  rw [List.map_map]
  refine List.map_congr_left fun y _ => ?_
  show PyData.list ((lineL w ((0 : Int) + (y : Int)).toNat).map ptD) = _
  rw [Int.zero_add, Int.toNat_natCast]
theorem sr_inner {W : Wd} {SD : D} {w : Nat} (i0 : ixD SD (.int 0) = some (.int (w : Int))) (hw8 : w ≤ 8) (y : Nat) (x2 : Option T) : evC W srIn [some (.leaf SD), some (.leaf (.int (y : Int))), x2] = .ok (.lst (((lineL w y).map ptD).map .leaf)) [some (.leaf SD), some (.leaf (.int (y : Int))), none] := by
  have rw1 := rng_c (c := (w : Int)) rfl (by omega : w ≤ 9)
  obtain ⟨e1, k1, z, rfl⟩ := comp_ok (W := W) (vs := [2]) (tg := .nm 2) (it := .rng1 (.val (.vix 0 (.int 0)) .nil)) (t := .no) (el := .tup (.own (.var 2) (.own (.var 1) .nil))) (e := [some (.leaf SD), some (.leaf (.int (y : Int))), x2]) (ds := rangeL 0 w) (fun _ => true) (fun d => .tuple [d, .int (0 + (y : Int))]) (fun e => ∃ z, e = [some (.leaf SD), some (.leaf (.int (y : Int))), z]) (e0 := [some (.leaf SD), some (.leaf (.int (y : Int))), x2]) (by
      generalize rangeL 0 w = RL at *
      simp [evI, evC, evCs, gRng, i0, rw1]) ⟨_, rfl⟩ (by rw [rg_len]; exact Nat.le_trans hw8 (by decide)) (by
    rintro d e hd ⟨z, rfl⟩
    refine ⟨[some (.leaf SD), some (.leaf (.int (y : Int))), some (.leaf d)], by simp [evTg, wipeE], _, by simp [evCond]; rfl, fun _ => ⟨[some (.leaf SD), some (.leaf (.int (y : Int))), some (.leaf d)], ?_, ⟨_, rfl⟩⟩, fun h => by cases h⟩
    simp [evC, evCs])
  rw [filter_true, rg_line] at k1
  exact k1
theorem sr_outer {W : Wd} {SD : D} {w h : Nat} (i0 : ixD SD (.int 0) = some (.int (w : Int))) (i1 : ixD SD (.int 1) = some (.int (h : Int))) (hw8 : w ≤ 8) (hh6 : h ≤ 6) : ∃ z2, evC W srOut [some (.leaf SD), none, none] = .ok (.lst ((rowsPt w h).map .leaf)) [some (.leaf SD), none, z2] := by
  have rh1 := rng_c (c := (h : Int)) rfl (by omega : h ≤ 9)
  obtain ⟨e1, k1, z, z2, rfl⟩ := comp_ok (W := W) (vs := [1]) (tg := .nm 1) (it := .rng1 (.val (.vix 0 (.int 1)) .nil)) (t := .no) (el := srIn) (e := [some (.leaf SD), none, none]) (ds := rangeL 0 h) (fun _ => true) (fun d => .list ((lineL w (intOf d).toNat).map ptD)) (fun e => ∃ z z2, e = [some (.leaf SD), z, z2]) (e0 := [some (.leaf SD), none, none]) (by
      generalize rangeL 0 h = RL at *
      simp [evI, evC, evCs, gRng, i1, rh1]) ⟨_, _, rfl⟩ (by rw [rg_len]; exact Nat.le_trans hh6 (by decide)) (by
    rintro d e hd ⟨z, z2, rfl⟩
    obtain ⟨y, hy⟩ := List.getElem?_of_mem hd
    obtain ⟨_, rfl⟩ := rg_at hy
    rw [Int.zero_add]
    refine ⟨[some (.leaf SD), some (.leaf (.int (y : Int))), z2], by simp [evTg, wipeE], _, by simp [evCond]; rfl, fun _ => ⟨[some (.leaf SD), some (.leaf (.int (y : Int))), none], ?_, ⟨_, _, rfl⟩⟩, fun h => by cases h⟩
    have fz1 := frz_lvs ((lineL w y).map ptD)
    have k := sr_inner (W := W) i0 hw8 y z2
    have ey : (intOf (.int (y : Int))).toNat = y := Int.toNat_natCast y
    rw [ey]
    generalize (lineL w y).map ptD = LL at *
    generalize T.lst (LL.map .leaf) = A at *
    simp [k, fz1])
  rw [filter_true, rows_em] at k1
  exact ⟨z2, k1⟩
theorem rr1 {W : Wd} {SD : D} {A : T} {z2 : Option T} (k1 : evC W srOut [some (.leaf SD), none, none] = .ok A [some (.leaf SD), none, z2]) : evS W sr_s0 [some (.leaf SD), none, none] = .ok (.rt A) [some (.leaf SD), none, z2] := by
  rw [sr_s0_eq]
  simp only [evS, gRet, bnd, k1]
  rfl
theorem rr2 {W : Wd} {SD : D} {A : T} {z2 : Option T} (g0 : evS W sr_s0 [some (.leaf SD), none, none] = .ok (.rt A) [some (.leaf SD), none, z2]) : evSs W c_screen_rows [some (.leaf SD), none, none] = .ok (.rt A) [some (.leaf SD), none, z2] := by
  rw [sr_eq]
  simp only [sr_r0, evSs, gSeq, bnd, g0]
  rfl
theorem rr3 {W : Wd} {SD : D} {A : T} {z2 : Option T} (g1 : evSs W c_screen_rows [some (.leaf SD), none, none] = .ok (.rt A) [some (.leaf SD), none, z2]) : runM n_screen_rows.length 1 [] (evSs W c_screen_rows) [.leaf SD] = some (A, [none]) := by
  refine run_pure ?_
  show tell (evSs W c_screen_rows) [some (.leaf SD), none, none] = _
  unfold tell
  rw [g1]
theorem rr4 {W : Wd} (m : Nat) (s : Sc) (hs : s.Ok m) : ∃ z2, evC W srOut [some (.leaf s.d), none, none] = .ok (.lst ((rowsPt s.w s.h).map .leaf)) [some (.leaf s.d), none, z2] := sr_outer (ix_sc0 s) (ix_sc1 s) hs.w8 hs.h6
theorem run_rows {W : Wd} : SpRows (runM n_screen_rows.length 1 [] (evSs W c_screen_rows)) := fun m s hs =>
  let ⟨z2, k1⟩ := rr4 (W := W) m s hs
  ⟨_, rr3 (rr2 (rr1 k1)), frz_lvs _⟩
end Fc

namespace Fc
open PySem PySem.Spec PyProof.Rows L2 IL
def ppIn : IL.C := .comp [3] (.nm 3) (.seq (.var 2)) .no (.call "shown_at" (.val (.var 0) (.val (.var 1) (.val (.var 3) .nil))))
def ppOut : IL.C := .comp [2] (.nm 2) (.seq (.call "screen_rows" (.val (.var 0) .nil))) .no (.bif .tuple (.val ppIn .nil))
theorem pp_s1_eq : pp_s1 = .ret (.bif .tuple (.val ppOut .nil)) := rfl
def paintD (s : Sc) : D := .tuple ((List.range s.h).map fun y => .tuple ((lineL s.w y).map (shD s)))
def rowG (s : Sc) : D → D
  | .list L => .tuple (L.map fun d => shD s (cellOf d))
  | _ => .none
theorem rowG_map (s : Sc) (L : List (Int × Int)) : rowG s (.list (L.map ptD)) = .tuple (L.map (shD s)) := by
  show PyData.tuple ((L.map ptD).map fun d => shD s (cellOf d)) = _
  rw [List.map_map]
  rfl
theorem pp_inner {W : Wd} {s : Sc} {SD BD : D} {F : FSem} (hF : W.fn "shown_at" = some ⟨3, [], F⟩) (hr : ∀ cell, F [.leaf SD, .leaf BD, .leaf (ptD cell)] = some (.leaf (shD s cell), [none, none, none])) (t1 : T) (h1 : frz t1 = BD) (L : List (Int × Int)) (hL : L.length ≤ 8) (x3 : Option T) :
    ∃ t2, frz t2 = BD ∧ evC W ppIn [some (.leaf SD), some t1, some (.leaf (.list (L.map ptD))), x3] = .ok (.lst ((L.map (shD s)).map .leaf)) [some (.leaf SD), some t2, some (.leaf (.list (L.map ptD))), none] := by
  obtain ⟨e1, k1, t2, z, h2, rfl⟩ := comp_ok (W := W) (vs := [3]) (tg := .nm 3) (it := .seq (.var 2)) (t := .no) (el := .call "shown_at" (.val (.var 0) (.val (.var 1) (.val (.var 3) .nil)))) (e := [some (.leaf SD), some t1, some (.leaf (.list (L.map ptD))), x3]) (ds := L.map ptD) (fun _ => true) (fun d => shD s (cellOf d)) (fun e => ∃ t2 z, frz t2 = BD ∧ e = [some (.leaf SD), some t2, some (.leaf (.list (L.map ptD))), z]) (e0 := [some (.leaf SD), some t1, some (.leaf (.list (L.map ptD))), x3]) (by
      generalize L.map ptD = LL at *
      simp [evI, evC, evCs]) ⟨_, _, h1, rfl⟩ (by rw [List.length_map]; exact Nat.le_trans hL (by decide)) (by
    rintro d e hd ⟨t2, z, h2, rfl⟩
    obtain ⟨c, _, rfl⟩ := List.mem_map.mp hd
    have k3 := hr c
    rw [cellOf_pt]
    generalize L.map ptD = LL at *
    generalize ptD c = PC at *
    generalize shD s c = OUT at *
    refine ⟨[some (.leaf SD), some t2, some (.leaf (.list LL)), some (.leaf PC)], by simp [evTg, wipeE], _, by simp [evCond]; rfl, fun _ => ⟨[some (.leaf SD), some (.leaf BD), some (.leaf (.list LL)), some (.leaf PC)], ?_, ⟨_, _, frz_leaf BD, rfl⟩⟩, fun h => by cases h⟩
    simp [evC, evCs, hF, lens, h2, k3])
  have em : (L.map ptD).map (fun d => shD s (cellOf d)) = L.map (shD s) := by rw [List.map_map]; rfl
  rw [filter_true, em] at k1
  exact ⟨t2, h2, k1⟩
theorem pp_outer {W : Wd} {m : Nat} {s : Sc} {BD : D} {F Fr : FSem} (hs : s.Ok m) (hF : W.fn "shown_at" = some ⟨3, [], F⟩) (hr : ∀ cell, F [.leaf s.d, .leaf BD, .leaf (ptD cell)] = some (.leaf (shD s cell), [none, none, none])) (hR : W.fn "screen_rows" = some ⟨1, [], Fr⟩) (sR : SpRows Fr) (t1 : T) (h1 : frz t1 = BD) :
    ∃ e', evC W ppOut [some (.leaf s.d), some t1, none, none] = .ok (.lst (((List.range s.h).map fun y => PyData.tuple ((lineL s.w y).map (shD s))).map .leaf)) e' := by
  obtain ⟨tr, q1, q2⟩ := sR m s hs
  have hw8 := hs.w8
  have hh6 := hs.h6
  obtain ⟨SD, hSD⟩ : ∃ SD, SD = s.d := ⟨_, rfl⟩
  rw [← hSD] at q1 hr ⊢
  obtain ⟨e1, k1, _⟩ := comp_ok (W := W) (vs := [2]) (tg := .nm 2) (it := .seq (.call "screen_rows" (.val (.var 0) .nil))) (t := .no) (el := .bif .tuple (.val ppIn .nil)) (e := [some (.leaf SD), some t1, none, none]) (ds := rowsPt s.w s.h) (fun _ => true) (rowG s) (fun e => ∃ t2 z z2, frz t2 = BD ∧ e = [some (.leaf SD), some t2, z, z2]) (e0 := [some (.leaf SD), some t1, none, none]) (by
      generalize rowsPt s.w s.h = RP at *
      simp [evI, evC, evCs, hR, lens, q1, q2]) ⟨_, _, _, h1, rfl⟩ (by unfold rowsPt; rw [List.length_map, List.length_range]; exact Nat.le_trans hh6 (by decide)) (by
    rintro d e hd ⟨t2, z, z2, h2, rfl⟩
    obtain ⟨y, hy, rfl⟩ := List.mem_map.mp hd
    obtain ⟨t3, h3, k3⟩ := pp_inner (W := W) hF hr t2 h2 (lineL s.w y) (by rw [lineL_len]; exact hw8) z2
    rw [rowG_map]
    have fz := frz_lvs ((lineL s.w y).map (shD s))
    have tu : tupleD [.list ((lineL s.w y).map (shD s))] = some (.leaf (.tuple ((lineL s.w y).map (shD s)))) := rfl
    generalize (lineL s.w y).map ptD = LL at *
    generalize (lineL s.w y).map (shD s) = OO at *
    generalize T.lst (OO.map .leaf) = A at *
    refine ⟨[some (.leaf SD), some t2, some (.leaf (.list LL)), z2], by simp [evTg, wipeE], _, by simp [evCond]; rfl, fun _ => ⟨[some (.leaf SD), some t3, some (.leaf (.list LL)), none], ?_, ⟨_, _, _, h3, rfl⟩⟩, fun h => by cases h⟩
    simp [evC, evCs, Bif.d, k3, fz, tu])
  have em : (rowsPt s.w s.h).map (rowG s) = (List.range s.h).map fun y => PyData.tuple ((lineL s.w y).map (shD s)) := by
    unfold rowsPt
    rw [List.map_map]
    exact List.map_congr_left fun y _ => rowG_map s (lineL s.w y)
  rw [filter_true, em] at k1
  exact ⟨_, k1⟩
def SpPaint (F : FSem) : Prop := ∀ (m : Nat) (s : Sc), s.Ok m → F [.leaf s.d] = some (.leaf (paintD s), [none])
theorem pp_last {W : Wd} {SD : D} {t1 A : T} {RS : List D} {e' : En} (k1 : evC W ppOut [some (.leaf SD), some t1, none, none] = .ok A e') (fz : frz A = .list RS) : evSs W pp_r1 [some (.leaf SD), some t1, none, none] = .ok (.rt (.leaf (.tuple RS))) e' := by
  have tu : tupleD [.list RS] = some (.leaf (.tuple RS)) := rfl
  rw [show pp_r1 = .cons pp_s1 pp_r2 from rfl, pp_s1_eq]
  simp [evSs, evS, evC, evCs, Bif.d, k1, fz, tu]
theorem run_paint {W : Wd} {C : Nat} {Fi F Fr : FSem} (hi : W.ct "Boughs" = some (C, ⟨2, [0], Fi⟩)) (si : SpInit C Fi) (hF : W.fn "shown_at" = some ⟨3, [], F⟩) (sF : SpShP C F) (hR : W.fn "screen_rows" = some ⟨1, [], Fr⟩) (sR : SpRows Fr) : SpPaint (runM n_plain_painting.length 1 [] (evSs W c_plain_painting)) := by
  intro m s hs
  have r1 := si m s hs.tree hs.six
  obtain ⟨e', k1⟩ := pp_outer (W := W) hs hF (fun cell => sF m s cell hs) hR sR (boughT C s.tr) (frz_bough C s.tr)
  have fz := frz_lvs ((List.range s.h).map fun y => PyData.tuple ((lineL s.w y).map (shD s)))
  have g1 := pp_last k1 fz
  have g0 : evS W pp_s0 [some (.leaf s.d), none, none, none] = .ok .nx [some (.leaf s.d), some (boughT C s.tr), none, none] := by
    generalize boughT C s.tr = BT at *
    generalize s.d = SD at *
    simp [pp_s0, evS, evC, evCs, hi, gMake, r1]
  refine run_pure ?_
  show tell (evSs W c_plain_painting) [some (.leaf s.d), none, none, none] = _
  unfold tell
  rw [pp_eq, step (c := pp_r0) rfl g0, g1]
  rfl
end Fc

namespace Fc
open PySem PySem.Spec PyProof.Rows L2 IL
def SpRight (F : FSem) : Prop := ∀ (m : Nat) (s : Sc), s.Ok m → F [.leaf s.d] = some (.leaf (.bool true), [none])
theorem fine_sh {m : Nat} {s : Sc} (h : s.Ok m) (c : Int × Int) : Fine 2 6 (shD s c) := by
  obtain ⟨_, _, _, h1, h2⟩ := (rl_shown h c).lims
  exact fine_px (h1.mono (by decide)) (h2.mono (by decide))
theorem repr_sh {m : Nat} {s : Sc} (h : s.Ok m) (c : Int × Int) : reprD [shD s c] = some (.leaf (.str (shD s c).shown)) := repr_fine ((fine_sh h c).mono (by decide) (by decide))
theorem repr_paint {m : Nat} {s : Sc} (h : s.Ok m) : reprD [paintD s] = some (.leaf (.str (paintD s).shown)) := by
  refine repr_fine (Fine.mono (n := 4) (b := 6 * (8 * 7 + 1)) (fine_tup (n := 3) (b := 8 * 7) (m := 6) (fun d hd => ?_) ?_) (by decide) (by decide))
  · obtain ⟨y, _, rfl⟩ := List.mem_map.mp hd
    refine fine_tup (n := 2) (b := 6) (m := 8) (fun d hd => ?_) ?_
    · obtain ⟨c, _, rfl⟩ := List.mem_map.mp hd
      exact fine_sh h c
    · rw [List.length_map, lineL_len]; exact h.w8
  · rw [List.length_map, List.length_range]; exact h.h6
def rtIn : IL.C := .comp [6] (.nm 6) (.rng1 (.val (.vix 0 (.int 0)) .nil)) .no (.call "_law_shown" (.val (.var 0) (.val (.var 1) (.val (.tup (.own (.var 6) (.own (.var 4) .nil))) .nil))))
theorem rt_b2_s0_eq : rt_b2_s0 = .exp (.push 3 (.bif .tuple (.val rtIn .nil))) := rfl
def rtRow (s : Sc) (y : Nat) : D := .tuple ((lineL s.w y).map (shD s))
theorem rt_inner {W : Wd} {m : Nat} {s : Sc} {SP : D} {F : FSem} (hs : s.Ok m) (hF : W.fn "_law_shown" = some ⟨3, [], F⟩) (hr : ∀ cell, F [.leaf s.d, .leaf SP, .leaf (ptD cell)] = some (.leaf (shD s cell), [none, none, none])) (y : Nat) (x2 x3 x5 x6 x7 : Option T) :
    evC W rtIn [some (.leaf s.d), some (.leaf SP), x2, x3, some (.leaf (.int (y : Int))), x5, x6, x7] = .ok (.lst (((lineL s.w y).map (shD s)).map .leaf)) [some (.leaf s.d), some (.leaf SP), x2, x3, some (.leaf (.int (y : Int))), x5, none, x7] := by
  have i0 := ix_sc0 s
  have rw1 := rng_c (c := (s.w : Int)) (C := s.w) rfl (by have := hs.w8; omega)
  have hw8 := hs.w8
  have em : (rangeL 0 s.w).map (fun d => shD s (intOf d, (y : Int))) = (lineL s.w y).map (shD s) := by
    unfold rangeL lineL
    rw [List.map_map, List.map_map]
    refine List.map_congr_left fun x _ => ?_
    show shD s ((0 : Int) + (x : Int), (y : Int)) = shD s ((x : Int), (y : Int))
    rw [Int.zero_add]
  obtain ⟨SD, hSD⟩ : ∃ SD, SD = s.d := ⟨_, rfl⟩
  rw [← hSD] at i0 hr ⊢
  obtain ⟨e1, k1, z, rfl⟩ := comp_ok (W := W) (vs := [6]) (tg := .nm 6) (it := .rng1 (.val (.vix 0 (.int 0)) .nil)) (t := .no) (el := .call "_law_shown" (.val (.var 0) (.val (.var 1) (.val (.tup (.own (.var 6) (.own (.var 4) .nil))) .nil)))) (e := [some (.leaf SD), some (.leaf SP), x2, x3, some (.leaf (.int (y : Int))), x5, x6, x7]) (ds := rangeL 0 s.w) (fun _ => true) (fun d => shD s (intOf d, (y : Int))) (fun e => ∃ z, e = [some (.leaf SD), some (.leaf SP), x2, x3, some (.leaf (.int (y : Int))), x5, z, x7]) (e0 := [some (.leaf SD), some (.leaf SP), x2, x3, some (.leaf (.int (y : Int))), x5, x6, x7]) (by
      generalize rangeL 0 s.w = RL at *
      simp [evI, evC, evCs, gRng, i0, rw1]) ⟨_, rfl⟩ (by rw [rg_len]; exact Nat.le_trans hw8 (by decide)) (by
    rintro d e hd ⟨z, rfl⟩
    obtain ⟨x, hx⟩ := List.getElem?_of_mem hd
    obtain ⟨_, rfl⟩ := rg_at hx
    rw [Int.zero_add]
    have k3 : F [.leaf SD, .leaf SP, .leaf (.tuple [.int (x : Int), .int (y : Int)])] = _ := hr ((x : Int), (y : Int))
    have fm : frz (mkTup [.leaf (.int (x : Int)), .leaf (.int (y : Int))]) = .tuple [.int (x : Int), .int (y : Int)] := rfl
    have ei : intOf (.int (x : Int)) = (x : Int) := rfl
    rw [ei]
    generalize shD s ((x : Int), (y : Int)) = OUT at *
    refine ⟨[some (.leaf SD), some (.leaf SP), x2, x3, some (.leaf (.int (y : Int))), x5, some (.leaf (.int (x : Int))), x7], by simp [evTg, wipeE], _, by simp [evCond]; rfl, fun _ => ⟨[some (.leaf SD), some (.leaf SP), x2, x3, some (.leaf (.int (y : Int))), x5, some (.leaf (.int (x : Int))), x7], ?_, ⟨_, rfl⟩⟩, fun h => by cases h⟩
    simp [evC, evCs, hF, lens, fm, k3])
  rw [filter_true, em] at k1
  exact k1
theorem rows_at {s : Sc} {c : Int × Int} (h1 : 0 ≤ c.1) (h2 : c.1 < s.w) (h3 : 0 ≤ c.2) (h4 : c.2 < s.h) : ixD (.list ((List.range s.h).map (rtRow s))) (.int c.2) = some (rtRow s c.2.toNat) ∧ ixD (rtRow s c.2.toNat) (.int c.1) = some (shD s c) := by
  obtain ⟨x, y⟩ := c
  simp only at *
  obtain ⟨a, rfl⟩ := Int.eq_ofNat_of_zero_le h1
  obtain ⟨b, rfl⟩ := Int.eq_ofNat_of_zero_le h3
  have ha : a < s.w := by omega
  have hb : b < s.h := by omega
  constructor
  · have N : ixN ((List.range s.h).map (rtRow s)).length (b : Int) = some b := by simp [ixN, hb]
    show L2.atI ((List.range s.h).map (rtRow s)) (b : Int) = _
    unfold L2.atI
    rw [N]
    simp [hb]
  · refine ix_in (by omega) ?_
    unfold lineL
    simp [ha]
theorem eq_nil2 : eqD (.list []) (.list []) = some (.leaf (.bool true)) := by
  have h2 : SeqAt.shaped (.list []) = true := by decide +kernel
  have h1 : scalEq (.list []) (.list []) = none := rfl
  unfold eqD bT eqB
  rw [h1]
  simp only [h2]
  rfl
end Fc

namespace Fc
open PySem PySem.Spec PyProof.Rows L2 IL
def rt5 : IL.C := .comp [7] (.nm 7) (.seq (.var 5)) (.so (.cmp .ne (.bif .repr (.val (.call "shows" (.val (.var 0) (.val (.var 7) .nil))) .nil)) (.bif .repr (.val (.ix (.vix 3 (.vix 7 (.int 1))) (.vix 7 (.int 0))) .nil)))) (.var 7)
theorem rt_s5_eq : rt_s5 = .ret (.cmp .eq rt5 (.lst .nil)) := rfl
def cs4 (s : Sc) : List (Int × Int) := [(0, 0), ((s.w : Int) - 1, (s.h : Int) - 1), ((s.w : Int).fdiv 2, (s.h : Int).fdiv 2), (0, (s.h : Int) - 1)]
theorem half_in {n : Nat} (h : 1 ≤ n) : 0 ≤ (n : Int).fdiv 2 ∧ (n : Int).fdiv 2 < n := by
  rw [Int.fdiv_eq_ediv_of_nonneg _ (by decide)]
  omega
theorem cs4_in {m : Nat} {s : Sc} (h : s.Ok m) : ∀ c ∈ cs4 s, 0 ≤ c.1 ∧ c.1 < s.w ∧ 0 ≤ c.2 ∧ c.2 < s.h := by
  have h1 := h.w1
  have h2 := h.h1
  have a := half_in h1
  have b := half_in h2
  intro c hc
  simp only [cs4, List.mem_cons, List.not_mem_nil, or_false] at hc
  rcases hc with rfl | rfl | rfl | rfl
  · refine ⟨?_, ?_, ?_, ?_⟩ <;> simp only <;> omega
  · refine ⟨?_, ?_, ?_, ?_⟩ <;> simp only <;> omega
  · exact ⟨a.1, a.2, b.1, b.2⟩
  · refine ⟨?_, ?_, ?_, ?_⟩ <;> simp only <;> omega
theorem ne_self (Z : Str) : neD (.str Z) (.str Z) = some (.leaf (.bool false)) := by simp [neD, bT, eqB, scalEq]
theorem rt_pick {W : Wd} {m : Nat} {s : Sc} {Fh : FSem} (hs : s.Ok m) (hh : W.fn "shows" = some ⟨2, [], Fh⟩) (sh : SpShows Fh) (x1 x2 x4 x6 x7 : Option T) :
    evC W rt5 [some (.leaf s.d), x1, x2, some (.leaf (.list ((List.range s.h).map (rtRow s)))), x4, some (.lst ((cs4 s).map fun c => T.leaf (ptD c))), x6, x7] = .ok (.lst []) [some (.leaf s.d), x1, x2, some (.leaf (.list ((List.range s.h).map (rtRow s)))), x4, some (.leaf (.list ((cs4 s).map ptD))), x6, none] := by
  have hin := cs4_in hs
  have hsh := fun c => sh m s c hs
  have hre := fun c => repr_sh hs c
  have hat := fun c (hc : c ∈ cs4 s) => rows_at (s := s) (c := c) (hin c hc).1 (hin c hc).2.1 (hin c hc).2.2.1 (hin c hc).2.2.2
  have e4 : (cs4 s).length = 4 := rfl
  have fz : frz (.lst ((cs4 s).map fun c => T.leaf (ptD c))) = .list ((cs4 s).map ptD) := by
    have := frz_lvs ((cs4 s).map ptD)
    rw [List.map_map] at this
    exact this
  generalize cs4 s = CS at *
  generalize (List.range s.h).map (rtRow s) = RS at *
  obtain ⟨SD, hSD⟩ : ∃ SD, SD = s.d := ⟨_, rfl⟩
  rw [← hSD] at hsh ⊢
  obtain ⟨e1, k1, z, rfl⟩ := comp_ok (W := W) (vs := [7]) (tg := .nm 7) (it := .seq (.var 5)) (t := .so (.cmp .ne (.bif .repr (.val (.call "shows" (.val (.var 0) (.val (.var 7) .nil))) .nil)) (.bif .repr (.val (.ix (.vix 3 (.vix 7 (.int 1))) (.vix 7 (.int 0))) .nil)))) (el := .var 7) (e := [some (.leaf SD), x1, x2, some (.leaf (.list RS)), x4, some (.lst (CS.map fun c => T.leaf (ptD c))), x6, x7]) (ds := CS.map ptD) (fun _ => false) id (fun e => ∃ z, e = [some (.leaf SD), x1, x2, some (.leaf (.list RS)), x4, some (.leaf (.list (CS.map ptD))), x6, z]) (e0 := [some (.leaf SD), x1, x2, some (.leaf (.list RS)), x4, some (.leaf (.list (CS.map ptD))), x6, x7]) (by
      generalize T.lst (CS.map fun c => T.leaf (ptD c)) = A at *
      generalize CS.map ptD = CL at *
      simp [evI, evC, evCs, fz]) ⟨_, rfl⟩ (by rw [List.length_map, e4]; decide) (by
    rintro d e hd ⟨z, rfl⟩
    obtain ⟨c, hc, rfl⟩ := List.mem_map.mp hd
    have k1 := hsh c
    have k2 := hre c
    obtain ⟨k3, k4⟩ := hat c hc
    have p0 := ix_pt0 c
    have p1 := ix_pt1 c
    have ne := ne_self (shD s c).shown
    generalize CS.map ptD = CL at *
    generalize (shD s c).shown = Z at *
    generalize shD s c = OUT at *
    generalize rtRow s c.2.toNat = RW at *
    generalize ptD c = PC at *
    refine ⟨[some (.leaf SD), x1, x2, some (.leaf (.list RS)), x4, some (.leaf (.list CL)), x6, some (.leaf PC)], by simp [evTg, wipeE], [some (.leaf SD), x1, x2, some (.leaf (.list RS)), x4, some (.leaf (.list CL)), x6, some (.leaf PC)], ?_, (fun h => by cases h), fun _ => ⟨_, rfl⟩⟩
    simp [evCond, evC, evCs, Bif.d, Cop.d, hh, lens, k1, k2, k3, k4, p0, p1, ne])
  have ef : ((CS.map ptD).filter fun _ => false) = [] := by simp
  rw [ef] at k1
  exact k1
theorem run_right {W : Wd} {Fc Fl Fp Fh : FSem} (hc : W.fn "_law_corners" = some ⟨1, [], Fc⟩) (sc : SpCorners Fc) (hl : W.fn "_law_shown" = some ⟨3, [], Fl⟩) (sl : SpShL Fl) (hp : W.fn "plain_painting" = some ⟨1, [], Fp⟩) (sp : SpPaint Fp) (hh : W.fn "shows" = some ⟨2, [], Fh⟩) (sh : SpShows Fh) : SpRight (runM n__law_right.length 1 [] (evSs W c__law_right)) := by
  intro m s hs
  have r1 := sc m s hs.tree hs.six
  have r2 := sp m s hs
  have rp := repr_paint hs
  have i0 := ix_sc0 s
  have i1 := ix_sc1 s
  have hh6 := hs.h6
  have rh1 := rng_c (c := (s.h : Int)) (C := s.h) rfl (by omega)
  have inn := fun y => rt_inner (W := W) (SP := .dict (dD ptD (cors s.tr))) hs hl (fun cell => sl m s cell hs) y
  have pk := rt_pick (W := W) hs hh sh
  have eP : paintD s = .tuple ((List.range s.h).map (rtRow s)) := rfl
  have ecs : T.lst ((cs4 s).map fun c => T.leaf (ptD c)) = .lst [.leaf (.tuple [.int 0, .int 0]), .leaf (.tuple [.int ((s.w : Int) - 1), .int ((s.h : Int) - 1)]), .leaf (.tuple [.int ((s.w : Int).fdiv 2), .int ((s.h : Int).fdiv 2)]), .leaf (.tuple [.int 0, .int ((s.h : Int) - 1)])] := rfl
  obtain ⟨SD, hSD⟩ : ∃ SD, SD = s.d := ⟨_, rfl⟩
  rw [← hSD] at r1 r2 i0 i1 inn pk ⊢
  generalize PyData.dict (dD ptD (cors s.tr)) = SP at *
  generalize PyData.dict (dD namesD (chns s.tr)) = AB at *
  let E : T → Option T → Option T → Option T → Option T → En := fun t3 x4 x5 x6 x7 => [some (.leaf SD), some (.leaf SP), some (.leaf AB), some t3, x4, x5, x6, x7]
  have g0 : evS W rt_s0 [some (.leaf SD), none, none, none, none, none, none, none] = .ok .nx [some (.leaf SD), some (.leaf SP), some (.leaf AB), none, none, none, none, none] := by
    simp [rt_s0, evS, evC, evCs, evTg, evTgs, tgN, unT, consG, gAsg, hc, lens, r1]
  have g1 : evS W rt_s1 [some (.leaf SD), some (.leaf SP), some (.leaf AB), none, none, none, none, none] = .ok .nx (E (.lst []) none none none none) := by
    simp [rt_s1, evS, evC, evCs, E]
  let G : Nat → List D := fun j => (List.range j).map (rtRow s)
  let Inv : Nat → En → Prop := fun j e => ∃ x4 x6, e = E (.lst ((G j).map .leaf)) x4 none x6 none
  obtain ⟨e', q1, x4, x6, rfl⟩ := gFor_inv (bd := evTg W (.nm 4)) (b := evSs W rt_b2_r0) Inv (rangeL 0 s.h) 0 (E (.lst []) none none none none) ⟨none, none, rfl⟩ (by
    rintro j d e hd ⟨x4, x6, rfl⟩
    obtain ⟨hj, rfl⟩ := rg_at hd
    rw [Nat.zero_add] at *
    rw [Int.zero_add]
    have k := inn j (some (.leaf AB)) (some (.lst ((G j).map .leaf))) none x6 none
    have fz := frz_lvs ((lineL s.w j).map (shD s))
    have tu : tupleD [.list ((lineL s.w j).map (shD s))] = some (.leaf (rtRow s j)) := rfl
    have eG : (G (j + 1)).map T.leaf = (G j).map T.leaf ++ [.leaf (rtRow s j)] := by
      show ((List.range (j + 1)).map (rtRow s)).map T.leaf = _
      rw [List.range_succ, List.map_append, List.map_append]
      rfl
    have hl : ((G j).map T.leaf).length < most := by
      show (((List.range j).map (rtRow s)).map T.leaf).length < most
      rw [List.length_map, List.length_map, List.length_range]
      exact Nat.lt_of_lt_of_le (Nat.lt_of_lt_of_le hj hh6) (by decide)
    refine ⟨E (.lst ((G (j + 1)).map .leaf)) (some (.leaf (.int (j : Int)))) none none none, ?_, _, _, rfl⟩
    rw [eG]
    generalize (G j).map T.leaf = GL at *
    generalize rtRow s j = RW at *
    generalize (lineL s.w j).map (shD s) = LS at *
    generalize T.lst (LS.map .leaf) = A at *
    generalize (j : Int) = jj at *
    simp only [E]
    simp [rt_b2_r0, rt_b2_s0_eq, rt_b2_r1, evTg, evSs, evS, evC, evCs, Bif.d, gPush, held, peek, pushT, k, fz, tu, hl])
  rw [rg_len, Nat.zero_add] at q1
  have hI : evI W rt_i2 (E (.lst []) none none none none) = .ok (rangeL 0 s.h) (E (.lst []) none none none none) := by
    generalize rangeL 0 s.h = RL at *
    simp only [E]
    simp [rt_i2, evI, evC, evCs, gRng, i1, rh1]
  have g2 : evS W rt_s2 (E (.lst []) none none none none) = .ok .nx (E (.lst ((G s.h).map .leaf)) x4 none x6 none) := by
    simp only [rt_s2_eq, evS]
    rw [ap_bnd, hI]
    exact q1
  have eGh : G s.h = (List.range s.h).map (rtRow s) := rfl
  have fzL := frz_lvs ((List.range s.h).map (rtRow s))
  have tuL : tupleD [.list ((List.range s.h).map (rtRow s))] = some (.leaf (paintD s)) := rfl
  have ne := ne_self (paintD s).shown
  have g3 : evS W rt_s3 (E (.lst ((G s.h).map .leaf)) x4 none x6 none) = .ok .nx (E (.leaf (.list ((List.range s.h).map (rtRow s)))) x4 none x6 none) := by
    rw [eGh]
    generalize (List.range s.h).map (rtRow s) = RS at *
    generalize T.lst (RS.map .leaf) = A at *
    generalize (paintD s).shown = Z at *
    generalize paintD s = PD at *
    simp only [E]
    simp [rt_s3, evSs, evS, evC, evCs, Bif.d, Cop.d, hp, lens, r2, rp, fzL, tuL, ne]
  have dv1 : divOk (s.w : Int) 2 = true := div_small (by decide) (by decide)
  have dv2 : divOk (s.h : Int) 2 = true := div_small (by decide) (by decide)
  have g4 : evS W rt_s4 (E (.leaf (.list ((List.range s.h).map (rtRow s)))) x4 none x6 none) = .ok .nx (E (.leaf (.list ((List.range s.h).map (rtRow s)))) x4 (some (.lst ((cs4 s).map fun c => T.leaf (ptD c)))) x6 none) := by
    rw [ecs]
    generalize (List.range s.h).map (rtRow s) = RS at *
    simp only [E]
    simp [rt_s4, evS, evC, evCs, Bop.d, i0, i1, dv1, dv2]
  have k5 := pk (some (.leaf SP)) (some (.leaf AB)) x4 x6 none
  have en := eq_nil2
  have fz0 : frz (.lst []) = .list [] := rfl
  refine run_pure ?_
  show tell (evSs W c__law_right) [some (.leaf SD), none, none, none, none, none, none, none] = _
  unfold tell
  rw [rt_eq, step (c := rt_r0) rfl g0, step (c := rt_r1) rfl g1, step (c := rt_r2) rfl g2, step (c := rt_r3) rfl g3, step (c := rt_r4) rfl g4]
  simp only [E]
  generalize T.lst ((cs4 s).map fun c => T.leaf (ptD c)) = A at *
  generalize (List.range s.h).map (rtRow s) = RS at *
  simp [rt_r5, rt_s5_eq, rt_r6, evSs, evS, evC, evCs, Cop.d, k5, fz0, en, -frz_lst]
end Fc

namespace Fc
open PySem PySem.Spec PyProof.Rows L2 IL
structure Wk (W : Wd) : Prop where
  dr : ∃ F, W.fn "_law_draw" = some ⟨2, [0], F⟩ ∧ SpDraw F
  sc : ∃ F, W.fn "_law_scene" = some ⟨3, [0], F⟩ ∧ SpScene F
  rt : ∃ F, W.fn "_law_right" = some ⟨1, [], F⟩ ∧ SpRight F
def sc0 : Sc := ⟨2, 1, 5, []⟩
theorem sc0_ok : sc0.Ok 1 := ⟨by decide, by decide, by decide, by decide, by decide, by decide, .nil⟩
theorem sc0_d : sc0.d = .tuple [.int 2, .int 1, .tuple [.tuple [.int 5, .int 16], .tuple [.int 1, .int 1]], .tuple []] := by
  have h1 : (q16 5).num = 5 ∧ (q16 5).den = 16 ∧ (q16 16).num = 1 ∧ (q16 16).den = 1 := by decide +kernel
  obtain ⟨a, b, c, d⟩ := h1
  unfold Sc.d sc0 pxN fq fr
  simp [a, b, c, d]
theorem law_run {W : Wd} (K : Wk W) (cells : List Int) (h63 : cells.length ≤ 63) (hb : ∀ n ∈ cells, n.natAbs.log2 ≤ 1048576) : ∃ e', evSs W c_law ((List.replicate n_law.length none).set 1 (some (feedT cells))) = .ok (.rt (.leaf (.bool true))) e' := by
  have hf0 : FeedOk cells 0 (feedT cells) := ⟨0, 0, 0, rfl, by omega, by omega, by omega, by omega, ⟨h63, hb⟩⟩
  obtain ⟨⟨Fd, hd, sd⟩, ⟨Fs, hs, ss⟩, Fr, hr, sr⟩ := K
  obtain ⟨r, t0, ra, rb, f0, k0⟩ := sd cells 0 (feedT cells) 8 (by omega) hf0 (by decide) (by decide)
  obtain ⟨wide, hw1, hw8, g0⟩ : ∃ wide : Nat, 1 ≤ wide ∧ wide ≤ 8 ∧ evS W la_s0 [none, some (feedT cells), none, none, none, none] = .ok .nx [none, some t0, some (.leaf (.int (wide : Int))), none, none, none] := by
    by_cases h0 : r = 0
    · refine ⟨8, by decide, by decide, ?_⟩
      simp [la_s0, evS, evC, evCs, Cop.d, hd, lens, maskN, k0, h0]
    · refine ⟨5, by decide, by decide, ?_⟩
      simp [la_s0, evS, evC, evCs, Cop.d, hd, lens, maskN, k0, h0]
  obtain ⟨s1, t1, a1, b1, f1, k1⟩ := ss cells 1 t0 6 wide (by omega) f0 (by omega) hw1 hw8
  obtain ⟨s2, t2, a2, b2, f2, k2⟩ := ss cells (1 + 2500) t1 3 4 (by omega) f1 (by omega) (by omega) (by omega)
  replace k1 : Fs [t0, .leaf (.int 6), .leaf (.int (wide : Int))] = some (.leaf s1.d, [some t1, none, none]) := k1
  replace k2 : Fs [t1, .leaf (.int 3), .leaf (.int 4)] = some (.leaf s2.d, [some t2, none, none]) := k2
  have r1 := sr wide s1 a1
  have r2 := sr 4 s2 a2
  have r0 := sr 1 sc0 sc0_ok
  rw [sc0_d] at r0
  have d1 := a1.dt
  have d2 := a2.dt
  have hR : reprD [.list [s1.d, s2.d]] = some (.leaf (.str (PyData.list [s1.d, s2.d]).shown)) := by
    refine repr_fine (Dt.big (dt_lst (n := 39) (b := 16000) (fun x hx => ?_) ?_))
    · simp only [List.mem_cons, List.not_mem_nil, or_false] at hx
      rcases hx with rfl | rfl
      · exact (d1.plain (by decide)).lv.mono (by decide)
      · exact (d2.plain (by decide)).lv.mono (by decide)
    · have z1 := d1.blk
      have z2 := d2.blk
      have z3 : wide * (wide * 12 + 1) ≤ 8 * (8 * 12 + 1) := Nat.mul_le_mul hw8 (by omega)
      simp only [PyData.bulkAll]
      omega
  generalize s1.d = D1 at *
  generalize s2.d = D2 at *
  obtain ⟨D0, hD0⟩ : ∃ D0 : D, D0 = .tuple [.int 2, .int 1, .tuple [.tuple [.int 5, .int 16], .tuple [.int 1, .int 1]], .tuple []] := ⟨_, rfl⟩
  rw [← hD0] at r0
  have add1 : addD (.list [D1, D2]) (.list [D1]) = some (.lst ([D1, D2, D1].map .leaf)) := by
    rw [lst_add (by simp)]
    rfl
  have add2 : addD (.list [D1, D2, D1]) (.list [D0]) = some (.lst ([D1, D2, D1, D0].map .leaf)) := by
    rw [lst_add (by simp)]
    rfl
  have cut1 : slD (.list [D1, D2]) none (some 1) = some (.lst ([D1].map .leaf)) := rfl
  have fz2 : frz (.lst [.leaf D1, .leaf D2]) = .list [D1, D2] := frz_lvs [D1, D2]
  have fz1 : frz (.lst ([D1].map .leaf)) = .list [D1] := frz_lvs [D1]
  have fz3 : frz (.lst ([D1, D2, D1].map .leaf)) = .list [D1, D2, D1] := frz_lvs _
  have fz4 : frz (.lst ([D1, D2, D1, D0].map .leaf)) = .list [D1, D2, D1, D0] := frz_lvs _
  have g1 : evS W la_s1 [none, some t0, some (.leaf (.int (wide : Int))), none, none, none] = .ok .nx [none, some t2, some (.leaf (.int (wide : Int))), some (.lst [.leaf D1, .leaf D2]), none, none] := by
    simp [la_s1, evS, evC, evCs, hs, lens, maskN, k1, k2]
  have g2 : evS W la_s2 [none, some t2, some (.leaf (.int (wide : Int))), some (.lst [.leaf D1, .leaf D2]), none, none] = .ok .nx [none, some t2, some (.leaf (.int (wide : Int))), some (.leaf (.list [D1, D2])), some (.leaf (.str (PyData.list [D1, D2]).shown)), none] := by
    generalize T.lst [.leaf D1, .leaf D2] = A at *
    generalize (PyData.list [D1, D2]).shown = Z at *
    simp [la_s2, evS, evC, evCs, Bif.d, fz2, hR]
  have hRr : ∀ d ∈ [D1, D2, D1, D0], Fr [.leaf d] = some (.leaf (.bool true), [none]) := by
    intro d hd
    simp only [List.mem_cons, List.not_mem_nil, or_false] at hd
    rcases hd with rfl | rfl | rfl | rfl
    · exact r1
    · exact r2
    · exact r1
    · exact r0
  have ne := ne_self (PyData.list [D1, D2]).shown
  generalize (PyData.list [D1, D2]).shown = Z at *
  obtain ⟨e', q1, y, rfl⟩ := gFor_inv (bd := evTg W (.nm 5)) (b := evSs W la_b3_r0) (fun _ e => ∃ y, e = [none, some t2, some (.leaf (.int (wide : Int))), some (.leaf (.list [D1, D2])), some (.leaf (.str Z)), y]) [D1, D2, D1, D0] 0 [none, some t2, some (.leaf (.int (wide : Int))), some (.leaf (.list [D1, D2])), some (.leaf (.str Z)), none] ⟨none, rfl⟩ (by
    rintro i d e hi ⟨y, rfl⟩
    have k3 := hRr d (List.mem_of_getElem? hi)
    refine ⟨[none, some t2, some (.leaf (.int (wide : Int))), some (.leaf (.list [D1, D2])), some (.leaf (.str Z)), some (.leaf d)], ?_, _, rfl⟩
    generalize PyData.list [D1, D2] = L2 at *
    simp [la_b3_r0, la_b3_s0, la_b3_r1, evTg, evSs, evS, evC, evCs, Bif.d, Cop.d, hr, lens, k3, hR, ne])
  have hI : evI W la_i3 [none, some t2, some (.leaf (.int (wide : Int))), some (.leaf (.list [D1, D2])), some (.leaf (.str Z)), none] = .ok [D1, D2, D1, D0] [none, some t2, some (.leaf (.int (wide : Int))), some (.leaf (.list [D1, D2])), some (.leaf (.str Z)), none] := by
    have fz0 : frz (.lst [.leaf (.tuple [.int 2, .int 1, .tuple [.tuple [.int 5, .int 16], .tuple [.int 1, .int 1]], .tuple []])]) = .list [D0] := by rw [hD0]; rfl
    have fzz : frz (T.lst ([D1, D2, D1, D0].map .leaf)) = .list [D1, D2, D1, D0] := fz4
    generalize T.lst ([D1, D2, D1, D0].map .leaf) = A4 at *
    generalize T.lst ([D1, D2, D1].map .leaf) = A3 at *
    generalize T.lst ([D1].map .leaf) = A1 at *
    generalize PyData.list [D1, D2, D1] = L3 at *
    generalize PyData.list [D1, D2] = L2 at *
    generalize PyData.list [D1] = L1 at *
    have fzq : frz (mkTup [T.leaf (.int 2), T.leaf (.int 1), T.leaf (.tuple [.tuple [.int 5, .int 16], .tuple [.int 1, .int 1]]), mkTup []]) = D0 := by rw [hD0]; rfl
    have hD0' : PyData.list [PyData.tuple [.int 2, .int 1, .tuple [.tuple [.int 5, .int 16], .tuple [.int 1, .int 1]], .tuple []]] = PyData.list [D0] := by rw [hD0]
    simp [la_i3, evI, evC, evCs, evO, Bop.d, gSl, gPart, asI, cut1, fz1, add1, fz3, fzq, add2, fz4]
  have g3 : evS W la_s3 [none, some t2, some (.leaf (.int (wide : Int))), some (.leaf (.list [D1, D2])), some (.leaf (.str Z)), none] = .ok .nx [none, some t2, some (.leaf (.int (wide : Int))), some (.leaf (.list [D1, D2])), some (.leaf (.str Z)), y] := by
    simp only [la_s3_eq, evS]
    rw [ap_bnd, hI]
    exact q1
  refine ⟨[none, some t2, some (.leaf (.int (wide : Int))), some (.leaf (.list [D1, D2])), some (.leaf (.str Z)), y], ?_⟩
  rw [la_eq]
  show evSs W la_r0 [none, some (feedT cells), none, none, none, none] = _
  rw [step (c := la_r0) rfl g0, step (c := la_r1) rfl g1, step (c := la_r2) rfl g2, step (c := la_r3) rfl g3]
  rfl
end Fc

namespace Fc
open PySem PySem.Spec PyProof.Rows L2 IL
def topS (i : Nat) : Stmt := PySem.Challenge.pw_framecourt_k22_shown_cell_by_cell.main.body.getD i (.Pass ⟨0, 0, 0, 0⟩)
theorem sc_common_divisor : FnScope n_common_divisor ["one", "other"] (defScope (topS 2)) := ⟨rfl, rfl, rfl, by decide +kernel, rfl, by decide +kernel, by decide +kernel⟩
theorem ck_common_divisor : chkSs n_common_divisor [] (defScope (topS 2)) c_common_divisor (defBody (topS 2)) = true := by decide +kernel
theorem sc_ratio : FnScope n_ratio ["a", "b"] (defScope (topS 3)) := ⟨rfl, rfl, rfl, by decide +kernel, rfl, by decide +kernel, by decide +kernel⟩
theorem ck_ratio : chkSs n_ratio [] (defScope (topS 3)) c_ratio (defBody (topS 3)) = true := by decide +kernel
theorem sc_added : FnScope n_added ["one", "other"] (defScope (topS 4)) := ⟨rfl, rfl, rfl, by decide +kernel, rfl, by decide +kernel, by decide +kernel⟩
theorem ck_added : chkSs n_added [] (defScope (topS 4)) c_added (defBody (topS 4)) = true := by decide +kernel
theorem sc_less : FnScope n_less ["one", "other"] (defScope (topS 5)) := ⟨rfl, rfl, rfl, by decide +kernel, rfl, by decide +kernel, by decide +kernel⟩
theorem ck_less : chkSs n_less [] (defScope (topS 5)) c_less (defBody (topS 5)) = true := by decide +kernel
theorem sc_times : FnScope n_times ["one", "other"] (defScope (topS 6)) := ⟨rfl, rfl, rfl, by decide +kernel, rfl, by decide +kernel, by decide +kernel⟩
theorem ck_times : chkSs n_times [] (defScope (topS 6)) c_times (defBody (topS 6)) = true := by decide +kernel
theorem sc_laid_on : FnScope n_laid_on ["one", "other"] (defScope (topS 10)) := ⟨rfl, rfl, rfl, by decide +kernel, rfl, by decide +kernel, by decide +kernel⟩
theorem ck_laid_on : chkSs n_laid_on [] (defScope (topS 10)) c_laid_on (defBody (topS 10)) = true := by decide +kernel
theorem sc_faded : FnScope n_faded ["pixel", "opacity"] (defScope (topS 11)) := ⟨rfl, rfl, rfl, by decide +kernel, rfl, by decide +kernel, by decide +kernel⟩
theorem ck_faded : chkSs n_faded [] (defScope (topS 11)) c_faded (defBody (topS 11)) = true := by decide +kernel
theorem sc_has_cell : FnScope n_has_cell ["region", "cell"] (defScope (topS 13)) := ⟨rfl, rfl, rfl, by decide +kernel, rfl, by decide +kernel, by decide +kernel⟩
theorem ck_has_cell : chkSs n_has_cell [] (defScope (topS 13)) c_has_cell (defBody (topS 13)) = true := by decide +kernel
theorem sc_rectangle_region : FnScope n_rectangle_region ["rectangle"] (defScope (topS 14)) := ⟨rfl, rfl, rfl, by decide +kernel, rfl, by decide +kernel, by decide +kernel⟩
theorem ck_rectangle_region : chkSs n_rectangle_region [] (defScope (topS 14)) c_rectangle_region (defBody (topS 14)) = true := by decide +kernel
theorem sc_Boughs___init__ : FnScope n_Boughs___init__ ["self", "scene"] (defScope (inClass (topS 17) 0)) := ⟨rfl, rfl, rfl, by decide +kernel, rfl, by decide +kernel, by decide +kernel⟩
theorem ck_Boughs___init__ : chkSs n_Boughs___init__ [0] (defScope (inClass (topS 17) 0)) c_Boughs___init__ (defBody (inClass (topS 17) 0)) = true := by decide +kernel
theorem sc_Boughs_is_out : FnScope n_Boughs_is_out ["self", "name", "cell"] (defScope (inClass (topS 17) 1)) := ⟨rfl, rfl, rfl, by decide +kernel, rfl, by decide +kernel, by decide +kernel⟩
theorem ck_Boughs_is_out : chkSs n_Boughs_is_out [] (defScope (inClass (topS 17) 1)) c_Boughs_is_out (defBody (inClass (topS 17) 1)) = true := by decide +kernel
theorem sc_Boughs_own_pixel : FnScope n_Boughs_own_pixel ["self", "name", "cell"] (defScope (inClass (topS 17) 2)) := ⟨rfl, rfl, rfl, by decide +kernel, rfl, by decide +kernel, by decide +kernel⟩
theorem ck_Boughs_own_pixel : chkSs n_Boughs_own_pixel [] (defScope (inClass (topS 17) 2)) c_Boughs_own_pixel (defBody (inClass (topS 17) 2)) = true := by decide +kernel
theorem sc_screen_rows : FnScope n_screen_rows ["scene"] (defScope (topS 18)) := ⟨rfl, rfl, rfl, by decide +kernel, rfl, by decide +kernel, by decide +kernel⟩
theorem ck_screen_rows : chkSs n_screen_rows [] (defScope (topS 18)) c_screen_rows (defBody (topS 18)) = true := by decide +kernel
theorem sc_picture_at : FnScope n_picture_at ["boughs", "name", "cell"] (defScope (topS 20)) := ⟨rfl, rfl, rfl, by decide +kernel, rfl, by decide +kernel, by decide +kernel⟩
theorem ck_picture_at : chkSs n_picture_at [] (defScope (topS 20)) c_picture_at (defBody (topS 20)) = true := by decide +kernel
theorem sc_shown_at : FnScope n_shown_at ["scene", "boughs", "cell"] (defScope (topS 21)) := ⟨rfl, rfl, rfl, by decide +kernel, rfl, by decide +kernel, by decide +kernel⟩
theorem ck_shown_at : chkSs n_shown_at [] (defScope (topS 21)) c_shown_at (defBody (topS 21)) = true := by decide +kernel
theorem sc_shows : FnScope n_shows ["scene", "cell"] (defScope (topS 22)) := ⟨rfl, rfl, rfl, by decide +kernel, rfl, by decide +kernel, by decide +kernel⟩
theorem ck_shows : chkSs n_shows [] (defScope (topS 22)) c_shows (defBody (topS 22)) = true := by decide +kernel
theorem sc_plain_painting : FnScope n_plain_painting ["scene"] (defScope (topS 23)) := ⟨rfl, rfl, rfl, by decide +kernel, rfl, by decide +kernel, by decide +kernel⟩
theorem ck_plain_painting : chkSs n_plain_painting [] (defScope (topS 23)) c_plain_painting (defBody (topS 23)) = true := by decide +kernel
theorem sc__law_feed : FnScope ["script"] ["script"] (defScope (topS 25)) := ⟨rfl, rfl, rfl, by decide +kernel, rfl, by decide +kernel, by decide +kernel⟩
theorem sc__law_draw : FnScope n__law_draw ["feed", "many"] (defScope (topS 26)) := ⟨rfl, rfl, rfl, by decide +kernel, rfl, by decide +kernel, by decide +kernel⟩
theorem ck__law_draw : chkSs n__law_draw [0] (defScope (topS 26)) c__law_draw (defBody (topS 26)) = true := by decide +kernel
theorem sc__law_frac : FnScope n__law_frac ["top", "bottom"] (defScope (topS 27)) := ⟨rfl, rfl, rfl, by decide +kernel, rfl, by decide +kernel, by decide +kernel⟩
theorem ck__law_frac : chkSs n__law_frac [] (defScope (topS 27)) c__law_frac (defBody (topS 27)) = true := by decide +kernel
theorem sc__law_point : FnScope n__law_point ["feed"] (defScope (topS 28)) := ⟨rfl, rfl, rfl, by decide +kernel, rfl, by decide +kernel, by decide +kernel⟩
theorem ck__law_point : chkSs n__law_point [0] (defScope (topS 28)) c__law_point (defBody (topS 28)) = true := by decide +kernel
theorem sc__law_content : FnScope n__law_content ["feed", "wide", "tall"] (defScope (topS 29)) := ⟨rfl, rfl, rfl, by decide +kernel, rfl, by decide +kernel, by decide +kernel⟩
theorem ck__law_content : chkSs n__law_content [0] (defScope (topS 29)) c__law_content (defBody (topS 29)) = true := by decide +kernel
theorem sc__law_node : FnScope n__law_node ["feed", "name", "parent", "wide"] (defScope (topS 30)) := ⟨rfl, rfl, rfl, by decide +kernel, rfl, by decide +kernel, by decide +kernel⟩
theorem ck__law_node : chkSs n__law_node [0] (defScope (topS 30)) c__law_node (defBody (topS 30)) = true := by decide +kernel
theorem sc__law_scene : FnScope n__law_scene ["feed", "most", "wide"] (defScope (topS 31)) := ⟨rfl, rfl, rfl, by decide +kernel, rfl, by decide +kernel, by decide +kernel⟩
theorem ck__law_scene : chkSs n__law_scene [0] (defScope (topS 31)) c__law_scene (defBody (topS 31)) = true := by decide +kernel
theorem sc__law_corners : FnScope n__law_corners ["scene"] (defScope (topS 32)) := ⟨rfl, rfl, rfl, by decide +kernel, rfl, by decide +kernel, by decide +kernel⟩
theorem ck__law_corners : chkSs n__law_corners [] (defScope (topS 32)) c__law_corners (defBody (topS 32)) = true := by decide +kernel
theorem sc__law_out : FnScope n__law_out ["node", "corner_of", "cell"] (defScope (topS 33)) := ⟨rfl, rfl, rfl, by decide +kernel, rfl, by decide +kernel, by decide +kernel⟩
theorem ck__law_out : chkSs n__law_out [] (defScope (topS 33)) c__law_out (defBody (topS 33)) = true := by decide +kernel
theorem sc__law_own : FnScope n__law_own ["node", "corner_of", "cell"] (defScope (topS 34)) := ⟨rfl, rfl, rfl, by decide +kernel, rfl, by decide +kernel, by decide +kernel⟩
theorem ck__law_own : chkSs n__law_own [] (defScope (topS 34)) c__law_own (defBody (topS 34)) = true := by decide +kernel
theorem sc__law_lay : FnScope n__law_lay ["one", "other"] (defScope (topS 35)) := ⟨rfl, rfl, rfl, by decide +kernel, rfl, by decide +kernel, by decide +kernel⟩
theorem ck__law_lay : chkSs n__law_lay [] (defScope (topS 35)) c__law_lay (defBody (topS 35)) = true := by decide +kernel
theorem sc__law_picture : FnScope n__law_picture ["scene", "spots", "at", "cell"] (defScope (topS 36)) := ⟨rfl, rfl, rfl, by decide +kernel, rfl, by decide +kernel, by decide +kernel⟩
theorem ck__law_picture : chkSs n__law_picture [] (defScope (topS 36)) c__law_picture (defBody (topS 36)) = true := by decide +kernel
theorem sc__law_told_pixel : FnScope n__law_told_pixel ["one"] (defScope (topS 37)) := ⟨rfl, rfl, rfl, by decide +kernel, rfl, by decide +kernel, by decide +kernel⟩
theorem ck__law_told_pixel : chkSs n__law_told_pixel [] (defScope (topS 37)) c__law_told_pixel (defBody (topS 37)) = true := by decide +kernel
theorem sc__law_shown : FnScope n__law_shown ["scene", "spots", "cell"] (defScope (topS 38)) := ⟨rfl, rfl, rfl, by decide +kernel, rfl, by decide +kernel, by decide +kernel⟩
theorem ck__law_shown : chkSs n__law_shown [] (defScope (topS 38)) c__law_shown (defBody (topS 38)) = true := by decide +kernel
theorem sc__law_right : FnScope n__law_right ["scene"] (defScope (topS 39)) := ⟨rfl, rfl, rfl, by decide +kernel, rfl, by decide +kernel, by decide +kernel⟩
theorem ck__law_right : chkSs n__law_right [] (defScope (topS 39)) c__law_right (defBody (topS 39)) = true := by decide +kernel
theorem sc_law : FnScope n_law ["script"] (defScope (topS 40)) := ⟨rfl, rfl, rfl, by decide +kernel, rfl, by decide +kernel, by decide +kernel⟩
theorem ck_law : chkSs n_law [] (defScope (topS 40)) c_law (defBody (topS 40)).tail = true := by decide +kernel
end Fc

namespace Fc
open PySem PySem.Spec PyProof.Rows L2 IL
theorem kit_of {K : PySem.W.Frag} {C : Addr} {t : String} (h : PySem.W.subIn K (.ref C) (.type t) = some false) (hm : PySem.W.kitMeta t = true) : PySem.W.kitOne K (.ref C) (.type t) = some false := by
  have e : ((.ref C : Value) == .type t) = false := rfl
  unfold PySem.W.kitOne PySem.W.kitCls
  rw [e]
  simp [hm, h]
def g_NOTHING : D := .tuple [.tuple [.int 0, .int 1], .tuple [.int 0, .int 1]]
def g_WHOLE : D := .tuple [.int 1, .int 1]
def g_ZERO : D := .tuple [.int 0, .int 1]
structure Facts (K : PySem.W.Frag) (mg : Str → Option Value) (C_Boughs : Addr) : Prop where
  blt : ∀ x ∈ bltNames, mg x = none
  n_Boughs_by_name : NoAttr K C_Boughs "by_name"
  n_Boughs_beneath : NoAttr K C_Boughs "beneath"
  n_Boughs_corners : NoAttr K C_Boughs "corners"
  n_Boughs_chains : NoAttr K C_Boughs "chains"
  f_common_divisor : Df K mg "common_divisor" (topS 2) n_common_divisor ["one", "other"]
  f_ratio : Df K mg "ratio" (topS 3) n_ratio ["a", "b"]
  f_added : Df K mg "added" (topS 4) n_added ["one", "other"]
  f_less : Df K mg "less" (topS 5) n_less ["one", "other"]
  f_times : Df K mg "times" (topS 6) n_times ["one", "other"]
  f_laid_on : Df K mg "laid_on" (topS 10) n_laid_on ["one", "other"]
  f_faded : Df K mg "faded" (topS 11) n_faded ["pixel", "opacity"]
  f_has_cell : Df K mg "has_cell" (topS 13) n_has_cell ["region", "cell"]
  f_rectangle_region : Df K mg "rectangle_region" (topS 14) n_rectangle_region ["rectangle"]
  f_Boughs___init__ : DfC K mg "Boughs" "Boughs.__init__" C_Boughs (inClass (topS 17) 0) n_Boughs___init__ ["self", "scene"]
  f_Boughs_is_out : DfM K C_Boughs "is_out" "Boughs.is_out" (inClass (topS 17) 1) n_Boughs_is_out ["self", "name", "cell"] (fun _ => [])
  f_Boughs_own_pixel : DfM K C_Boughs "own_pixel" "Boughs.own_pixel" (inClass (topS 17) 2) n_Boughs_own_pixel ["self", "name", "cell"] (fun _ => [])
  f_screen_rows : Df K mg "screen_rows" (topS 18) n_screen_rows ["scene"]
  f_picture_at : Df K mg "picture_at" (topS 20) n_picture_at ["boughs", "name", "cell"]
  f_shown_at : Df K mg "shown_at" (topS 21) n_shown_at ["scene", "boughs", "cell"]
  f_shows : Df K mg "shows" (topS 22) n_shows ["scene", "cell"]
  f_plain_painting : Df K mg "plain_painting" (topS 23) n_plain_painting ["scene"]
  f__law_feed : Df K mg "_law_feed" (topS 25) ["script"] ["script"]
  f__law_draw : Df K mg "_law_draw" (topS 26) n__law_draw ["feed", "many"]
  f__law_frac : Df K mg "_law_frac" (topS 27) n__law_frac ["top", "bottom"]
  f__law_point : Df K mg "_law_point" (topS 28) n__law_point ["feed"]
  f__law_content : Df K mg "_law_content" (topS 29) n__law_content ["feed", "wide", "tall"]
  f__law_node : Df K mg "_law_node" (topS 30) n__law_node ["feed", "name", "parent", "wide"]
  f__law_scene : Df K mg "_law_scene" (topS 31) n__law_scene ["feed", "most", "wide"]
  f__law_corners : Df K mg "_law_corners" (topS 32) n__law_corners ["scene"]
  f__law_out : Df K mg "_law_out" (topS 33) n__law_out ["node", "corner_of", "cell"]
  f__law_own : Df K mg "_law_own" (topS 34) n__law_own ["node", "corner_of", "cell"]
  f__law_lay : Df K mg "_law_lay" (topS 35) n__law_lay ["one", "other"]
  f__law_picture : Df K mg "_law_picture" (topS 36) n__law_picture ["scene", "spots", "at", "cell"]
  f__law_told_pixel : Df K mg "_law_told_pixel" (topS 37) n__law_told_pixel ["one"]
  f__law_shown : Df K mg "_law_shown" (topS 38) n__law_shown ["scene", "spots", "cell"]
  f__law_right : Df K mg "_law_right" (topS 39) n__law_right ["scene"]
  f_law : ∃ f fd, Fun K "law" "law" (topS 40) f fd ∧ mg "law" = some (.ref f) ∧ ∀ (s : Shared) (u : Value), BindsTo s fd ⟨[u], []⟩ [("script", u)]
  g_NOTHING : ∃ v u, mg "NOTHING" = some u ∧ RelV v u ∧ ∀ J H, RD K J H v g_NOTHING
  g_WHOLE : ∃ v u, mg "WHOLE" = some u ∧ RelV v u ∧ ∀ J H, RD K J H v g_WHOLE
  g_ZERO : ∃ v u, mg "ZERO" = some u ∧ RelV v u ∧ ∀ J H, RD K J H v g_ZERO
theorem facts_mk {K : PySem.W.Frag} {h : Heap} {mg : Str → Option Value} (X : K.In h) (G : h.Ns mainGlobals mg)
  {C_Boughs : Addr}
  {p_Boughs___init__ : Addr} {od_Boughs___init__ an_Boughs___init__ : Option Addr} {sl_Boughs___init__ : Array (Option Value)} {oc_Boughs___init__ kV_Boughs___init__ dc_Boughs___init__ pm_Boughs___init__ cd_Boughs___init__ ct_Boughs___init__ : Value}
  {p_Boughs_is_out : Addr} {od_Boughs_is_out an_Boughs_is_out : Option Addr} {sl_Boughs_is_out : Array (Option Value)} {oc_Boughs_is_out kV_Boughs_is_out dc_Boughs_is_out pm_Boughs_is_out cd_Boughs_is_out ct_Boughs_is_out : Value}
  {p_Boughs_own_pixel : Addr} {od_Boughs_own_pixel an_Boughs_own_pixel : Option Addr} {sl_Boughs_own_pixel : Array (Option Value)} {oc_Boughs_own_pixel kV_Boughs_own_pixel dc_Boughs_own_pixel pm_Boughs_own_pixel cd_Boughs_own_pixel ct_Boughs_own_pixel : Value}
  {p_common_divisor : Addr} {od_common_divisor an_common_divisor : Option Addr} {sl_common_divisor : Array (Option Value)} {oc_common_divisor kV_common_divisor dc_common_divisor pm_common_divisor cd_common_divisor ct_common_divisor : Value}
  {p_ratio : Addr} {od_ratio an_ratio : Option Addr} {sl_ratio : Array (Option Value)} {oc_ratio kV_ratio dc_ratio pm_ratio cd_ratio ct_ratio : Value}
  {p_added : Addr} {od_added an_added : Option Addr} {sl_added : Array (Option Value)} {oc_added kV_added dc_added pm_added cd_added ct_added : Value}
  {p_less : Addr} {od_less an_less : Option Addr} {sl_less : Array (Option Value)} {oc_less kV_less dc_less pm_less cd_less ct_less : Value}
  {p_times : Addr} {od_times an_times : Option Addr} {sl_times : Array (Option Value)} {oc_times kV_times dc_times pm_times cd_times ct_times : Value}
  {p_laid_on : Addr} {od_laid_on an_laid_on : Option Addr} {sl_laid_on : Array (Option Value)} {oc_laid_on kV_laid_on dc_laid_on pm_laid_on cd_laid_on ct_laid_on : Value}
  {p_faded : Addr} {od_faded an_faded : Option Addr} {sl_faded : Array (Option Value)} {oc_faded kV_faded dc_faded pm_faded cd_faded ct_faded : Value}
  {p_has_cell : Addr} {od_has_cell an_has_cell : Option Addr} {sl_has_cell : Array (Option Value)} {oc_has_cell kV_has_cell dc_has_cell pm_has_cell cd_has_cell ct_has_cell : Value}
  {p_rectangle_region : Addr} {od_rectangle_region an_rectangle_region : Option Addr} {sl_rectangle_region : Array (Option Value)} {oc_rectangle_region kV_rectangle_region dc_rectangle_region pm_rectangle_region cd_rectangle_region ct_rectangle_region : Value}
  {p_screen_rows : Addr} {od_screen_rows an_screen_rows : Option Addr} {sl_screen_rows : Array (Option Value)} {oc_screen_rows kV_screen_rows dc_screen_rows pm_screen_rows cd_screen_rows ct_screen_rows : Value}
  {p_picture_at : Addr} {od_picture_at an_picture_at : Option Addr} {sl_picture_at : Array (Option Value)} {oc_picture_at kV_picture_at dc_picture_at pm_picture_at cd_picture_at ct_picture_at : Value}
  {p_shown_at : Addr} {od_shown_at an_shown_at : Option Addr} {sl_shown_at : Array (Option Value)} {oc_shown_at kV_shown_at dc_shown_at pm_shown_at cd_shown_at ct_shown_at : Value}
  {p_shows : Addr} {od_shows an_shows : Option Addr} {sl_shows : Array (Option Value)} {oc_shows kV_shows dc_shows pm_shows cd_shows ct_shows : Value}
  {p_plain_painting : Addr} {od_plain_painting an_plain_painting : Option Addr} {sl_plain_painting : Array (Option Value)} {oc_plain_painting kV_plain_painting dc_plain_painting pm_plain_painting cd_plain_painting ct_plain_painting : Value}
  {p__law_feed : Addr} {od__law_feed an__law_feed : Option Addr} {sl__law_feed : Array (Option Value)} {oc__law_feed kV__law_feed dc__law_feed pm__law_feed cd__law_feed ct__law_feed : Value}
  {p__law_draw : Addr} {od__law_draw an__law_draw : Option Addr} {sl__law_draw : Array (Option Value)} {oc__law_draw kV__law_draw dc__law_draw pm__law_draw cd__law_draw ct__law_draw : Value}
  {p__law_frac : Addr} {od__law_frac an__law_frac : Option Addr} {sl__law_frac : Array (Option Value)} {oc__law_frac kV__law_frac dc__law_frac pm__law_frac cd__law_frac ct__law_frac : Value}
  {p__law_point : Addr} {od__law_point an__law_point : Option Addr} {sl__law_point : Array (Option Value)} {oc__law_point kV__law_point dc__law_point pm__law_point cd__law_point ct__law_point : Value}
  {p__law_content : Addr} {od__law_content an__law_content : Option Addr} {sl__law_content : Array (Option Value)} {oc__law_content kV__law_content dc__law_content pm__law_content cd__law_content ct__law_content : Value}
  {p__law_node : Addr} {od__law_node an__law_node : Option Addr} {sl__law_node : Array (Option Value)} {oc__law_node kV__law_node dc__law_node pm__law_node cd__law_node ct__law_node : Value}
  {p__law_scene : Addr} {od__law_scene an__law_scene : Option Addr} {sl__law_scene : Array (Option Value)} {oc__law_scene kV__law_scene dc__law_scene pm__law_scene cd__law_scene ct__law_scene : Value}
  {p__law_corners : Addr} {od__law_corners an__law_corners : Option Addr} {sl__law_corners : Array (Option Value)} {oc__law_corners kV__law_corners dc__law_corners pm__law_corners cd__law_corners ct__law_corners : Value}
  {p__law_out : Addr} {od__law_out an__law_out : Option Addr} {sl__law_out : Array (Option Value)} {oc__law_out kV__law_out dc__law_out pm__law_out cd__law_out ct__law_out : Value}
  {p__law_own : Addr} {od__law_own an__law_own : Option Addr} {sl__law_own : Array (Option Value)} {oc__law_own kV__law_own dc__law_own pm__law_own cd__law_own ct__law_own : Value}
  {p__law_lay : Addr} {od__law_lay an__law_lay : Option Addr} {sl__law_lay : Array (Option Value)} {oc__law_lay kV__law_lay dc__law_lay pm__law_lay cd__law_lay ct__law_lay : Value}
  {p__law_picture : Addr} {od__law_picture an__law_picture : Option Addr} {sl__law_picture : Array (Option Value)} {oc__law_picture kV__law_picture dc__law_picture pm__law_picture cd__law_picture ct__law_picture : Value}
  {p__law_told_pixel : Addr} {od__law_told_pixel an__law_told_pixel : Option Addr} {sl__law_told_pixel : Array (Option Value)} {oc__law_told_pixel kV__law_told_pixel dc__law_told_pixel pm__law_told_pixel cd__law_told_pixel ct__law_told_pixel : Value}
  {p__law_shown : Addr} {od__law_shown an__law_shown : Option Addr} {sl__law_shown : Array (Option Value)} {oc__law_shown kV__law_shown dc__law_shown pm__law_shown cd__law_shown ct__law_shown : Value}
  {p__law_right : Addr} {od__law_right an__law_right : Option Addr} {sl__law_right : Array (Option Value)} {oc__law_right kV__law_right dc__law_right pm__law_right cd__law_right ct__law_right : Value}
  {p_law : Addr} {od_law an_law : Option Addr} {sl_law : Array (Option Value)} {oc_law kV_law dc_law pm_law cd_law ct_law : Value}
  {q_NOTHING_0 : Addr}
  {q_NOTHING_1 : Addr}
  {t_NOTHING_2 : Tok}
  {t_NOTHING_3 : Tok}
  {q_NOTHING_4 : Addr}
  {t_NOTHING_5 : Tok}
  {t_NOTHING_6 : Tok}
  {d_q_NOTHING_0 : Option Addr} {n_q_NOTHING_0 : Nat} {s_q_NOTHING_0 : Array (Option Value)}
  {d_q_NOTHING_1 : Option Addr} {n_q_NOTHING_1 : Nat} {s_q_NOTHING_1 : Array (Option Value)}
  {d_q_NOTHING_4 : Option Addr} {n_q_NOTHING_4 : Nat} {s_q_NOTHING_4 : Array (Option Value)}
  {q_WHOLE_0 : Addr}
  {t_WHOLE_1 : Tok}
  {t_WHOLE_2 : Tok}
  {d_q_WHOLE_0 : Option Addr} {n_q_WHOLE_0 : Nat} {s_q_WHOLE_0 : Array (Option Value)}
  {q_ZERO_0 : Addr}
  {t_ZERO_1 : Tok}
  {t_ZERO_2 : Tok}
  {d_q_ZERO_0 : Option Addr} {n_q_ZERO_0 : Nat} {s_q_ZERO_0 : Array (Option Value)}
  (a_Boughs : PySem.W.nsIn K mainGlobals "Boughs" = some (some (.ref C_Boughs)))
  (pg_Boughs : PySem.W.plainGet K C_Boughs Str.empty = true)
  (hd_Boughs : PySem.W.hasDictIn K C_Boughs = true)
  (po_Boughs : PySem.W.plainOver K C_Boughs = true)
  (sa_Boughs : PySem.W.findIn K (.ref C_Boughs) "__setattr__" = some (some (.builtin "object.__setattr__")))
  (cc_Boughs : PySem.W.findIn K (.ref C_Boughs) "__class__" = some (some (.builtin "object.__class__")))
  (gc_Boughs : PySem.W.specialIn K (.builtin "object.__class__") "__get__" = some (some (.builtin "getset_descriptor.__get__")))
  (tk_Boughs : PySem.W.takesIn K (.builtin "object.__class__") = some true)
  (mr_Boughs : PySem.W.mroIn K C_Boughs (.type "object") = some true)
  (noint_Boughs : PySem.W.subIn K (.ref C_Boughs) (.type "int") = some false)
  (nobool_Boughs : PySem.W.subIn K (.ref C_Boughs) (.type "bool") = some false)
  (nostr_Boughs : PySem.W.subIn K (.ref C_Boughs) (.type "str") = some false)
  (nolist_Boughs : PySem.W.subIn K (.ref C_Boughs) (.type "list") = some false)
  (notuple_Boughs : PySem.W.subIn K (.ref C_Boughs) (.type "tuple") = some false)
  (nodict_Boughs : PySem.W.subIn K (.ref C_Boughs) (.type "dict") = some false)
  (mk_Boughs : PySem.W.makesIn K C_Boughs = true)
  (kc_Boughs : PySem.W.keepIn K (.ref C_Boughs) = true)
  (nby_name_Boughs : PySem.W.findIn K (.ref C_Boughs) "by_name" = some none)
  (nbeneath_Boughs : PySem.W.findIn K (.ref C_Boughs) "beneath" = some none)
  (ncorners_Boughs : PySem.W.findIn K (.ref C_Boughs) "corners" = some none)
  (nchains_Boughs : PySem.W.findIn K (.ref C_Boughs) "chains" = some none)
  (a_Boughs___init__ : PySem.W.findIn K (.ref C_Boughs) "__init__" = some (some (.ref p_Boughs___init__)))
  (i_Boughs___init__ : PySem.W.isFn K (.ref p_Boughs___init__) = true)
  (l_Boughs___init__ : K.lookup p_Boughs___init__ = some ⟨oc_Boughs___init__, od_Boughs___init__, .func (PySem.W.fnOf "__init__" "Boughs.__init__" (defArgs (inClass (topS 17) 0)) (defBody (inClass (topS 17) 0)) (defScope (inClass (topS 17) 0)) .none kV_Boughs___init__ dc_Boughs___init__ pm_Boughs___init__ an_Boughs___init__ cd_Boughs___init__ ct_Boughs___init__), sl_Boughs___init__⟩)
  (c_Boughs___init__ : PySem.W.codeIn K cd_Boughs___init__ "Boughs.__init__" = true)
  (k_Boughs___init__ : PySem.W.keepIn K (.ref p_Boughs___init__) = true)
  (a_Boughs_is_out : PySem.W.findIn K (.ref C_Boughs) "is_out" = some (some (.ref p_Boughs_is_out)))
  (i_Boughs_is_out : PySem.W.isFn K (.ref p_Boughs_is_out) = true)
  (l_Boughs_is_out : K.lookup p_Boughs_is_out = some ⟨oc_Boughs_is_out, od_Boughs_is_out, .func (PySem.W.fnOf "is_out" "Boughs.is_out" (defArgs (inClass (topS 17) 1)) (defBody (inClass (topS 17) 1)) (defScope (inClass (topS 17) 1)) .none kV_Boughs_is_out dc_Boughs_is_out pm_Boughs_is_out an_Boughs_is_out cd_Boughs_is_out ct_Boughs_is_out), sl_Boughs_is_out⟩)
  (c_Boughs_is_out : PySem.W.codeIn K cd_Boughs_is_out "Boughs.is_out" = true)
  (k_Boughs_is_out : PySem.W.keepIn K (.ref p_Boughs_is_out) = true)
  (a_Boughs_own_pixel : PySem.W.findIn K (.ref C_Boughs) "own_pixel" = some (some (.ref p_Boughs_own_pixel)))
  (i_Boughs_own_pixel : PySem.W.isFn K (.ref p_Boughs_own_pixel) = true)
  (l_Boughs_own_pixel : K.lookup p_Boughs_own_pixel = some ⟨oc_Boughs_own_pixel, od_Boughs_own_pixel, .func (PySem.W.fnOf "own_pixel" "Boughs.own_pixel" (defArgs (inClass (topS 17) 2)) (defBody (inClass (topS 17) 2)) (defScope (inClass (topS 17) 2)) .none kV_Boughs_own_pixel dc_Boughs_own_pixel pm_Boughs_own_pixel an_Boughs_own_pixel cd_Boughs_own_pixel ct_Boughs_own_pixel), sl_Boughs_own_pixel⟩)
  (c_Boughs_own_pixel : PySem.W.codeIn K cd_Boughs_own_pixel "Boughs.own_pixel" = true)
  (k_Boughs_own_pixel : PySem.W.keepIn K (.ref p_Boughs_own_pixel) = true)
  (a_common_divisor : PySem.W.nsIn K mainGlobals "common_divisor" = some (some (.ref p_common_divisor)))
  (l_common_divisor : K.lookup p_common_divisor = some ⟨oc_common_divisor, od_common_divisor, .func (PySem.W.fnOf "common_divisor" "common_divisor" (defArgs (topS 2)) (defBody (topS 2)) (defScope (topS 2)) .none kV_common_divisor dc_common_divisor pm_common_divisor an_common_divisor cd_common_divisor ct_common_divisor), sl_common_divisor⟩)
  (c_common_divisor : PySem.W.codeIn K cd_common_divisor "common_divisor" = true)
  (k_common_divisor : PySem.W.keepIn K (.ref p_common_divisor) = true)
  (a_ratio : PySem.W.nsIn K mainGlobals "ratio" = some (some (.ref p_ratio)))
  (l_ratio : K.lookup p_ratio = some ⟨oc_ratio, od_ratio, .func (PySem.W.fnOf "ratio" "ratio" (defArgs (topS 3)) (defBody (topS 3)) (defScope (topS 3)) .none kV_ratio dc_ratio pm_ratio an_ratio cd_ratio ct_ratio), sl_ratio⟩)
  (c_ratio : PySem.W.codeIn K cd_ratio "ratio" = true)
  (k_ratio : PySem.W.keepIn K (.ref p_ratio) = true)
  (a_added : PySem.W.nsIn K mainGlobals "added" = some (some (.ref p_added)))
  (l_added : K.lookup p_added = some ⟨oc_added, od_added, .func (PySem.W.fnOf "added" "added" (defArgs (topS 4)) (defBody (topS 4)) (defScope (topS 4)) .none kV_added dc_added pm_added an_added cd_added ct_added), sl_added⟩)
  (c_added : PySem.W.codeIn K cd_added "added" = true)
  (k_added : PySem.W.keepIn K (.ref p_added) = true)
  (a_less : PySem.W.nsIn K mainGlobals "less" = some (some (.ref p_less)))
  (l_less : K.lookup p_less = some ⟨oc_less, od_less, .func (PySem.W.fnOf "less" "less" (defArgs (topS 5)) (defBody (topS 5)) (defScope (topS 5)) .none kV_less dc_less pm_less an_less cd_less ct_less), sl_less⟩)
  (c_less : PySem.W.codeIn K cd_less "less" = true)
  (k_less : PySem.W.keepIn K (.ref p_less) = true)
  (a_times : PySem.W.nsIn K mainGlobals "times" = some (some (.ref p_times)))
  (l_times : K.lookup p_times = some ⟨oc_times, od_times, .func (PySem.W.fnOf "times" "times" (defArgs (topS 6)) (defBody (topS 6)) (defScope (topS 6)) .none kV_times dc_times pm_times an_times cd_times ct_times), sl_times⟩)
  (c_times : PySem.W.codeIn K cd_times "times" = true)
  (k_times : PySem.W.keepIn K (.ref p_times) = true)
  (a_laid_on : PySem.W.nsIn K mainGlobals "laid_on" = some (some (.ref p_laid_on)))
  (l_laid_on : K.lookup p_laid_on = some ⟨oc_laid_on, od_laid_on, .func (PySem.W.fnOf "laid_on" "laid_on" (defArgs (topS 10)) (defBody (topS 10)) (defScope (topS 10)) .none kV_laid_on dc_laid_on pm_laid_on an_laid_on cd_laid_on ct_laid_on), sl_laid_on⟩)
  (c_laid_on : PySem.W.codeIn K cd_laid_on "laid_on" = true)
  (k_laid_on : PySem.W.keepIn K (.ref p_laid_on) = true)
  (a_faded : PySem.W.nsIn K mainGlobals "faded" = some (some (.ref p_faded)))
  (l_faded : K.lookup p_faded = some ⟨oc_faded, od_faded, .func (PySem.W.fnOf "faded" "faded" (defArgs (topS 11)) (defBody (topS 11)) (defScope (topS 11)) .none kV_faded dc_faded pm_faded an_faded cd_faded ct_faded), sl_faded⟩)
  (c_faded : PySem.W.codeIn K cd_faded "faded" = true)
  (k_faded : PySem.W.keepIn K (.ref p_faded) = true)
  (a_has_cell : PySem.W.nsIn K mainGlobals "has_cell" = some (some (.ref p_has_cell)))
  (l_has_cell : K.lookup p_has_cell = some ⟨oc_has_cell, od_has_cell, .func (PySem.W.fnOf "has_cell" "has_cell" (defArgs (topS 13)) (defBody (topS 13)) (defScope (topS 13)) .none kV_has_cell dc_has_cell pm_has_cell an_has_cell cd_has_cell ct_has_cell), sl_has_cell⟩)
  (c_has_cell : PySem.W.codeIn K cd_has_cell "has_cell" = true)
  (k_has_cell : PySem.W.keepIn K (.ref p_has_cell) = true)
  (a_rectangle_region : PySem.W.nsIn K mainGlobals "rectangle_region" = some (some (.ref p_rectangle_region)))
  (l_rectangle_region : K.lookup p_rectangle_region = some ⟨oc_rectangle_region, od_rectangle_region, .func (PySem.W.fnOf "rectangle_region" "rectangle_region" (defArgs (topS 14)) (defBody (topS 14)) (defScope (topS 14)) .none kV_rectangle_region dc_rectangle_region pm_rectangle_region an_rectangle_region cd_rectangle_region ct_rectangle_region), sl_rectangle_region⟩)
  (c_rectangle_region : PySem.W.codeIn K cd_rectangle_region "rectangle_region" = true)
  (k_rectangle_region : PySem.W.keepIn K (.ref p_rectangle_region) = true)
  (a_screen_rows : PySem.W.nsIn K mainGlobals "screen_rows" = some (some (.ref p_screen_rows)))
  (l_screen_rows : K.lookup p_screen_rows = some ⟨oc_screen_rows, od_screen_rows, .func (PySem.W.fnOf "screen_rows" "screen_rows" (defArgs (topS 18)) (defBody (topS 18)) (defScope (topS 18)) .none kV_screen_rows dc_screen_rows pm_screen_rows an_screen_rows cd_screen_rows ct_screen_rows), sl_screen_rows⟩)
  (c_screen_rows : PySem.W.codeIn K cd_screen_rows "screen_rows" = true)
  (k_screen_rows : PySem.W.keepIn K (.ref p_screen_rows) = true)
  (a_picture_at : PySem.W.nsIn K mainGlobals "picture_at" = some (some (.ref p_picture_at)))
  (l_picture_at : K.lookup p_picture_at = some ⟨oc_picture_at, od_picture_at, .func (PySem.W.fnOf "picture_at" "picture_at" (defArgs (topS 20)) (defBody (topS 20)) (defScope (topS 20)) .none kV_picture_at dc_picture_at pm_picture_at an_picture_at cd_picture_at ct_picture_at), sl_picture_at⟩)
  (c_picture_at : PySem.W.codeIn K cd_picture_at "picture_at" = true)
  (k_picture_at : PySem.W.keepIn K (.ref p_picture_at) = true)
  (a_shown_at : PySem.W.nsIn K mainGlobals "shown_at" = some (some (.ref p_shown_at)))
  (l_shown_at : K.lookup p_shown_at = some ⟨oc_shown_at, od_shown_at, .func (PySem.W.fnOf "shown_at" "shown_at" (defArgs (topS 21)) (defBody (topS 21)) (defScope (topS 21)) .none kV_shown_at dc_shown_at pm_shown_at an_shown_at cd_shown_at ct_shown_at), sl_shown_at⟩)
  (c_shown_at : PySem.W.codeIn K cd_shown_at "shown_at" = true)
  (k_shown_at : PySem.W.keepIn K (.ref p_shown_at) = true)
  (a_shows : PySem.W.nsIn K mainGlobals "shows" = some (some (.ref p_shows)))
  (l_shows : K.lookup p_shows = some ⟨oc_shows, od_shows, .func (PySem.W.fnOf "shows" "shows" (defArgs (topS 22)) (defBody (topS 22)) (defScope (topS 22)) .none kV_shows dc_shows pm_shows an_shows cd_shows ct_shows), sl_shows⟩)
  (c_shows : PySem.W.codeIn K cd_shows "shows" = true)
  (k_shows : PySem.W.keepIn K (.ref p_shows) = true)
  (a_plain_painting : PySem.W.nsIn K mainGlobals "plain_painting" = some (some (.ref p_plain_painting)))
  (l_plain_painting : K.lookup p_plain_painting = some ⟨oc_plain_painting, od_plain_painting, .func (PySem.W.fnOf "plain_painting" "plain_painting" (defArgs (topS 23)) (defBody (topS 23)) (defScope (topS 23)) .none kV_plain_painting dc_plain_painting pm_plain_painting an_plain_painting cd_plain_painting ct_plain_painting), sl_plain_painting⟩)
  (c_plain_painting : PySem.W.codeIn K cd_plain_painting "plain_painting" = true)
  (k_plain_painting : PySem.W.keepIn K (.ref p_plain_painting) = true)
  (a__law_feed : PySem.W.nsIn K mainGlobals "_law_feed" = some (some (.ref p__law_feed)))
  (l__law_feed : K.lookup p__law_feed = some ⟨oc__law_feed, od__law_feed, .func (PySem.W.fnOf "_law_feed" "_law_feed" (defArgs (topS 25)) (defBody (topS 25)) (defScope (topS 25)) .none kV__law_feed dc__law_feed pm__law_feed an__law_feed cd__law_feed ct__law_feed), sl__law_feed⟩)
  (c__law_feed : PySem.W.codeIn K cd__law_feed "_law_feed" = true)
  (k__law_feed : PySem.W.keepIn K (.ref p__law_feed) = true)
  (a__law_draw : PySem.W.nsIn K mainGlobals "_law_draw" = some (some (.ref p__law_draw)))
  (l__law_draw : K.lookup p__law_draw = some ⟨oc__law_draw, od__law_draw, .func (PySem.W.fnOf "_law_draw" "_law_draw" (defArgs (topS 26)) (defBody (topS 26)) (defScope (topS 26)) .none kV__law_draw dc__law_draw pm__law_draw an__law_draw cd__law_draw ct__law_draw), sl__law_draw⟩)
  (c__law_draw : PySem.W.codeIn K cd__law_draw "_law_draw" = true)
  (k__law_draw : PySem.W.keepIn K (.ref p__law_draw) = true)
  (a__law_frac : PySem.W.nsIn K mainGlobals "_law_frac" = some (some (.ref p__law_frac)))
  (l__law_frac : K.lookup p__law_frac = some ⟨oc__law_frac, od__law_frac, .func (PySem.W.fnOf "_law_frac" "_law_frac" (defArgs (topS 27)) (defBody (topS 27)) (defScope (topS 27)) .none kV__law_frac dc__law_frac pm__law_frac an__law_frac cd__law_frac ct__law_frac), sl__law_frac⟩)
  (c__law_frac : PySem.W.codeIn K cd__law_frac "_law_frac" = true)
  (k__law_frac : PySem.W.keepIn K (.ref p__law_frac) = true)
  (a__law_point : PySem.W.nsIn K mainGlobals "_law_point" = some (some (.ref p__law_point)))
  (l__law_point : K.lookup p__law_point = some ⟨oc__law_point, od__law_point, .func (PySem.W.fnOf "_law_point" "_law_point" (defArgs (topS 28)) (defBody (topS 28)) (defScope (topS 28)) .none kV__law_point dc__law_point pm__law_point an__law_point cd__law_point ct__law_point), sl__law_point⟩)
  (c__law_point : PySem.W.codeIn K cd__law_point "_law_point" = true)
  (k__law_point : PySem.W.keepIn K (.ref p__law_point) = true)
  (a__law_content : PySem.W.nsIn K mainGlobals "_law_content" = some (some (.ref p__law_content)))
  (l__law_content : K.lookup p__law_content = some ⟨oc__law_content, od__law_content, .func (PySem.W.fnOf "_law_content" "_law_content" (defArgs (topS 29)) (defBody (topS 29)) (defScope (topS 29)) .none kV__law_content dc__law_content pm__law_content an__law_content cd__law_content ct__law_content), sl__law_content⟩)
  (c__law_content : PySem.W.codeIn K cd__law_content "_law_content" = true)
  (k__law_content : PySem.W.keepIn K (.ref p__law_content) = true)
  (a__law_node : PySem.W.nsIn K mainGlobals "_law_node" = some (some (.ref p__law_node)))
  (l__law_node : K.lookup p__law_node = some ⟨oc__law_node, od__law_node, .func (PySem.W.fnOf "_law_node" "_law_node" (defArgs (topS 30)) (defBody (topS 30)) (defScope (topS 30)) .none kV__law_node dc__law_node pm__law_node an__law_node cd__law_node ct__law_node), sl__law_node⟩)
  (c__law_node : PySem.W.codeIn K cd__law_node "_law_node" = true)
  (k__law_node : PySem.W.keepIn K (.ref p__law_node) = true)
  (a__law_scene : PySem.W.nsIn K mainGlobals "_law_scene" = some (some (.ref p__law_scene)))
  (l__law_scene : K.lookup p__law_scene = some ⟨oc__law_scene, od__law_scene, .func (PySem.W.fnOf "_law_scene" "_law_scene" (defArgs (topS 31)) (defBody (topS 31)) (defScope (topS 31)) .none kV__law_scene dc__law_scene pm__law_scene an__law_scene cd__law_scene ct__law_scene), sl__law_scene⟩)
  (c__law_scene : PySem.W.codeIn K cd__law_scene "_law_scene" = true)
  (k__law_scene : PySem.W.keepIn K (.ref p__law_scene) = true)
  (a__law_corners : PySem.W.nsIn K mainGlobals "_law_corners" = some (some (.ref p__law_corners)))
  (l__law_corners : K.lookup p__law_corners = some ⟨oc__law_corners, od__law_corners, .func (PySem.W.fnOf "_law_corners" "_law_corners" (defArgs (topS 32)) (defBody (topS 32)) (defScope (topS 32)) .none kV__law_corners dc__law_corners pm__law_corners an__law_corners cd__law_corners ct__law_corners), sl__law_corners⟩)
  (c__law_corners : PySem.W.codeIn K cd__law_corners "_law_corners" = true)
  (k__law_corners : PySem.W.keepIn K (.ref p__law_corners) = true)
  (a__law_out : PySem.W.nsIn K mainGlobals "_law_out" = some (some (.ref p__law_out)))
  (l__law_out : K.lookup p__law_out = some ⟨oc__law_out, od__law_out, .func (PySem.W.fnOf "_law_out" "_law_out" (defArgs (topS 33)) (defBody (topS 33)) (defScope (topS 33)) .none kV__law_out dc__law_out pm__law_out an__law_out cd__law_out ct__law_out), sl__law_out⟩)
  (c__law_out : PySem.W.codeIn K cd__law_out "_law_out" = true)
  (k__law_out : PySem.W.keepIn K (.ref p__law_out) = true)
  (a__law_own : PySem.W.nsIn K mainGlobals "_law_own" = some (some (.ref p__law_own)))
  (l__law_own : K.lookup p__law_own = some ⟨oc__law_own, od__law_own, .func (PySem.W.fnOf "_law_own" "_law_own" (defArgs (topS 34)) (defBody (topS 34)) (defScope (topS 34)) .none kV__law_own dc__law_own pm__law_own an__law_own cd__law_own ct__law_own), sl__law_own⟩)
  (c__law_own : PySem.W.codeIn K cd__law_own "_law_own" = true)
  (k__law_own : PySem.W.keepIn K (.ref p__law_own) = true)
  (a__law_lay : PySem.W.nsIn K mainGlobals "_law_lay" = some (some (.ref p__law_lay)))
  (l__law_lay : K.lookup p__law_lay = some ⟨oc__law_lay, od__law_lay, .func (PySem.W.fnOf "_law_lay" "_law_lay" (defArgs (topS 35)) (defBody (topS 35)) (defScope (topS 35)) .none kV__law_lay dc__law_lay pm__law_lay an__law_lay cd__law_lay ct__law_lay), sl__law_lay⟩)
  (c__law_lay : PySem.W.codeIn K cd__law_lay "_law_lay" = true)
  (k__law_lay : PySem.W.keepIn K (.ref p__law_lay) = true)
  (a__law_picture : PySem.W.nsIn K mainGlobals "_law_picture" = some (some (.ref p__law_picture)))
  (l__law_picture : K.lookup p__law_picture = some ⟨oc__law_picture, od__law_picture, .func (PySem.W.fnOf "_law_picture" "_law_picture" (defArgs (topS 36)) (defBody (topS 36)) (defScope (topS 36)) .none kV__law_picture dc__law_picture pm__law_picture an__law_picture cd__law_picture ct__law_picture), sl__law_picture⟩)
  (c__law_picture : PySem.W.codeIn K cd__law_picture "_law_picture" = true)
  (k__law_picture : PySem.W.keepIn K (.ref p__law_picture) = true)
  (a__law_told_pixel : PySem.W.nsIn K mainGlobals "_law_told_pixel" = some (some (.ref p__law_told_pixel)))
  (l__law_told_pixel : K.lookup p__law_told_pixel = some ⟨oc__law_told_pixel, od__law_told_pixel, .func (PySem.W.fnOf "_law_told_pixel" "_law_told_pixel" (defArgs (topS 37)) (defBody (topS 37)) (defScope (topS 37)) .none kV__law_told_pixel dc__law_told_pixel pm__law_told_pixel an__law_told_pixel cd__law_told_pixel ct__law_told_pixel), sl__law_told_pixel⟩)
  (c__law_told_pixel : PySem.W.codeIn K cd__law_told_pixel "_law_told_pixel" = true)
  (k__law_told_pixel : PySem.W.keepIn K (.ref p__law_told_pixel) = true)
  (a__law_shown : PySem.W.nsIn K mainGlobals "_law_shown" = some (some (.ref p__law_shown)))
  (l__law_shown : K.lookup p__law_shown = some ⟨oc__law_shown, od__law_shown, .func (PySem.W.fnOf "_law_shown" "_law_shown" (defArgs (topS 38)) (defBody (topS 38)) (defScope (topS 38)) .none kV__law_shown dc__law_shown pm__law_shown an__law_shown cd__law_shown ct__law_shown), sl__law_shown⟩)
  (c__law_shown : PySem.W.codeIn K cd__law_shown "_law_shown" = true)
  (k__law_shown : PySem.W.keepIn K (.ref p__law_shown) = true)
  (a__law_right : PySem.W.nsIn K mainGlobals "_law_right" = some (some (.ref p__law_right)))
  (l__law_right : K.lookup p__law_right = some ⟨oc__law_right, od__law_right, .func (PySem.W.fnOf "_law_right" "_law_right" (defArgs (topS 39)) (defBody (topS 39)) (defScope (topS 39)) .none kV__law_right dc__law_right pm__law_right an__law_right cd__law_right ct__law_right), sl__law_right⟩)
  (c__law_right : PySem.W.codeIn K cd__law_right "_law_right" = true)
  (k__law_right : PySem.W.keepIn K (.ref p__law_right) = true)
  (a_law : PySem.W.nsIn K mainGlobals "law" = some (some (.ref p_law)))
  (l_law : K.lookup p_law = some ⟨oc_law, od_law, .func (PySem.W.fnOf "law" "law" (defArgs (topS 40)) (defBody (topS 40)) (defScope (topS 40)) .none kV_law dc_law pm_law an_law cd_law ct_law), sl_law⟩)
  (c_law : PySem.W.codeIn K cd_law "law" = true)
  (k_law : PySem.W.keepIn K (.ref p_law) = true)
  (b_NOTHING : PySem.W.nsIn K mainGlobals "NOTHING" = some (some (.ref q_NOTHING_0)))
  (L_q_NOTHING_0 : K.lookup q_NOTHING_0 = some ⟨.type "tuple", d_q_NOTHING_0, .seq ([(.ref q_NOTHING_1), (.ref q_NOTHING_4)] : List Value).toArray n_q_NOTHING_0, s_q_NOTHING_0⟩)
  (L_q_NOTHING_1 : K.lookup q_NOTHING_1 = some ⟨.type "tuple", d_q_NOTHING_1, .seq ([(.int 0 t_NOTHING_2), (.int 1 t_NOTHING_3)] : List Value).toArray n_q_NOTHING_1, s_q_NOTHING_1⟩)
  (L_q_NOTHING_4 : K.lookup q_NOTHING_4 = some ⟨.type "tuple", d_q_NOTHING_4, .seq ([(.int 0 t_NOTHING_5), (.int 1 t_NOTHING_6)] : List Value).toArray n_q_NOTHING_4, s_q_NOTHING_4⟩)
  (b_WHOLE : PySem.W.nsIn K mainGlobals "WHOLE" = some (some (.ref q_WHOLE_0)))
  (L_q_WHOLE_0 : K.lookup q_WHOLE_0 = some ⟨.type "tuple", d_q_WHOLE_0, .seq ([(.int 1 t_WHOLE_1), (.int 1 t_WHOLE_2)] : List Value).toArray n_q_WHOLE_0, s_q_WHOLE_0⟩)
  (b_ZERO : PySem.W.nsIn K mainGlobals "ZERO" = some (some (.ref q_ZERO_0)))
  (L_q_ZERO_0 : K.lookup q_ZERO_0 = some ⟨.type "tuple", d_q_ZERO_0, .seq ([(.int 0 t_ZERO_1), (.int 1 t_ZERO_2)] : List Value).toArray n_q_ZERO_0, s_q_ZERO_0⟩)
  (z_len : PySem.W.nsIn K mainGlobals "len" = some none)
  (z_abs : PySem.W.nsIn K mainGlobals "abs" = some none)
  (z_list : PySem.W.nsIn K mainGlobals "list" = some none)
  (z_tuple : PySem.W.nsIn K mainGlobals "tuple" = some none)
  (z_all : PySem.W.nsIn K mainGlobals "all" = some none)
  (z_any : PySem.W.nsIn K mainGlobals "any" = some none)
  (z_sum : PySem.W.nsIn K mainGlobals "sum" = some none)
  (z_max : PySem.W.nsIn K mainGlobals "max" = some none)
  (z_min : PySem.W.nsIn K mainGlobals "min" = some none)
  (z_repr : PySem.W.nsIn K mainGlobals "repr" = some none)
  (z_isinstance : PySem.W.nsIn K mainGlobals "isinstance" = some none)
  (z_int : PySem.W.nsIn K mainGlobals "int" = some none)
  (z_bool : PySem.W.nsIn K mainGlobals "bool" = some none)
  (z_str : PySem.W.nsIn K mainGlobals "str" = some none)
  (z_dict : PySem.W.nsIn K mainGlobals "dict" = some none)
  (z_range : PySem.W.nsIn K mainGlobals "range" = some none)
  (z_zip : PySem.W.nsIn K mainGlobals "zip" = some none)
  (z_enumerate : PySem.W.nsIn K mainGlobals "enumerate" = some none)
  (z_reversed : PySem.W.nsIn K mainGlobals "reversed" = some none)
  (z_sorted : PySem.W.nsIn K mainGlobals "sorted" = some none)
  (z_set : PySem.W.nsIn K mainGlobals "set" = some none) : Facts K mg C_Boughs where
  blt := fun x hx => by
    simp only [bltNames, List.mem_cons, List.not_mem_nil, or_false] at hx
    rcases hx with rfl | rfl | rfl | rfl | rfl | rfl | rfl | rfl | rfl | rfl | rfl | rfl | rfl | rfl | rfl | rfl | rfl | rfl | rfl | rfl | rfl
    · exact PySem.W.mg_none_of X G z_len
    · exact PySem.W.mg_none_of X G z_abs
    · exact PySem.W.mg_none_of X G z_list
    · exact PySem.W.mg_none_of X G z_tuple
    · exact PySem.W.mg_none_of X G z_all
    · exact PySem.W.mg_none_of X G z_any
    · exact PySem.W.mg_none_of X G z_sum
    · exact PySem.W.mg_none_of X G z_max
    · exact PySem.W.mg_none_of X G z_min
    · exact PySem.W.mg_none_of X G z_repr
    · exact PySem.W.mg_none_of X G z_isinstance
    · exact PySem.W.mg_none_of X G z_int
    · exact PySem.W.mg_none_of X G z_bool
    · exact PySem.W.mg_none_of X G z_str
    · exact PySem.W.mg_none_of X G z_dict
    · exact PySem.W.mg_none_of X G z_range
    · exact PySem.W.mg_none_of X G z_zip
    · exact PySem.W.mg_none_of X G z_enumerate
    · exact PySem.W.mg_none_of X G z_reversed
    · exact PySem.W.mg_none_of X G z_sorted
    · exact PySem.W.mg_none_of X G z_set
  n_Boughs_by_name := nby_name_Boughs
  n_Boughs_beneath := nbeneath_Boughs
  n_Boughs_corners := ncorners_Boughs
  n_Boughs_chains := nchains_Boughs
  f_Boughs___init__ := ⟨⟨_, _, .of (fun_mk l_Boughs___init__ c_Boughs___init__ k_Boughs___init__), ⟨mk_Boughs, a_Boughs___init__, i_Boughs___init__, kc_Boughs⟩, (fun_mk l_Boughs___init__ c_Boughs___init__ k_Boughs___init__).binds fun _ _ _ _ _ _ us hl => match us, hl with | [_, _], _ => rfl⟩, ⟨⟨pg_Boughs, hd_Boughs, po_Boughs, sa_Boughs⟩, cc_Boughs, gc_Boughs, tk_Boughs, mr_Boughs, fun t ht => by
    simp only [List.mem_cons, List.not_mem_nil, or_false] at ht
    rcases ht with rfl | rfl | rfl | rfl | rfl | rfl
    all_goals exact kit_of (by assumption) (by decide +kernel)⟩, PySem.W.mg_of X G a_Boughs, sc_Boughs___init__⟩
  f_Boughs_is_out := ⟨⟨_, _, .of (fun_mk l_Boughs_is_out c_Boughs_is_out k_Boughs_is_out), ⟨a_Boughs_is_out, i_Boughs_is_out, k_Boughs_is_out⟩, fun n => ⟨[], [], (fun_mk l_Boughs_is_out c_Boughs_is_out k_Boughs_is_out).binds fun _ _ _ _ _ _ us hl => match us, hl with | [_, _, _], _ => rfl, .nil, fun _ _ => .nil⟩⟩, ⟨pg_Boughs, hd_Boughs, po_Boughs, sa_Boughs⟩, sc_Boughs_is_out⟩
  f_Boughs_own_pixel := ⟨⟨_, _, .of (fun_mk l_Boughs_own_pixel c_Boughs_own_pixel k_Boughs_own_pixel), ⟨a_Boughs_own_pixel, i_Boughs_own_pixel, k_Boughs_own_pixel⟩, fun n => ⟨[], [], (fun_mk l_Boughs_own_pixel c_Boughs_own_pixel k_Boughs_own_pixel).binds fun _ _ _ _ _ _ us hl => match us, hl with | [_, _, _], _ => rfl, .nil, fun _ _ => .nil⟩⟩, ⟨pg_Boughs, hd_Boughs, po_Boughs, sa_Boughs⟩, sc_Boughs_own_pixel⟩
  f_common_divisor := ⟨⟨_, _, fun_mk l_common_divisor c_common_divisor k_common_divisor, PySem.W.mg_of X G a_common_divisor, (fun_mk l_common_divisor c_common_divisor k_common_divisor).binds fun _ _ _ _ _ _ us hl => match us, hl with | [_, _], _ => rfl⟩, sc_common_divisor⟩
  f_ratio := ⟨⟨_, _, fun_mk l_ratio c_ratio k_ratio, PySem.W.mg_of X G a_ratio, (fun_mk l_ratio c_ratio k_ratio).binds fun _ _ _ _ _ _ us hl => match us, hl with | [_, _], _ => rfl⟩, sc_ratio⟩
  f_added := ⟨⟨_, _, fun_mk l_added c_added k_added, PySem.W.mg_of X G a_added, (fun_mk l_added c_added k_added).binds fun _ _ _ _ _ _ us hl => match us, hl with | [_, _], _ => rfl⟩, sc_added⟩
  f_less := ⟨⟨_, _, fun_mk l_less c_less k_less, PySem.W.mg_of X G a_less, (fun_mk l_less c_less k_less).binds fun _ _ _ _ _ _ us hl => match us, hl with | [_, _], _ => rfl⟩, sc_less⟩
  f_times := ⟨⟨_, _, fun_mk l_times c_times k_times, PySem.W.mg_of X G a_times, (fun_mk l_times c_times k_times).binds fun _ _ _ _ _ _ us hl => match us, hl with | [_, _], _ => rfl⟩, sc_times⟩
  f_laid_on := ⟨⟨_, _, fun_mk l_laid_on c_laid_on k_laid_on, PySem.W.mg_of X G a_laid_on, (fun_mk l_laid_on c_laid_on k_laid_on).binds fun _ _ _ _ _ _ us hl => match us, hl with | [_, _], _ => rfl⟩, sc_laid_on⟩
  f_faded := ⟨⟨_, _, fun_mk l_faded c_faded k_faded, PySem.W.mg_of X G a_faded, (fun_mk l_faded c_faded k_faded).binds fun _ _ _ _ _ _ us hl => match us, hl with | [_, _], _ => rfl⟩, sc_faded⟩
  f_has_cell := ⟨⟨_, _, fun_mk l_has_cell c_has_cell k_has_cell, PySem.W.mg_of X G a_has_cell, (fun_mk l_has_cell c_has_cell k_has_cell).binds fun _ _ _ _ _ _ us hl => match us, hl with | [_, _], _ => rfl⟩, sc_has_cell⟩
  f_rectangle_region := ⟨⟨_, _, fun_mk l_rectangle_region c_rectangle_region k_rectangle_region, PySem.W.mg_of X G a_rectangle_region, (fun_mk l_rectangle_region c_rectangle_region k_rectangle_region).binds fun _ _ _ _ _ _ us hl => match us, hl with | [_], _ => rfl⟩, sc_rectangle_region⟩
  f_screen_rows := ⟨⟨_, _, fun_mk l_screen_rows c_screen_rows k_screen_rows, PySem.W.mg_of X G a_screen_rows, (fun_mk l_screen_rows c_screen_rows k_screen_rows).binds fun _ _ _ _ _ _ us hl => match us, hl with | [_], _ => rfl⟩, sc_screen_rows⟩
  f_picture_at := ⟨⟨_, _, fun_mk l_picture_at c_picture_at k_picture_at, PySem.W.mg_of X G a_picture_at, (fun_mk l_picture_at c_picture_at k_picture_at).binds fun _ _ _ _ _ _ us hl => match us, hl with | [_, _, _], _ => rfl⟩, sc_picture_at⟩
  f_shown_at := ⟨⟨_, _, fun_mk l_shown_at c_shown_at k_shown_at, PySem.W.mg_of X G a_shown_at, (fun_mk l_shown_at c_shown_at k_shown_at).binds fun _ _ _ _ _ _ us hl => match us, hl with | [_, _, _], _ => rfl⟩, sc_shown_at⟩
  f_shows := ⟨⟨_, _, fun_mk l_shows c_shows k_shows, PySem.W.mg_of X G a_shows, (fun_mk l_shows c_shows k_shows).binds fun _ _ _ _ _ _ us hl => match us, hl with | [_, _], _ => rfl⟩, sc_shows⟩
  f_plain_painting := ⟨⟨_, _, fun_mk l_plain_painting c_plain_painting k_plain_painting, PySem.W.mg_of X G a_plain_painting, (fun_mk l_plain_painting c_plain_painting k_plain_painting).binds fun _ _ _ _ _ _ us hl => match us, hl with | [_], _ => rfl⟩, sc_plain_painting⟩
  f__law_feed := ⟨⟨_, _, fun_mk l__law_feed c__law_feed k__law_feed, PySem.W.mg_of X G a__law_feed, (fun_mk l__law_feed c__law_feed k__law_feed).binds fun _ _ _ _ _ _ us hl => match us, hl with | [_], _ => rfl⟩, sc__law_feed⟩
  f__law_draw := ⟨⟨_, _, fun_mk l__law_draw c__law_draw k__law_draw, PySem.W.mg_of X G a__law_draw, (fun_mk l__law_draw c__law_draw k__law_draw).binds fun _ _ _ _ _ _ us hl => match us, hl with | [_, _], _ => rfl⟩, sc__law_draw⟩
  f__law_frac := ⟨⟨_, _, fun_mk l__law_frac c__law_frac k__law_frac, PySem.W.mg_of X G a__law_frac, (fun_mk l__law_frac c__law_frac k__law_frac).binds fun _ _ _ _ _ _ us hl => match us, hl with | [_, _], _ => rfl⟩, sc__law_frac⟩
  f__law_point := ⟨⟨_, _, fun_mk l__law_point c__law_point k__law_point, PySem.W.mg_of X G a__law_point, (fun_mk l__law_point c__law_point k__law_point).binds fun _ _ _ _ _ _ us hl => match us, hl with | [_], _ => rfl⟩, sc__law_point⟩
  f__law_content := ⟨⟨_, _, fun_mk l__law_content c__law_content k__law_content, PySem.W.mg_of X G a__law_content, (fun_mk l__law_content c__law_content k__law_content).binds fun _ _ _ _ _ _ us hl => match us, hl with | [_, _, _], _ => rfl⟩, sc__law_content⟩
  f__law_node := ⟨⟨_, _, fun_mk l__law_node c__law_node k__law_node, PySem.W.mg_of X G a__law_node, (fun_mk l__law_node c__law_node k__law_node).binds fun _ _ _ _ _ _ us hl => match us, hl with | [_, _, _, _], _ => rfl⟩, sc__law_node⟩
  f__law_scene := ⟨⟨_, _, fun_mk l__law_scene c__law_scene k__law_scene, PySem.W.mg_of X G a__law_scene, (fun_mk l__law_scene c__law_scene k__law_scene).binds fun _ _ _ _ _ _ us hl => match us, hl with | [_, _, _], _ => rfl⟩, sc__law_scene⟩
  f__law_corners := ⟨⟨_, _, fun_mk l__law_corners c__law_corners k__law_corners, PySem.W.mg_of X G a__law_corners, (fun_mk l__law_corners c__law_corners k__law_corners).binds fun _ _ _ _ _ _ us hl => match us, hl with | [_], _ => rfl⟩, sc__law_corners⟩
  f__law_out := ⟨⟨_, _, fun_mk l__law_out c__law_out k__law_out, PySem.W.mg_of X G a__law_out, (fun_mk l__law_out c__law_out k__law_out).binds fun _ _ _ _ _ _ us hl => match us, hl with | [_, _, _], _ => rfl⟩, sc__law_out⟩
  f__law_own := ⟨⟨_, _, fun_mk l__law_own c__law_own k__law_own, PySem.W.mg_of X G a__law_own, (fun_mk l__law_own c__law_own k__law_own).binds fun _ _ _ _ _ _ us hl => match us, hl with | [_, _, _], _ => rfl⟩, sc__law_own⟩
  f__law_lay := ⟨⟨_, _, fun_mk l__law_lay c__law_lay k__law_lay, PySem.W.mg_of X G a__law_lay, (fun_mk l__law_lay c__law_lay k__law_lay).binds fun _ _ _ _ _ _ us hl => match us, hl with | [_, _], _ => rfl⟩, sc__law_lay⟩
  f__law_picture := ⟨⟨_, _, fun_mk l__law_picture c__law_picture k__law_picture, PySem.W.mg_of X G a__law_picture, (fun_mk l__law_picture c__law_picture k__law_picture).binds fun _ _ _ _ _ _ us hl => match us, hl with | [_, _, _, _], _ => rfl⟩, sc__law_picture⟩
  f__law_told_pixel := ⟨⟨_, _, fun_mk l__law_told_pixel c__law_told_pixel k__law_told_pixel, PySem.W.mg_of X G a__law_told_pixel, (fun_mk l__law_told_pixel c__law_told_pixel k__law_told_pixel).binds fun _ _ _ _ _ _ us hl => match us, hl with | [_], _ => rfl⟩, sc__law_told_pixel⟩
  f__law_shown := ⟨⟨_, _, fun_mk l__law_shown c__law_shown k__law_shown, PySem.W.mg_of X G a__law_shown, (fun_mk l__law_shown c__law_shown k__law_shown).binds fun _ _ _ _ _ _ us hl => match us, hl with | [_, _, _], _ => rfl⟩, sc__law_shown⟩
  f__law_right := ⟨⟨_, _, fun_mk l__law_right c__law_right k__law_right, PySem.W.mg_of X G a__law_right, (fun_mk l__law_right c__law_right k__law_right).binds fun _ _ _ _ _ _ us hl => match us, hl with | [_], _ => rfl⟩, sc__law_right⟩
  f_law := ⟨_, _, fun_mk l_law c_law k_law, PySem.W.mg_of X G a_law, fun s v => .of_eq rfl⟩
  g_NOTHING := ⟨(.ref q_NOTHING_0), _, PySem.W.mg_of X G b_NOTHING, (rv_ref _), fun J H => RD.tup (.inr (.inr ⟨_, _, _, L_q_NOTHING_0, rfl, rfl, (show 2 ≤ sizeLine by decide), (.cons (rv_ref _) (.cons (rv_ref _) .nil))⟩)) (RDs.cons (RD.tup (.inr (.inr ⟨_, _, _, L_q_NOTHING_1, rfl, rfl, (show 2 ≤ sizeLine by decide), (.cons (rv_int _ _) (.cons (rv_int _ _) .nil))⟩)) (RDs.cons (RD.int _) (RDs.cons (RD.int _) RDs.nil))) (RDs.cons (RD.tup (.inr (.inr ⟨_, _, _, L_q_NOTHING_4, rfl, rfl, (show 2 ≤ sizeLine by decide), (.cons (rv_int _ _) (.cons (rv_int _ _) .nil))⟩)) (RDs.cons (RD.int _) (RDs.cons (RD.int _) RDs.nil))) RDs.nil))⟩
  g_WHOLE := ⟨(.ref q_WHOLE_0), _, PySem.W.mg_of X G b_WHOLE, (rv_ref _), fun J H => RD.tup (.inr (.inr ⟨_, _, _, L_q_WHOLE_0, rfl, rfl, (show 2 ≤ sizeLine by decide), (.cons (rv_int _ _) (.cons (rv_int _ _) .nil))⟩)) (RDs.cons (RD.int _) (RDs.cons (RD.int _) RDs.nil))⟩
  g_ZERO := ⟨(.ref q_ZERO_0), _, PySem.W.mg_of X G b_ZERO, (rv_ref _), fun J H => RD.tup (.inr (.inr ⟨_, _, _, L_q_ZERO_0, rfl, rfl, (show 2 ≤ sizeLine by decide), (.cons (rv_int _ _) (.cons (rv_int _ _) .nil))⟩)) (RDs.cons (RD.int _) (RDs.cons (RD.int _) RDs.nil))⟩
theorem q16_0 : q16 0 = 0 := by decide +kernel
theorem e_ZERO : g_ZERO = fq (q16 0) := by rw [q16_0]; rfl
theorem e_NOTHING : g_NOTHING = pxN 0 0 := by unfold pxN; rw [q16_0]; rfl
def naB (C C' : Nat) (f : Str) : Bool := decide (C' = C) && (decide (f = "by_name") || (decide (f = "beneath") || (decide (f = "corners") || decide (f = "chains"))))
theorem naH (C : Nat) : HasN (naB C) C := ⟨by unfold naB; rw [decide_eq_true rfl]; rfl, by unfold naB; rw [decide_eq_true rfl]; rfl, by unfold naB; rw [decide_eq_true rfl]; rfl, by unfold naB; rw [decide_eq_true rfl]; rfl⟩
def dv0 : Nat → List D := fun _ => []
def fPic (W : Wd) : Nat → FSem
  | 0 => fun _ => none
  | n + 1 => runM n_picture_at.length 3 [] (evSs (W.add "picture_at" ⟨3, [], fPic W n⟩) c_picture_at)
def fPicL (W : Wd) : Nat → FSem
  | 0 => fun _ => none
  | n + 1 => runM n__law_picture.length 4 [] (evSs (W.add "_law_picture" ⟨4, [], fPicL W n⟩) c__law_picture)
theorem e_WHOLE : g_WHOLE = fq 1 := rfl
def W0 (C : Nat) : Wd := { fn := fun _ => none, glb := fun x => if x = "ZERO" then some g_ZERO else if x = "NOTHING" then some g_NOTHING else if x = "WHOLE" then some g_WHOLE else none, na := naB C }
def W1 (C : Nat) : Wd := (W0 C).add "common_divisor" ⟨2, [], pureF 2 gGcd⟩
def W2 (C : Nat) : Wd := (W1 C).add "ratio" ⟨2, [], pureF 2 gRatio⟩
def W3 (C : Nat) : Wd := (W2 C).add "added" ⟨2, [], pureF 2 gAdded⟩
def W4 (C : Nat) : Wd := (W3 C).add "less" ⟨2, [], pureF 2 gLess⟩
def W5 (C : Nat) : Wd := (W4 C).add "times" ⟨2, [], pureF 2 gTimes⟩
def F_laid_on (C : Nat) : FSem := runM n_laid_on.length 2 [] (evSs (W5 C) c_laid_on)
def W6 (C : Nat) : Wd := (W5 C).add "laid_on" ⟨2, [], F_laid_on C⟩
def F_faded (C : Nat) : FSem := runM n_faded.length 2 [] (evSs (W6 C) c_faded)
def W7 (C : Nat) : Wd := (W6 C).add "faded" ⟨2, [], F_faded C⟩
def F_has_cell (C : Nat) : FSem := runM n_has_cell.length 2 [] (evSs (W7 C) c_has_cell)
def W8 (C : Nat) : Wd := (W7 C).add "has_cell" ⟨2, [], F_has_cell C⟩
def F_rectangle_region (C : Nat) : FSem := runM n_rectangle_region.length 1 [] (evSs (W8 C) c_rectangle_region)
def W9 (C : Nat) : Wd := (W8 C).add "rectangle_region" ⟨1, [], F_rectangle_region C⟩
def F_Boughs_is_out (C : Nat) : FSem := runM n_Boughs_is_out.length 3 [] (evSs (W9 C) c_Boughs_is_out)
def W10 (C : Nat) : Wd := (W9 C).addM "Boughs" "is_out" C dv0 ⟨3, [], F_Boughs_is_out C⟩
def F_Boughs_own_pixel (C : Nat) : FSem := runM n_Boughs_own_pixel.length 3 [] (evSs (W10 C) c_Boughs_own_pixel)
def W11 (C : Nat) : Wd := (W10 C).addM "Boughs" "own_pixel" C dv0 ⟨3, [], F_Boughs_own_pixel C⟩
def F_Boughs___init__ (C : Nat) : FSem := runM n_Boughs___init__.length 2 [0] (evSs (W11 C) c_Boughs___init__)
def W12 (C : Nat) : Wd := (W11 C).addC "Boughs" C ⟨2, [0], F_Boughs___init__ C⟩
def F_screen_rows (C : Nat) : FSem := runM n_screen_rows.length 1 [] (evSs (W12 C) c_screen_rows)
def W13 (C : Nat) : Wd := (W12 C).add "screen_rows" ⟨1, [], F_screen_rows C⟩
def W14 (C : Nat) : Wd := (W13 C).add "picture_at" ⟨3, [], fPic (W13 C) 6⟩
def F_shown_at (C : Nat) : FSem := runM n_shown_at.length 3 [] (evSs (W14 C) c_shown_at)
def W15 (C : Nat) : Wd := (W14 C).add "shown_at" ⟨3, [], F_shown_at C⟩
def F_shows (C : Nat) : FSem := runM n_shows.length 2 [] (evSs (W15 C) c_shows)
def W16 (C : Nat) : Wd := (W15 C).add "shows" ⟨2, [], F_shows C⟩
def F_plain_painting (C : Nat) : FSem := runM n_plain_painting.length 1 [] (evSs (W16 C) c_plain_painting)
def W17 (C : Nat) : Wd := (W16 C).add "plain_painting" ⟨1, [], F_plain_painting C⟩
def F__law_draw (C : Nat) : FSem := runM n__law_draw.length 2 [0] (evSs (W17 C) c__law_draw)
def W18 (C : Nat) : Wd := (W17 C).add "_law_draw" ⟨2, [0], F__law_draw C⟩
def F__law_frac (C : Nat) : FSem := runM n__law_frac.length 2 [] (evSs (W18 C) c__law_frac)
def W19 (C : Nat) : Wd := (W18 C).add "_law_frac" ⟨2, [], F__law_frac C⟩
def F__law_point (C : Nat) : FSem := runM n__law_point.length 1 [0] (evSs (W19 C) c__law_point)
def W20 (C : Nat) : Wd := (W19 C).add "_law_point" ⟨1, [0], F__law_point C⟩
def F__law_content (C : Nat) : FSem := runM n__law_content.length 3 [0] (evSs (W20 C) c__law_content)
def W21 (C : Nat) : Wd := (W20 C).add "_law_content" ⟨3, [0], F__law_content C⟩
def F__law_node (C : Nat) : FSem := runM n__law_node.length 4 [0] (evSs (W21 C) c__law_node)
def W22 (C : Nat) : Wd := (W21 C).add "_law_node" ⟨4, [0], F__law_node C⟩
def F__law_scene (C : Nat) : FSem := runM n__law_scene.length 3 [0] (evSs (W22 C) c__law_scene)
def W23 (C : Nat) : Wd := (W22 C).add "_law_scene" ⟨3, [0], F__law_scene C⟩
def F__law_corners (C : Nat) : FSem := runM n__law_corners.length 1 [] (evSs (W23 C) c__law_corners)
def W24 (C : Nat) : Wd := (W23 C).add "_law_corners" ⟨1, [], F__law_corners C⟩
def F__law_out (C : Nat) : FSem := runM n__law_out.length 3 [] (evSs (W24 C) c__law_out)
def W25 (C : Nat) : Wd := (W24 C).add "_law_out" ⟨3, [], F__law_out C⟩
def F__law_own (C : Nat) : FSem := runM n__law_own.length 3 [] (evSs (W25 C) c__law_own)
def W26 (C : Nat) : Wd := (W25 C).add "_law_own" ⟨3, [], F__law_own C⟩
def F__law_lay (C : Nat) : FSem := runM n__law_lay.length 2 [] (evSs (W26 C) c__law_lay)
def W27 (C : Nat) : Wd := (W26 C).add "_law_lay" ⟨2, [], F__law_lay C⟩
def W28 (C : Nat) : Wd := (W27 C).add "_law_picture" ⟨4, [], fPicL (W27 C) 6⟩
def F__law_told_pixel (C : Nat) : FSem := runM n__law_told_pixel.length 1 [] (evSs (W28 C) c__law_told_pixel)
def W29 (C : Nat) : Wd := (W28 C).add "_law_told_pixel" ⟨1, [], F__law_told_pixel C⟩
def F__law_shown (C : Nat) : FSem := runM n__law_shown.length 3 [] (evSs (W29 C) c__law_shown)
def W30 (C : Nat) : Wd := (W29 C).add "_law_shown" ⟨3, [], F__law_shown C⟩
def F__law_right (C : Nat) : FSem := runM n__law_right.length 1 [] (evSs (W30 C) c__law_right)
def W31 (C : Nat) : Wd := (W30 C).add "_law_right" ⟨1, [], F__law_right C⟩
section
variable {P : Program} {w : World} {K : PySem.W.Frag} {mg : Str → Option Value} {C : Addr}
theorem tab0 (Fa : Facts K mg C) {base : Heap} : Tab P w K mg base 0 (W0 C) := ⟨Fa.blt, fun _ _ h => (nomatch h), (fun x d h => by
  unfold W0 at h
  simp only at h
  split at h
  · rename_i e
    subst e
    cases h
    exact Fa.g_ZERO
  · split at h
    · rename_i e
      subst e
      cases h
      exact Fa.g_NOTHING
    · split at h
      · rename_i e
        subst e
        cases h
        exact Fa.g_WHOLE
      · cases h), rfl, (fun C' f h => by
  unfold W0 naB at h
  simp only [Bool.and_eq_true, Bool.or_eq_true, decide_eq_true_eq] at h
  obtain ⟨rfl, h⟩ := h
  rcases h with rfl | rfl | rfl | rfl
  · exact Fa.n_Boughs_by_name
  · exact Fa.n_Boughs_beneath
  · exact Fa.n_Boughs_corners
  · exact Fa.n_Boughs_chains), (fun _ _ _ _ _ _ h => nomatch h), (fun _ _ _ h => nomatch h)⟩
theorem tabN (Fa : Facts K mg C) {base : Heap} : Tab P w K mg base 42 (W31 C) := by
  have t0 : Tab P w K mg base 0 (W0 C) := tab0 Fa
  have t1 : Tab P w K mg base 1 (W1 C) := t0.add Fa.f_common_divisor ck_common_divisor rfl (ok_common_divisor (W0 C))
  have t2 : Tab P w K mg base 2 (W2 C) := t1.add Fa.f_ratio ck_ratio rfl (ok_ratio (W1 C) rfl)
  have t3 : Tab P w K mg base 3 (W3 C) := t2.add Fa.f_added ck_added rfl (ok_added (W2 C) rfl)
  have t4 : Tab P w K mg base 4 (W4 C) := t3.add Fa.f_less ck_less rfl (ok_less (W3 C) rfl)
  have t5 : Tab P w K mg base 5 (W5 C) := t4.add Fa.f_times ck_times rfl (ok_times (W4 C) rfl)
  have t6 : Tab P w K mg base 6 (W6 C) := t5.add Fa.f_laid_on ck_laid_on rfl (F := F_laid_on C) (fun _ _ _ h => h)
  have t7 : Tab P w K mg base 7 (W7 C) := t6.add Fa.f_faded ck_faded rfl (F := F_faded C) (fun _ _ _ h => h)
  have t8 : Tab P w K mg base 8 (W8 C) := t7.add Fa.f_has_cell ck_has_cell rfl (F := F_has_cell C) (fun _ _ _ h => h)
  have t9 : Tab P w K mg base 9 (W9 C) := t8.add Fa.f_rectangle_region ck_rectangle_region rfl (F := F_rectangle_region C) (fun _ _ _ h => h)
  have t10 : Tab P w K mg base 10 (W10 C) := t9.addM Fa.f_Boughs_is_out ck_Boughs_is_out rfl (F := F_Boughs_is_out C) (fun _ _ _ h => h)
  have t11 : Tab P w K mg base 11 (W11 C) := t10.addM Fa.f_Boughs_own_pixel ck_Boughs_own_pixel rfl (F := F_Boughs_own_pixel C) (fun _ _ _ h => h)
  have t12 : Tab P w K mg base 13 (W12 C) := t11.addC Fa.f_Boughs___init__ ck_Boughs___init__ rfl (F := F_Boughs___init__ C) (fun _ _ _ h => h)
  have t13 : Tab P w K mg base 14 (W13 C) := t12.add Fa.f_screen_rows ck_screen_rows rfl (F := F_screen_rows C) (fun _ _ _ h => h)
  have t14 : Tab P w K mg base 20 (W14 C) := Tab.recur t13 Fa.f_picture_at ck_picture_at rfl (F := fPic (W13 C)) (fun _ => rfl) (fun _ _ _ _ h => h) 6
  have t15 : Tab P w K mg base 21 (W15 C) := t14.add Fa.f_shown_at ck_shown_at rfl (F := F_shown_at C) (fun _ _ _ h => h)
  have t16 : Tab P w K mg base 22 (W16 C) := t15.add Fa.f_shows ck_shows rfl (F := F_shows C) (fun _ _ _ h => h)
  have t17 : Tab P w K mg base 23 (W17 C) := t16.add Fa.f_plain_painting ck_plain_painting rfl (F := F_plain_painting C) (fun _ _ _ h => h)
  have t18 : Tab P w K mg base 24 (W18 C) := t17.add Fa.f__law_draw ck__law_draw rfl (F := F__law_draw C) (fun _ _ _ h => h)
  have t19 : Tab P w K mg base 25 (W19 C) := t18.add Fa.f__law_frac ck__law_frac rfl (F := F__law_frac C) (fun _ _ _ h => h)
  have t20 : Tab P w K mg base 26 (W20 C) := t19.add Fa.f__law_point ck__law_point rfl (F := F__law_point C) (fun _ _ _ h => h)
  have t21 : Tab P w K mg base 27 (W21 C) := t20.add Fa.f__law_content ck__law_content rfl (F := F__law_content C) (fun _ _ _ h => h)
  have t22 : Tab P w K mg base 28 (W22 C) := t21.add Fa.f__law_node ck__law_node rfl (F := F__law_node C) (fun _ _ _ h => h)
  have t23 : Tab P w K mg base 29 (W23 C) := t22.add Fa.f__law_scene ck__law_scene rfl (F := F__law_scene C) (fun _ _ _ h => h)
  have t24 : Tab P w K mg base 30 (W24 C) := t23.add Fa.f__law_corners ck__law_corners rfl (F := F__law_corners C) (fun _ _ _ h => h)
  have t25 : Tab P w K mg base 31 (W25 C) := t24.add Fa.f__law_out ck__law_out rfl (F := F__law_out C) (fun _ _ _ h => h)
  have t26 : Tab P w K mg base 32 (W26 C) := t25.add Fa.f__law_own ck__law_own rfl (F := F__law_own C) (fun _ _ _ h => h)
  have t27 : Tab P w K mg base 33 (W27 C) := t26.add Fa.f__law_lay ck__law_lay rfl (F := F__law_lay C) (fun _ _ _ h => h)
  have t28 : Tab P w K mg base 39 (W28 C) := Tab.recur t27 Fa.f__law_picture ck__law_picture rfl (F := fPicL (W27 C)) (fun _ => rfl) (fun _ _ _ _ h => h) 6
  have t29 : Tab P w K mg base 40 (W29 C) := t28.add Fa.f__law_told_pixel ck__law_told_pixel rfl (F := F__law_told_pixel C) (fun _ _ _ h => h)
  have t30 : Tab P w K mg base 41 (W30 C) := t29.add Fa.f__law_shown ck__law_shown rfl (F := F__law_shown C) (fun _ _ _ h => h)
  have t31 : Tab P w K mg base 42 (W31 C) := t30.add Fa.f__law_right ck__law_right rfl (F := F__law_right C) (fun _ _ _ h => h)
  exact t31
end
theorem q_laid (C : Nat) : SpLaid (F_laid_on C) := run_laid_on (W := W5 C) (congrArg some e_WHOLE) rfl rfl rfl sp_added sp_less sp_times
theorem q_faded (C : Nat) : SpFaded (F_faded C) := run_faded (W := W6 C) rfl sp_times
theorem q_has (C : Nat) : SpHas (F_has_cell C) := run_has (W := W7 C)
theorem q_rect (C : Nat) : SpRect (F_rectangle_region C) := run_rect (W := W8 C)
theorem q_isout (C : Nat) : SpIsOut C (F_Boughs_is_out C) := run_isout (W := W9 C) (naH C) rfl (q_has C) rfl (q_rect C) (congrArg some e_ZERO)
theorem q_ownpx (C : Nat) : SpOwnPx C (F_Boughs_own_pixel C) := run_ownpx (W := W10 C) (naH C) (congrArg some e_NOTHING)
theorem q_init (C : Nat) : SpInit C (F_Boughs___init__ C) := run_init (W := W11 C) (naH C)
theorem q_rows (C : Nat) : SpRows (F_screen_rows C) := run_rows (W := W12 C)
theorem q_pics (C : Nat) : ∀ n, SpPicP n C (fPic (W13 C) n)
  | 0 => fun m tr n cell _ _ _ h => h.elim
  | n + 1 => run_pic (W := (W13 C).add "picture_at" ⟨3, [], fPic (W13 C) n⟩) (naH C) (congrArg some e_NOTHING) rfl (q_isout C) rfl (q_ownpx C) rfl (q_laid C) rfl (q_faded C) rfl (q_pics C n)
theorem q_shown (C : Nat) : SpShP C (F_shown_at C) := run_shown_at (W := W14 C) (naH C) rfl (q_laid C) rfl (q_pics C 6)
theorem q_shows (C : Nat) : SpShows (F_shows C) := run_shows (W := W15 C) rfl (q_init C) rfl (q_shown C)
theorem q_paint (C : Nat) : SpPaint (F_plain_painting C) := run_paint (W := W16 C) rfl (q_init C) rfl (q_shown C) rfl (q_rows C)
theorem q_draw (C : Nat) : SpDraw (F__law_draw C) := run_draw (W := W17 C)
theorem q_lfr (C : Nat) : SpFr (F__law_frac C) := run_frac (W := W18 C)
theorem q_lpoint (C : Nat) : SpPoint (F__law_point C) := run_point (W := W19 C) rfl (q_draw C) rfl (q_lfr C)
theorem q_lcont (C : Nat) : SpCont (F__law_content C) := run_lcontent (W := W20 C) rfl (q_draw C) rfl (q_lpoint C)
theorem q_lnode (C : Nat) : SpNode (F__law_node C) := run_lnode (W := W21 C) rfl (q_draw C) rfl (q_lfr C) rfl (q_lcont C)
theorem q_lscene (C : Nat) : SpScene (F__law_scene C) := run_lscene (W := W22 C) rfl (q_draw C) rfl (q_lfr C) rfl (q_lnode C)
theorem q_lcorners (C : Nat) : SpCorners (F__law_corners C) := run_corners (W := W23 C)
theorem q_lout (C : Nat) : SpOut (F__law_out C) := run_law_out (W := W24 C)
theorem q_lown (C : Nat) : SpOwn (F__law_own C) := run_law_own (W := W25 C)
theorem q_llay (C : Nat) : SpLay (F__law_lay C) := run_lay (W := W26 C)
theorem q_lpics (C : Nat) : ∀ n, SpPicL n (fPicL (W27 C) n)
  | 0 => fun m s i cell hi _ h => by omega
  | n + 1 => run_law_picture (W := (W27 C).add "_law_picture" ⟨4, [], fPicL (W27 C) n⟩) rfl (q_lout C) rfl (q_lown C) rfl (q_llay C) rfl (q_lpics C n)
theorem q_ltold (C : Nat) : SpTold (F__law_told_pixel C) := run_told (W := W28 C) rfl (q_lfr C)
theorem q_lshown (C : Nat) : SpShL (F__law_shown C) := run_law_shown (W := W29 C) rfl (q_llay C) rfl (q_lpics C 6) rfl (q_ltold C)
theorem q_lright (C : Nat) : SpRight (F__law_right C) := run_right (W := W30 C) rfl (q_lcorners C) rfl (q_lshown C) rfl (q_paint C) rfl (q_shows C)
theorem wk (C : Nat) : Wk (W31 C) := ⟨⟨_, rfl, q_draw C⟩, ⟨_, rfl, q_lscene C⟩, ⟨_, rfl, q_lright C⟩⟩
theorem law_main {P : Program} {w : World} {K : PySem.W.Frag} {mg : Str → Option Value} {C : Addr} {fa : Addr} (Fa : Facts K mg C) (hfa : mg "law" = some (.ref fa)) :
    ∃ fd : FuncData, (∀ (s : Shared) (u : Value), BindsTo s fd ⟨[u], []⟩ [("script", u)]) ∧ ∀ base : Heap, K.In base → base.Ns mainGlobals mg → FnG P w K mg base CX0 50 fa fd ["script"] (spLawB K) := by
  obtain ⟨f, fd, Fu, hmg, hb⟩ := Fa.f_law
  cases hfa.symm.trans hmg
  refine ⟨fd, hb, fun base _ _ => ?_⟩
  obtain ⟨ff, ffd, Ff, hfm, hfb⟩ := Fa.f__law_feed.fn
  have G := feed_okL (P := P) (w := w) (mg := mg) (base := base) (k := 0) Ff sc__law_feed (by exact visB_vis (by decide +kernel)) (by decide +kernel) (by decide +kernel) (Fa.blt _ (by decide)) (by rfl)
  exact (law_okB (i := 1) (fe := "_law_feed") (y := "feed") (tabN Fa) Fu sc_law (G.mono (by decide)) hfm Ff.kp hfb (by rfl) (by rfl) (by rfl) (by first | exact .inl (by decide +kernel) | exact .inr (by decide +kernel)) (by decide +kernel) (by decide +kernel) (by decide +kernel) (by decide +kernel) ck_law fun cells h1 h2 => law_run (wk C) cells h1 h2).mono (by decide)
end Fc

open PySem PySem.W PyProof.Rows
set_option maxHeartbeats 0 in
theorem PySem.Challenge.cw_framecourt_k22_shown_cell_by_cell_holds : PySem.Challenge.rw_framecourt_k22_shown_cell_by_cell.Holds := by
  w_on; o_law; k_head; (case hw => w_witness2)
  k_fill
  refine IL.walkGB (l := PySem.Challenge.rw_framecourt_k22_shown_cell_by_cell) (n := 63) (k := 50) (x := "script") (sp := fun w => IL.spLawB _) rfl (by decide) rfl ⟨rfl, by decide, by decide⟩ (fun w h Y => PySem.W.kIn_of Y) ?F (fun w H a ns hl hb hS => ⟨a, ns, rfl, hS, hl, hb, fun _ => rfl⟩)
  case F =>
    intro w mg fa h KX G hmg
    refine' Fc.law_main (Fc.facts_mk KX G ?a_Boughs  ?pg_Boughs  ?hd_Boughs  ?po_Boughs  ?sa_Boughs  ?cc_Boughs  ?gc_Boughs  ?tk_Boughs  ?mr_Boughs  ?noint_Boughs  ?nobool_Boughs  ?nostr_Boughs  ?nolist_Boughs  ?notuple_Boughs  ?nodict_Boughs  ?mk_Boughs  ?kc_Boughs  ?nby_name_Boughs  ?nbeneath_Boughs  ?ncorners_Boughs  ?nchains_Boughs  ?a_Boughs___init__  ?i_Boughs___init__  ?l_Boughs___init__  ?c_Boughs___init__  ?k_Boughs___init__  ?a_Boughs_is_out  ?i_Boughs_is_out  ?l_Boughs_is_out  ?c_Boughs_is_out  ?k_Boughs_is_out  ?a_Boughs_own_pixel  ?i_Boughs_own_pixel  ?l_Boughs_own_pixel  ?c_Boughs_own_pixel  ?k_Boughs_own_pixel  ?a_common_divisor  ?l_common_divisor  ?c_common_divisor  ?k_common_divisor  ?a_ratio  ?l_ratio  ?c_ratio  ?k_ratio  ?a_added  ?l_added  ?c_added  ?k_added  ?a_less  ?l_less  ?c_less  ?k_less  ?a_times  ?l_times  ?c_times  ?k_times  ?a_laid_on  ?l_laid_on  ?c_laid_on  ?k_laid_on  ?a_faded  ?l_faded  ?c_faded  ?k_faded  ?a_has_cell  ?l_has_cell  ?c_has_cell  ?k_has_cell  ?a_rectangle_region  ?l_rectangle_region  ?c_rectangle_region  ?k_rectangle_region  ?a_screen_rows  ?l_screen_rows  ?c_screen_rows  ?k_screen_rows  ?a_picture_at  ?l_picture_at  ?c_picture_at  ?k_picture_at  ?a_shown_at  ?l_shown_at  ?c_shown_at  ?k_shown_at  ?a_shows  ?l_shows  ?c_shows  ?k_shows  ?a_plain_painting  ?l_plain_painting  ?c_plain_painting  ?k_plain_painting  ?a__law_feed  ?l__law_feed  ?c__law_feed  ?k__law_feed  ?a__law_draw  ?l__law_draw  ?c__law_draw  ?k__law_draw  ?a__law_frac  ?l__law_frac  ?c__law_frac  ?k__law_frac  ?a__law_point  ?l__law_point  ?c__law_point  ?k__law_point  ?a__law_content  ?l__law_content  ?c__law_content  ?k__law_content  ?a__law_node  ?l__law_node  ?c__law_node  ?k__law_node  ?a__law_scene  ?l__law_scene  ?c__law_scene  ?k__law_scene  ?a__law_corners  ?l__law_corners  ?c__law_corners  ?k__law_corners  ?a__law_out  ?l__law_out  ?c__law_out  ?k__law_out  ?a__law_own  ?l__law_own  ?c__law_own  ?k__law_own  ?a__law_lay  ?l__law_lay  ?c__law_lay  ?k__law_lay  ?a__law_picture  ?l__law_picture  ?c__law_picture  ?k__law_picture  ?a__law_told_pixel  ?l__law_told_pixel  ?c__law_told_pixel  ?k__law_told_pixel  ?a__law_shown  ?l__law_shown  ?c__law_shown  ?k__law_shown  ?a__law_right  ?l__law_right  ?c__law_right  ?k__law_right  ?a_law  ?l_law  ?c_law  ?k_law  ?b_NOTHING  ?L_q_NOTHING_0  ?L_q_NOTHING_1  ?L_q_NOTHING_4  ?b_WHOLE  ?L_q_WHOLE_0  ?b_ZERO  ?L_q_ZERO_0  ?z_len  ?z_abs  ?z_list  ?z_tuple  ?z_all  ?z_any  ?z_sum  ?z_max  ?z_min  ?z_repr  ?z_isinstance  ?z_int  ?z_bool  ?z_str  ?z_dict  ?z_range  ?z_zip  ?z_enumerate  ?z_reversed  ?z_sorted  ?z_set) hmg
    (case a_Boughs => k_is); (case pg_Boughs => k_is); (case hd_Boughs => k_is); (case po_Boughs => k_is); (case sa_Boughs => k_is); (case cc_Boughs => k_is); (case gc_Boughs => k_is); (case tk_Boughs => k_is); (case mr_Boughs => k_is); (case noint_Boughs => k_is); (case nobool_Boughs => k_is); (case nostr_Boughs => k_is); (case nolist_Boughs => k_is); (case notuple_Boughs => k_is); (case nodict_Boughs => k_is); (case mk_Boughs => k_is); (case kc_Boughs => k_is); (case nby_name_Boughs => k_is); (case nbeneath_Boughs => k_is); (case ncorners_Boughs => k_is); (case nchains_Boughs => k_is); (case a_Boughs___init__ => k_is); (case i_Boughs___init__ => k_is); (case l_Boughs___init__ => k_is); (case c_Boughs___init__ => k_is); (case k_Boughs___init__ => k_is); (case a_Boughs_is_out => k_is); (case i_Boughs_is_out => k_is); (case l_Boughs_is_out => k_is); (case c_Boughs_is_out => k_is); (case k_Boughs_is_out => k_is); (case a_Boughs_own_pixel => k_is); (case i_Boughs_own_pixel => k_is); (case l_Boughs_own_pixel => k_is); (case c_Boughs_own_pixel => k_is); (case k_Boughs_own_pixel => k_is); (case a_common_divisor => k_is); (case l_common_divisor => k_is); (case c_common_divisor => k_is); (case k_common_divisor => k_is); (case a_ratio => k_is); (case l_ratio => k_is); (case c_ratio => k_is); (case k_ratio => k_is); (case a_added => k_is); (case l_added => k_is); (case c_added => k_is); (case k_added => k_is); (case a_less => k_is); (case l_less => k_is); (case c_less => k_is); (case k_less => k_is); (case a_times => k_is); (case l_times => k_is); (case c_times => k_is); (case k_times => k_is); (case a_laid_on => k_is); (case l_laid_on => k_is); (case c_laid_on => k_is); (case k_laid_on => k_is); (case a_faded => k_is); (case l_faded => k_is); (case c_faded => k_is); (case k_faded => k_is); (case a_has_cell => k_is); (case l_has_cell => k_is); (case c_has_cell => k_is); (case k_has_cell => k_is); (case a_rectangle_region => k_is); (case l_rectangle_region => k_is); (case c_rectangle_region => k_is); (case k_rectangle_region => k_is); (case a_screen_rows => k_is); (case l_screen_rows => k_is); (case c_screen_rows => k_is); (case k_screen_rows => k_is); (case a_picture_at => k_is); (case l_picture_at => k_is); (case c_picture_at => k_is); (case k_picture_at => k_is); (case a_shown_at => k_is); (case l_shown_at => k_is); (case c_shown_at => k_is); (case k_shown_at => k_is); (case a_shows => k_is); (case l_shows => k_is); (case c_shows => k_is); (case k_shows => k_is); (case a_plain_painting => k_is); (case l_plain_painting => k_is); (case c_plain_painting => k_is); (case k_plain_painting => k_is); (case a__law_feed => k_is); (case l__law_feed => k_is); (case c__law_feed => k_is); (case k__law_feed => k_is); (case a__law_draw => k_is); (case l__law_draw => k_is); (case c__law_draw => k_is); (case k__law_draw => k_is); (case a__law_frac => k_is); (case l__law_frac => k_is); (case c__law_frac => k_is); (case k__law_frac => k_is); (case a__law_point => k_is); (case l__law_point => k_is); (case c__law_point => k_is); (case k__law_point => k_is); (case a__law_content => k_is); (case l__law_content => k_is); (case c__law_content => k_is); (case k__law_content => k_is); (case a__law_node => k_is); (case l__law_node => k_is); (case c__law_node => k_is); (case k__law_node => k_is); (case a__law_scene => k_is); (case l__law_scene => k_is); (case c__law_scene => k_is); (case k__law_scene => k_is); (case a__law_corners => k_is); (case l__law_corners => k_is); (case c__law_corners => k_is); (case k__law_corners => k_is); (case a__law_out => k_is); (case l__law_out => k_is); (case c__law_out => k_is); (case k__law_out => k_is); (case a__law_own => k_is); (case l__law_own => k_is); (case c__law_own => k_is); (case k__law_own => k_is); (case a__law_lay => k_is); (case l__law_lay => k_is); (case c__law_lay => k_is); (case k__law_lay => k_is); (case a__law_picture => k_is); (case l__law_picture => k_is); (case c__law_picture => k_is); (case k__law_picture => k_is); (case a__law_told_pixel => k_is); (case l__law_told_pixel => k_is); (case c__law_told_pixel => k_is); (case k__law_told_pixel => k_is); (case a__law_shown => k_is); (case l__law_shown => k_is); (case c__law_shown => k_is); (case k__law_shown => k_is); (case a__law_right => k_is); (case l__law_right => k_is); (case c__law_right => k_is); (case k__law_right => k_is); (case a_law => k_is); (case l_law => k_is); (case c_law => k_is); (case k_law => k_is); (case b_NOTHING => k_is); (case L_q_NOTHING_0 => k_is); (case L_q_NOTHING_1 => k_is); (case L_q_NOTHING_4 => k_is); (case b_WHOLE => k_is); (case L_q_WHOLE_0 => k_is); (case b_ZERO => k_is); (case L_q_ZERO_0 => k_is); (case z_len => k_is); (case z_abs => k_is); (case z_list => k_is); (case z_tuple => k_is); (case z_all => k_is); (case z_any => k_is); (case z_sum => k_is); (case z_max => k_is); (case z_min => k_is); (case z_repr => k_is); (case z_isinstance => k_is); (case z_int => k_is); (case z_bool => k_is); (case z_str => k_is); (case z_dict => k_is); (case z_range => k_is); (case z_zip => k_is); (case z_enumerate => k_is); (case z_reversed => k_is); (case z_sorted => k_is); (case z_set => k_is)


