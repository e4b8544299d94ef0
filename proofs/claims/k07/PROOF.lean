import PyProof.Rows.All
import Wide.All
import OpenK.AllK
import Wide.FinOn
import PyProof.EqAt
import PyProof.EqKinds
import PyProof.TupleCall
import HandS.ForMost
import HandS.Exc
import HandS.TryOnly
import HandS.ExcOwn
import HandS.CallSlots
import HandS.WordsExc
import HandS.Wide
import HandS.WideBits
import HandS.Flt
import HandS.TupLe
import HandS.Defaults
import HandS.More
import HandS.ExcValue
import HandS.ExcIs
import HandS.HeadEnd
import HandS.HeadHook1
import HandS.HeadHook2
import HandS.Iter
import PyProof.LongRange
import HandS.IsInst
import HandS.Flow
import HandS.Head0
import HandS.Head1
import HandS.Head2
import PySem.Challenge.RW_moonrelay_k07_round_of_all
import Lean
set_option Elab.async false
set_option linter.all false
set_option maxRecDepth 100000
set_option maxHeartbeats 0
namespace Mo
open PySem PySem.Spec PyProof.Rows L2
/-- plain data -/
inductive D where
  | non | bl (b : Bool) | int (i : Int) | str (s : Str)
  | tup (xs : List D) | lst (xs : List D) | dct (ks vs : List D) | ins (c : Str) (ns : List Str) (vs : List D) | exn (c : String)
deriving Inhabited
def Ex (H H' : Hp) : Prop := ∀ a o, H a = some o → H' a = some o
theorem Ex.refl (H : Hp) : Ex H H := fun _ _ h => h
theorem Ex.trans {H H1 H2 : Hp} (a : Ex H H1) (b : Ex H1 H2) : Ex H H2 := fun x o h => b x o (a x o h)
theorem Ex.new {H : Hp} {p : Addr} {o : HO} (h : H p = none) : Ex H (upd H p o) := fun a u e => by
  rw [upd_ne (ne_of_none e h)]
  exact e
theorem Ex.upd2 {H H' : Hp} {p : Addr} {o : HO} (h : Ex H H') : Ex (upd H p o) (upd H' p o) := fun a u e => by
  by_cases q : a = p
  · subst q; rw [upd_same] at e ⊢; exact e
  · rw [upd_ne q] at e ⊢; exact h a u e
theorem Ex.mut {F H : Hp} {p : Addr} {o : HO} (h : Ex F H) (n : F p = none) : Ex F (upd H p o) := fun a u e => by
  rw [upd_ne (ne_of_none e n)]; exact h a u e
theorem Ex.free {H H' : Hp} (e : Ex H H') {l : Addr} (h : H' l = none) : H l = none := by
  cases q : H l with
  | none => rfl
  | some o => rw [e l o q] at h; cases h
theorem Ex.rd {H H' : Hp} {a : Addr} {u : HO} (e : Ex H H') (h : Rd H a u) : Rd H' a u := by
  rcases h with h | ⟨o, h⟩
  · exact .inl (e a _ h)
  · exact .inr ⟨o, e a _ h⟩
theorem Ex.sql {K : PySem.W.Frag} {H H' : Hp} {a : Addr} {xs : List V} (e : Ex H H') (h : SqL K H a xs) : SqL K H' a xs := by
  rcases h with h | h
  · exact .inl (e.rd h)
  · exact .inr h
theorem Ex.sqt {K : PySem.W.Frag} {H H' : Hp} {a : Addr} {xs : List V} (e : Ex H H') (h : SqT K H a xs) : SqT K H' a xs := by
  rcases h with h | h
  · exact .inl (e.rd h)
  · exact .inr h
/-- a key of a dict -/
def keyD : Key → D
  | .inl i => .int i
  | .inr s => .str s
def dKey : D → Option Key
  | .int i => some (.inl i)
  | .str s => some (.inr s)
  | _ => none
theorem dKey_eq {d : D} {k : Key} (h : dKey d = some k) : d = keyD k := by
  cases d <;> simp [dKey] at h <;> subst h <;> rfl
@[simp] theorem dKey_keyD (k : Key) : dKey (keyD k) = some k := by cases k <;> rfl
/-- an exception of a class, at its address -/
def ExH (cls : Value) (a : Addr) : HO := .ext fun h => ∃ (oe : Obj) (vs : Array Value), h.get? a = some oe ∧ Zc cls none oe ∧ oe.data = .fields vs
mutual
/-- v stands for the data d, by what stands in T for ever -/
def Rep (K : PySem.W.Frag) (T : Hp) : D → V → Prop
  | .non, v => v = .non
  | .bl b, v => v = .bl b
  | .int i, v => v = .int i
  | .str s, v => v = .str s
  | .tup ds, v => ∃ a vs, v = .ref a ∧ SqT K T a vs ∧ RepL K T ds vs
  | .lst ds, v => ∃ a vs, v = .ref a ∧ SqL K T a vs ∧ RepL K T ds vs
  | .dct ks ds, v => ∃ a kvs, v = .ref a ∧ Rd T a (.dK kvs) ∧ ks = kvs.map (fun p => keyD p.1) ∧ RepL K T ds (kvs.map (·.2))
  | .ins c ns ds, v => ∃ a dx fs, v = .ref a ∧ T a = some (.ins (He.ga K c) dx fs) ∧ fs.map (·.1) = ns ∧ RepL K T ds (fs.map (·.2))
  | .exn c, v => ∃ a, v = .ref a ∧ T a = some (ExH (.ref (He.ga K (Str.ofString c))) a)
def RepL (K : PySem.W.Frag) (T : Hp) : List D → List V → Prop
  | [], vs => vs = []
  | d :: ds, vs => ∃ v r, vs = v :: r ∧ Rep K T d v ∧ RepL K T ds r
end
mutual
theorem Rep.mono {K : PySem.W.Frag} {T T' : Hp} (e : Ex T T') : ∀ {d : D} {v : V}, Rep K T d v → Rep K T' d v
  | .non, _, h => h
  | .bl _, _, h => h
  | .int _, _, h => h
  | .str _, _, h => h
  | .tup _, _, ⟨a, vs, e1, e2, e3⟩ => ⟨a, vs, e1, e.sqt e2, RepL.mono e e3⟩
  | .lst _, _, ⟨a, vs, e1, e2, e3⟩ => ⟨a, vs, e1, e.sql e2, RepL.mono e e3⟩
  | .dct _ _, _, ⟨a, kvs, e1, e2, e3, e4⟩ => ⟨a, kvs, e1, e.rd e2, e3, RepL.mono e e4⟩
  | .ins _ _ _, _, ⟨a, dx, fs, e1, e2, e3, e4⟩ => ⟨a, dx, fs, e1, e _ _ e2, e3, RepL.mono e e4⟩
  | .exn _, _, ⟨a, e1, e2⟩ => ⟨a, e1, e _ _ e2⟩
theorem RepL.mono {K : PySem.W.Frag} {T T' : Hp} (e : Ex T T') : ∀ {ds : List D} {vs : List V}, RepL K T ds vs → RepL K T' ds vs
  | [], _, h => h
  | _ :: _, _, ⟨v, r, e1, e2, e3⟩ => ⟨v, r, e1, Rep.mono e e2, RepL.mono e e3⟩
end
section
variable {K : PySem.W.Frag} {T : Hp}
theorem RepL.length : ∀ {ds : List D} {vs : List V}, RepL K T ds vs → ds.length = vs.length
  | [], vs, h => by
    have e : vs = [] := h
    subst e; rfl
  | _ :: _, _, ⟨v, r, e1, _, e3⟩ => by rw [e1]; simp [RepL.length e3]
theorem RepL.get : ∀ {ds : List D} {vs : List V} {i : Nat} {d : D}, RepL K T ds vs → ds[i]? = some d → ∃ v, vs[i]? = some v ∧ Rep K T d v
  | [], _, _, _, _, h => by simp at h
  | _ :: _, _, 0, _, ⟨v, r, e1, e2, _⟩, h => by simp at h; subst h; exact ⟨v, by rw [e1]; rfl, e2⟩
  | _ :: _, _, i + 1, _, ⟨v, r, e1, _, e3⟩, h => by
    obtain ⟨w, h1, h2⟩ := RepL.get (i := i) e3 (by simpa using h)
    exact ⟨w, by rw [e1]; simpa using h1, h2⟩
theorem RepL.getV : ∀ {ds : List D} {vs : List V} {i : Nat} {v : V}, RepL K T ds vs → vs[i]? = some v → ∃ d, ds[i]? = some d ∧ Rep K T d v
  | [], vs, _, _, h, q => by
    have e : vs = [] := h
    subst e; simp at q
  | d :: _, _, 0, _, ⟨v, r, e1, e2, _⟩, h => by rw [e1] at h; simp at h; subst h; exact ⟨d, rfl, e2⟩
  | _ :: _, _, i + 1, _, ⟨v, r, e1, _, e3⟩, h => by
    rw [e1] at h
    obtain ⟨w, h1, h2⟩ := RepL.getV (i := i) e3 (by simpa using h)
    exact ⟨w, by simpa using h1, h2⟩
theorem RepL.append : ∀ {ds es : List D} {vs ws : List V}, RepL K T ds vs → RepL K T es ws → RepL K T (ds ++ es) (vs ++ ws)
  | [], _, vs, _, h, q => by
    have e : vs = [] := h
    subst e; exact q
  | _ :: _, _, _, _, ⟨v, r, e1, e2, e3⟩, q => ⟨v, r ++ _, by rw [e1]; rfl, e2, RepL.append e3 q⟩
theorem RepL.one {d : D} {v : V} (h : Rep K T d v) : RepL K T [d] [v] := ⟨v, [], rfl, h, rfl⟩
theorem RepL.set {d : D} {v : V} (h : Rep K T d v) : ∀ {ds : List D} {vs : List V} (i : Nat), RepL K T ds vs → RepL K T (ds.set i d) (vs.set i v)
  | [], vs, _, h => by
    have e : vs = [] := h
    subst e; exact rfl
  | _ :: _, _, 0, ⟨w, r, e1, _, e3⟩ => ⟨v, r, by rw [e1]; rfl, h, e3⟩
  | _ :: _, _, i + 1, ⟨w, r, e1, e2, e3⟩ => ⟨w, r.set i v, by rw [e1]; rfl, e2, RepL.set h i e3⟩
theorem RepL.take : ∀ {ds : List D} {vs : List V} (n : Nat), RepL K T ds vs → RepL K T (ds.take n) (vs.take n)
  | _, _, 0, _ => by simp [RepL]
  | [], vs, _ + 1, h => by
    have e : vs = [] := h
    subst e; simp [RepL]
  | _ :: _, _, n + 1, ⟨v, r, e1, e2, e3⟩ => ⟨v, r.take n, by rw [e1]; rfl, e2, RepL.take n e3⟩
theorem RepL.drop : ∀ {ds : List D} {vs : List V} (n : Nat), RepL K T ds vs → RepL K T (ds.drop n) (vs.drop n)
  | _, _, 0, h => h
  | [], vs, _ + 1, h => by
    have e : vs = [] := h
    subst e; simp [RepL]
  | _ :: _, _, n + 1, ⟨v, r, e1, e2, e3⟩ => by rw [e1]; exact RepL.drop n e3
end
/-- what a frame holds: data, or objects of its own over such -/
inductive MO where
  | cl (d : D) | tup (ms : List MO) | lst (ms : List MO) | dct (ks : List D) (ms : List MO) | ins (c : Str) (ns : List Str) (ms : List MO)
deriving Inhabited
mutual
def MO.toD : MO → D
  | .cl d => d
  | .tup ms => .tup (MO.toDL ms)
  | .lst ms => .lst (MO.toDL ms)
  | .dct ks ms => .dct ks (MO.toDL ms)
  | .ins c ns ms => .ins c ns (MO.toDL ms)
def MO.toDL : List MO → List D
  | [] => []
  | m :: ms => m.toD :: MO.toDL ms
end
@[simp] theorem MO.toDL_cl (ds : List D) : MO.toDL (ds.map .cl) = ds := by
  induction ds with
  | nil => rfl
  | cons d r ih => simp [MO.toDL, MO.toD, ih]
theorem MO.toDL_map (ms : List MO) : MO.toDL ms = ms.map MO.toD := by
  induction ms with
  | nil => rfl
  | cons d r ih => simp [MO.toDL, ih]
mutual
/-- v stands for m: its own objects at A (in H), the data in F -/
def ORep (K : PySem.W.Frag) (F H : Hp) : MO → V → List Addr → Prop
  | .cl d, v, A => Rep K F d v ∧ A = []
  | .tup ms, v, A => ∃ a vs B, v = .ref a ∧ Rd H a (.tup vs) ∧ ORepL K F H ms vs B ∧ A = a :: B
  | .lst ms, v, A => ∃ a vs B, v = .ref a ∧ Rd H a (.lst vs) ∧ ORepL K F H ms vs B ∧ A = a :: B
  | .dct ks ms, v, A => ∃ a kvs B, v = .ref a ∧ Rd H a (.dK kvs) ∧ ks = kvs.map (fun p => keyD p.1) ∧ ORepL K F H ms (kvs.map (·.2)) B ∧ A = a :: B
  | .ins c ns ms, v, A => ∃ a dx fs B, v = .ref a ∧ H a = some (.ins (He.ga K c) dx fs) ∧ fs.map (·.1) = ns ∧ ORepL K F H ms (fs.map (·.2)) B ∧ A = a :: B
def ORepL (K : PySem.W.Frag) (F H : Hp) : List MO → List V → List Addr → Prop
  | [], vs, A => vs = [] ∧ A = []
  | m :: ms, vs, A => ∃ v r A1 A2, vs = v :: r ∧ ORep K F H m v A1 ∧ ORepL K F H ms r A2 ∧ A = A1 ++ A2
end
theorem rd_keep {H H' : Hp} {a : Addr} {u : HO} (k : ∀ o, H a = some o → H' a = some o) (h : Rd H a u) : Rd H' a u := by
  rcases h with q | ⟨o, q⟩
  · exact .inl (k _ q)
  · exact .inr ⟨o, k _ q⟩
theorem rd_there {H : Hp} {a : Addr} {u : HO} (h : Rd H a u) : H a ≠ none := by
  rcases h with q | ⟨o, q⟩ <;> rw [q] <;> simp
mutual
theorem ORep.mono {K : PySem.W.Frag} {F F' H H' : Hp} (eF : Ex F F') : ∀ {m : MO} {v : V} {A : List Addr}, ORep K F H m v A → (∀ a ∈ A, ∀ o, H a = some o → H' a = some o) → ORep K F' H' m v A
  | .cl _, _, _, ⟨h, e⟩, _ => ⟨h.mono eF, e⟩
  | .tup _, _, _, ⟨a, vs, B, e1, e2, e3, e4⟩, k => ⟨a, vs, B, e1, rd_keep (k a (by rw [e4]; exact List.mem_cons_self)) e2, ORepL.mono eF e3 (fun b hb o q => k b (by rw [e4]; exact List.mem_cons_of_mem _ hb) o q), e4⟩
  | .lst _, _, _, ⟨a, vs, B, e1, e2, e3, e4⟩, k => ⟨a, vs, B, e1, rd_keep (k a (by rw [e4]; exact List.mem_cons_self)) e2, ORepL.mono eF e3 (fun b hb o q => k b (by rw [e4]; exact List.mem_cons_of_mem _ hb) o q), e4⟩
  | .dct _ _, _, _, ⟨a, kvs, B, e1, e2, e3, e4, e5⟩, k => ⟨a, kvs, B, e1, rd_keep (k a (by rw [e5]; exact List.mem_cons_self)) e2, e3, ORepL.mono eF e4 (fun b hb o q => k b (by rw [e5]; exact List.mem_cons_of_mem _ hb) o q), e5⟩
  | .ins _ _ _, _, _, ⟨a, dx, fs, B, e1, e2, e3, e4, e5⟩, k => ⟨a, dx, fs, B, e1, k a (by rw [e5]; exact List.mem_cons_self) _ e2, e3,
      ORepL.mono eF e4 (fun b hb o q => k b (by rw [e5]; exact List.mem_cons_of_mem _ hb) o q), e5⟩
theorem ORepL.mono {K : PySem.W.Frag} {F F' H H' : Hp} (eF : Ex F F') : ∀ {ms : List MO} {vs : List V} {A : List Addr}, ORepL K F H ms vs A → (∀ a ∈ A, ∀ o, H a = some o → H' a = some o) → ORepL K F' H' ms vs A
  | [], _, _, h, _ => h
  | _ :: _, _, _, ⟨v, r, A1, A2, e1, e2, e3, e4⟩, k => ⟨v, r, A1, A2, e1, ORep.mono eF e2 (fun a ha => k a (by rw [e4]; exact List.mem_append_left _ ha)), ORepL.mono eF e3 (fun a ha => k a (by rw [e4]; exact List.mem_append_right _ ha)), e4⟩
end
mutual
/-- own objects are there -/
theorem ORep.there {K : PySem.W.Frag} {F H : Hp} : ∀ {m : MO} {v : V} {A : List Addr}, ORep K F H m v A → ∀ a ∈ A, H a ≠ none
  | .cl _, _, _, ⟨_, e⟩, a, ha => by rw [e] at ha; simp at ha
  | .tup _, _, _, ⟨b, vs, B, e1, e2, e3, e4⟩, a, ha => by
      rw [e4] at ha
      rcases List.mem_cons.mp ha with h | h
      · subst h; exact rd_there e2
      · exact ORepL.there e3 a h
  | .lst _, _, _, ⟨b, vs, B, e1, e2, e3, e4⟩, a, ha => by
      rw [e4] at ha
      rcases List.mem_cons.mp ha with h | h
      · subst h; exact rd_there e2
      · exact ORepL.there e3 a h
  | .dct _ _, _, _, ⟨b, kvs, B, e1, e2, e3, e4, e5⟩, a, ha => by
      rw [e5] at ha
      rcases List.mem_cons.mp ha with h | h
      · subst h; exact rd_there e2
      · exact ORepL.there e4 a h
  | .ins _ _ _, _, _, ⟨b, dx, fs, B, e1, e2, e3, e4, e5⟩, a, ha => by
      rw [e5] at ha
      rcases List.mem_cons.mp ha with h | h
      · subst h; rw [e2]; simp
      · exact ORepL.there e4 a h
theorem ORepL.there {K : PySem.W.Frag} {F H : Hp} : ∀ {ms : List MO} {vs : List V} {A : List Addr}, ORepL K F H ms vs A → ∀ a ∈ A, H a ≠ none
  | [], _, _, ⟨_, e⟩, a, ha => by rw [e] at ha; simp at ha
  | _ :: _, _, _, ⟨v, r, A1, A2, e1, e2, e3, e4⟩, a, ha => by
      rw [e4] at ha
      rcases List.mem_append.mp ha with h | h
      · exact ORep.there e2 a h
      · exact ORepL.there e3 a h
end
mutual
/-- what is read off a whole object as data -/
theorem ORep.rep {K : PySem.W.Frag} {F H : Hp} {T : Hp} (e : Ex F T) : ∀ {m : MO} {v : V} {A : List Addr}, ORep K F H m v A → (∀ a ∈ A, ∀ o, H a = some o → T a = some o) → Rep K T m.toD v
  | .cl _, _, _, ⟨h, _⟩, _ => h.mono e
  | .tup _, _, _, ⟨a, vs, B, e1, e2, e3, e4⟩, k => ⟨a, vs, e1, .inl (rd_keep (k a (by rw [e4]; exact List.mem_cons_self)) e2), ORepL.rep e e3 (fun b hb o q => k b (by rw [e4]; exact List.mem_cons_of_mem _ hb) o q)⟩
  | .lst _, _, _, ⟨a, vs, B, e1, e2, e3, e4⟩, k => ⟨a, vs, e1, .inl (rd_keep (k a (by rw [e4]; exact List.mem_cons_self)) e2), ORepL.rep e e3 (fun b hb o q => k b (by rw [e4]; exact List.mem_cons_of_mem _ hb) o q)⟩
  | .dct _ _, _, _, ⟨a, kvs, B, e1, e2, e3, e4, e5⟩, k => ⟨a, kvs, e1, rd_keep (k a (by rw [e5]; exact List.mem_cons_self)) e2, e3, ORepL.rep e e4 (fun b hb o q => k b (by rw [e5]; exact List.mem_cons_of_mem _ hb) o q)⟩
  | .ins _ _ _, _, _, ⟨a, dx, fs, B, e1, e2, e3, e4, e5⟩, k => ⟨a, dx, fs, e1, k a (by rw [e5]; exact List.mem_cons_self) _ e2, e3, ORepL.rep e e4 (fun b hb o q => k b (by rw [e5]; exact List.mem_cons_of_mem _ hb) o q)⟩
theorem ORepL.rep {K : PySem.W.Frag} {F H : Hp} {T : Hp} (e : Ex F T) : ∀ {ms : List MO} {vs : List V} {A : List Addr}, ORepL K F H ms vs A → (∀ a ∈ A, ∀ o, H a = some o → T a = some o) → RepL K T (MO.toDL ms) vs
  | [], _, _, ⟨h, _⟩, _ => h
  | _ :: _, _, _, ⟨v, r, A1, A2, e1, e2, e3, e4⟩, k => ⟨v, r, e1, ORep.rep e e2 (fun a ha => k a (by rw [e4]; exact List.mem_append_left _ ha)), ORepL.rep e e3 (fun a ha => k a (by rw [e4]; exact List.mem_append_right _ ha))⟩
end
/-- a row of data as a row of objects -/
theorem ORepL.of {K : PySem.W.Frag} {F H : Hp} : ∀ {ds : List D} {vs : List V}, RepL K F ds vs → ORepL K F H (ds.map .cl) vs []
  | [], _, h => ⟨h, rfl⟩
  | _ :: _, _, ⟨v, r, e1, e2, e3⟩ => ⟨v, r, [], [], e1, ⟨e2, rfl⟩, ORepL.of e3, rfl⟩
theorem ORepL.length {K : PySem.W.Frag} {F H : Hp} : ∀ {ms : List MO} {vs : List V} {A : List Addr}, ORepL K F H ms vs A → ms.length = vs.length
  | [], vs, _, ⟨h, _⟩ => by subst h; rfl
  | _ :: _, _, _, ⟨v, r, A1, A2, e1, e2, e3, e4⟩ => by rw [e1]; simp [ORepL.length e3]
theorem ORepL.get {K : PySem.W.Frag} {F H : Hp} : ∀ {ms : List MO} {vs : List V} {A : List Addr} {i : Nat} {m : MO}, ORepL K F H ms vs A → ms[i]? = some m → ∃ v B, vs[i]? = some v ∧ ORep K F H m v B ∧ ∀ a ∈ B, a ∈ A
  | [], _, _, _, _, _, h => by simp at h
  | _ :: _, _, _, 0, _, ⟨v, r, A1, A2, e1, e2, e3, e4⟩, h => by
    simp at h; subst h
    exact ⟨v, A1, by rw [e1]; rfl, e2, fun a h => by rw [e4]; exact List.mem_append_left _ h⟩
  | _ :: _, _, _, i + 1, _, ⟨v, r, A1, A2, e1, e2, e3, e4⟩, h => by
    obtain ⟨v', B, h1, h2, h3⟩ := ORepL.get (i := i) e3 (by simpa using h)
    exact ⟨v', B, by rw [e1]; simpa using h1, h2, fun a h => by rw [e4]; exact List.mem_append_right _ (h3 a h)⟩
theorem rd_inj {H : Hp} {a : Addr} {u u' : HO} (h : Rd H a u) (h' : Rd H a u') (n : ∀ o x, u ≠ .frz o x) (n' : ∀ o x, u' ≠ .frz o x) : u = u' := by
  rcases h with h | ⟨o, h⟩
  · rcases h' with h' | ⟨o', h'⟩
    · rw [h] at h'; exact Option.some.inj h'
    · rw [h] at h'; exact absurd (Option.some.inj h') (n _ _)
  · rcases h' with h' | ⟨o', h'⟩
    · rw [h] at h'; exact absurd (Option.some.inj h').symm (n' _ _)
    · rw [h] at h'; cases h'; rfl
mutual
/-- an object's own places are told by its value -/
theorem ORep.addrs {K : PySem.W.Frag} {F H : Hp} : ∀ {m : MO} {v : V} {A A' : List Addr}, ORep K F H m v A → ORep K F H m v A' → A = A'
  | .cl _, _, _, _, ⟨_, e⟩, ⟨_, e'⟩ => by rw [e, e']
  | .tup _, _, _, _, ⟨a, vs, B, e1, e2, e3, e4⟩, ⟨a', vs', B', e1', e2', e3', e4'⟩ => by
    rw [e1] at e1'; cases e1'
    cases rd_inj e2 e2' (by simp) (by simp)
    rw [e4, e4', ORepL.addrs e3 e3']
  | .lst _, _, _, _, ⟨a, vs, B, e1, e2, e3, e4⟩, ⟨a', vs', B', e1', e2', e3', e4'⟩ => by
    rw [e1] at e1'; cases e1'
    cases rd_inj e2 e2' (by simp) (by simp)
    rw [e4, e4', ORepL.addrs e3 e3']
  | .dct _ _, _, _, _, ⟨a, kvs, B, e1, e2, e3, e4, e5⟩, ⟨a', kvs', B', e1', e2', e3', e4', e5'⟩ => by
    rw [e1] at e1'; cases e1'
    cases rd_inj e2 e2' (by simp) (by simp)
    rw [e5, e5', ORepL.addrs e4 e4']
  | .ins _ _ _, _, _, _, ⟨a, dx, fs, B, e1, e2, e3, e4, e5⟩, ⟨a', dx', fs', B', e1', e2', e3', e4', e5'⟩ => by
    rw [e1] at e1'; cases e1'
    rw [e2] at e2'; cases e2'
    rw [e5, e5', ORepL.addrs e4 e4']
theorem ORepL.addrs {K : PySem.W.Frag} {F H : Hp} : ∀ {ms : List MO} {vs : List V} {A A' : List Addr}, ORepL K F H ms vs A → ORepL K F H ms vs A' → A = A'
  | [], _, _, _, ⟨_, e⟩, ⟨_, e'⟩ => by rw [e, e']
  | _ :: _, _, _, _, ⟨v, r, A1, A2, e1, e2, e3, e4⟩, ⟨v', r', A1', A2', e1', e2', e3', e4'⟩ => by
    rw [e1] at e1'; cases e1'
    rw [e4, e4', ORep.addrs e2 e2', ORepL.addrs e3 e3']
end
theorem ORepL.append {K : PySem.W.Frag} {F H : Hp} : ∀ {ms ns : List MO} {vs ws : List V} {A B : List Addr}, ORepL K F H ms vs A → ORepL K F H ns ws B → ORepL K F H (ms ++ ns) (vs ++ ws) (A ++ B)
  | [], _, vs, _, A, _, ⟨e1, e2⟩, q => by subst e1 e2; exact q
  | _ :: _, _, _, _, _, _, ⟨v, r, A1, A2, e1, e2, e3, e4⟩, q => ⟨v, r ++ _, A1, A2 ++ _, by rw [e1]; rfl, e2, ORepL.append e3 q, by rw [e4, List.append_assoc]⟩
/-- the heaps at a place: what stands for ever, that and what others own, all -/
structure Wd where
  F : Hp
  G : Hp
  H : Hp
structure WOk (w : Wd) : Prop where
  fg : Ex w.F w.G
  gh : Ex w.G w.H
theorem WOk.fh {w : Wd} (k : WOk w) : Ex w.F w.H := k.fg.trans k.gh
structure WLe (w w' : Wd) : Prop where
  f : Ex w.F w'.F
  g : Ex w.G w'.G
  h : Ex w.H w'.H
  ff : ∀ a, w.H a ≠ none → w.F a = none → w'.F a = none
  gg : ∀ a, w.H a ≠ none → w.G a = none → w'.G a = none
theorem WLe.refl (w : Wd) : WLe w w := ⟨.refl _, .refl _, .refl _, fun _ _ h => h, fun _ _ h => h⟩
theorem ex_some {H H' : Hp} (e : Ex H H') {a : Addr} (h : H a ≠ none) : H' a ≠ none := by
  cases q : H a with
  | none => exact absurd q h
  | some o => rw [e a o q]; simp
theorem WLe.trans {w w1 w2 : Wd} (a : WLe w w1) (b : WLe w1 w2) : WLe w w2 :=
  ⟨a.f.trans b.f, a.g.trans b.g, a.h.trans b.h, fun x h q => b.ff x (ex_some a.h h) (a.ff x h q), fun x h q => b.gg x (ex_some a.h h) (a.gg x h q)⟩
/-- a new thing that stands for ever -/
def Wd.add (w : Wd) (p : Addr) (o : HO) : Wd := ⟨upd w.F p o, upd w.G p o, upd w.H p o⟩
/-- a new own thing -/
def Wd.own (w : Wd) (p : Addr) (o : HO) : Wd := ⟨w.F, w.G, upd w.H p o⟩
theorem Wd.add_ok {w : Wd} (k : WOk w) {p : Addr} {o : HO} : WOk (w.add p o) := ⟨k.fg.upd2, k.gh.upd2⟩
theorem Wd.add_le {w : Wd} (k : WOk w) {p : Addr} {o : HO} (n : w.H p = none) : WLe w (w.add p o) := by
  have g := k.gh.free n
  refine ⟨.new (k.fg.free g), .new g, .new n, fun a h q => ?_, fun a h q => ?_⟩
  · show upd _ _ _ _ = _
    rw [upd_ne (by rintro rfl; exact h n)]; exact q
  · show upd _ _ _ _ = _
    rw [upd_ne (by rintro rfl; exact h n)]; exact q
theorem Wd.own_ok {w : Wd} (k : WOk w) {p : Addr} {o : HO} (n : w.H p = none) : WOk (w.own p o) := ⟨k.fg, k.gh.trans (.new n)⟩
theorem Wd.own_le {w : Wd} {p : Addr} {o : HO} (n : w.H p = none) : WLe w (w.own p o) := ⟨.refl _, .refl _, .new n, fun _ _ h => h, fun _ _ h => h⟩
/-- own objects may be changed: they are not known to stand, none is told twice -/
structure Own (w : Wd) (A : List Addr) : Prop where
  nd : A.Nodup
  no : ∀ a ∈ A, w.G a = none ∧ ∀ o u, w.H a ≠ some (.frz o u)
/-- own things stand for ever from now on -/
def Wd.frz (w : Wd) (A : List Addr) : Wd := ⟨fun a => if a ∈ A then w.H a else w.F a, fun a => if a ∈ A then w.H a else w.G a, w.H⟩
theorem Wd.frz_ok {w : Wd} (k : WOk w) (A : List Addr) : WOk (w.frz A) := by
  refine ⟨fun a o h => ?_, fun a o h => ?_⟩
  · show (if a ∈ A then w.H a else w.G a) = some o
    have h' : (if a ∈ A then w.H a else w.F a) = some o := h
    split at h' <;> rename_i q
    · rw [if_pos q]; exact h'
    · rw [if_neg q]; exact k.fg a o h'
  · have h' : (if a ∈ A then w.H a else w.G a) = some o := h
    split at h' <;> rename_i q
    · exact h'
    · exact k.gh a o h'
theorem Wd.frz_f {w : Wd} (k : WOk w) {A : List Addr} (ow : ∀ a ∈ A, w.G a = none) : Ex w.F (w.frz A).F := fun a o h => by
  show (if a ∈ A then w.H a else w.F a) = some o
  split
  · exact k.fh a o h
  · exact h
theorem Wd.frz_g {w : Wd} (k : WOk w) {A : List Addr} (ow : ∀ a ∈ A, w.G a = none) : Ex w.G (w.frz A).G := fun a o h => by
  show (if a ∈ A then w.H a else w.G a) = some o
  split
  · exact k.gh a o h
  · exact h
theorem Wd.frz_at {w : Wd} {A : List Addr} {a : Addr} (h : a ∈ A) {o : HO} (e : w.H a = some o) : (w.frz A).F a = some o := by
  show (if a ∈ A then w.H a else w.F a) = some o
  rw [if_pos h]; exact e
theorem Wd.frz_no {w : Wd} {A : List Addr} {a : Addr} (h : a ∉ A) (e : w.G a = none) : (w.frz A).G a = none := by
  show (if a ∈ A then w.H a else w.G a) = none
  rw [if_neg h]; exact e
theorem Wd.frz_noF {w : Wd} {A : List Addr} {a : Addr} (h : a ∉ A) (e : w.F a = none) : (w.frz A).F a = none := by
  show (if a ∈ A then w.H a else w.F a) = none
  rw [if_neg h]; exact e
/-- .. freshly made ones, from the place w0 on -/
theorem Wd.frz_le {w0 w : Wd} (l : WLe w0 w) (k : WOk w) {A : List Addr} (ow : ∀ a ∈ A, w.G a = none) (nw : ∀ a ∈ A, w0.H a = none) : WLe w0 (w.frz A) := by
  refine ⟨l.f.trans (Wd.frz_f k ow), l.g.trans (Wd.frz_g k ow), l.h, fun a h q => Wd.frz_noF (fun z => h (nw a z)) (l.ff a h q), fun a h q => Wd.frz_no (fun z => h (nw a z)) (l.gg a h q)⟩
inductive SV where
  | no | cl (d : D) | lk (m : MO) | ow (m : MO)
deriving Inhabited
/-- an expression's value: data, a locked object, an own object that is read, a new own object -/
inductive XV where
  | cl (d : D) | lk (m : MO) | tm (m : MO) | nw (m : MO)
deriving Inhabited
def SvR (K : PySem.W.Frag) (w : Wd) : SV → Option V → List Addr → Prop
  | .no, _, A => A = []
  | .cl d, o, A => ∃ v, o = some v ∧ Rep K w.F d v ∧ A = []
  | .lk m, o, A => ∃ v B, o = some v ∧ ORep K w.F w.G m v B ∧ A = []
  | .ow m, o, A => ∃ v, o = some v ∧ ORep K w.F w.H m v A
def SlR (K : PySem.W.Frag) (w : Wd) : List SV → L2.St → List Addr → Prop
  | [], σ, A => σ = [] ∧ A = []
  | s :: r, σ, A => ∃ o σ' A1 A2, σ = o :: σ' ∧ SvR K w s o A1 ∧ SlR K w r σ' A2 ∧ A = A1 ++ A2
/-- .. its own objects at B -/
def XR1 (K : PySem.W.Frag) (w : Wd) : XV → V → List Addr → Prop
  | .cl d, v, B => Rep K w.F d v ∧ B = []
  | .lk m, v, B => (∃ A, ORep K w.F w.G m v A) ∧ B = []
  | .tm m, v, B => (∃ A, ORep K w.F w.H m v A) ∧ B = []
  | .nw m, v, B => ORep K w.F w.H m v B
def XsR1 (K : PySem.W.Frag) (w : Wd) : List XV → List V → List Addr → Prop
  | [], vs, B => vs = [] ∧ B = []
  | x :: xs, vs, B => ∃ v r B1 B2, vs = v :: r ∧ XR1 K w x v B1 ∧ XsR1 K w xs r B2 ∧ B = B1 ++ B2
def XRep (K : PySem.W.Frag) (old : Addr → Prop) (w : Wd) (x : XV) (v : V) : Prop := ∃ B, XR1 K w x v B ∧ Own w B ∧ ∀ a ∈ B, ¬ old a
def XsRep (K : PySem.W.Frag) (old : Addr → Prop) (w : Wd) (xs : List XV) (vs : List V) : Prop := ∃ B, XsR1 K w xs vs B ∧ Own w B ∧ ∀ a ∈ B, ¬ old a
section
variable {K : PySem.W.Frag} {w w' w2 : Wd}
theorem SvR.mono (l : WLe w w') {s : SV} {o : Option V} {A : List Addr} (h : SvR K w s o A) : SvR K w' s o A := by
  cases s with
  | no => exact h
  | cl d => obtain ⟨v, e1, e2, e3⟩ := h; exact ⟨v, e1, e2.mono l.f, e3⟩
  | lk m => obtain ⟨v, B, e1, e2, e3⟩ := h; exact ⟨v, B, e1, e2.mono l.f (fun a _ o q => l.g a o q), e3⟩
  | ow m => obtain ⟨v, e1, e2⟩ := h; exact ⟨v, e1, e2.mono l.f (fun a _ o q => l.h a o q)⟩
theorem SlR.mono (l : WLe w w') : ∀ {sl : List SV} {σ : L2.St} {A : List Addr}, SlR K w sl σ A → SlR K w' sl σ A
  | [], _, _, h => h
  | _ :: _, _, _, ⟨o, σ', A1, A2, e1, e2, e3, e4⟩ => ⟨o, σ', A1, A2, e1, e2.mono l, SlR.mono l e3, e4⟩
theorem SvR.there {s : SV} {o : Option V} {A : List Addr} (h : SvR K w s o A) : ∀ a ∈ A, w.H a ≠ none := by
  cases s with
  | no => rw [show A = [] from h]; simp
  | cl d => obtain ⟨v, e1, e2, e3⟩ := h; rw [e3]; simp
  | lk m => obtain ⟨v, B, e1, e2, e3⟩ := h; rw [e3]; simp
  | ow m => obtain ⟨v, e1, e2⟩ := h; exact e2.there
theorem SlR.there : ∀ {sl : List SV} {σ : L2.St} {A : List Addr}, SlR K w sl σ A → ∀ a ∈ A, w.H a ≠ none
  | [], _, _, ⟨_, e⟩, a, h => by rw [e] at h; simp at h
  | _ :: _, _, _, ⟨o, σ', A1, A2, e1, e2, e3, e4⟩, a, h => by
    rw [e4] at h
    rcases List.mem_append.mp h with q | q
    · exact e2.there a q
    · exact SlR.there e3 a q
theorem Own.mono (l : WLe w w') {A : List Addr} (h : Own w A) (t : ∀ a ∈ A, w.H a ≠ none) : Own w' A :=
  ⟨h.nd, fun a ha => ⟨l.gg a (t a ha) (h.no a ha).1, fun o u q => by
    cases z : w.H a with
    | none => exact t a ha z
    | some o' =>
      have := l.h a o' z
      rw [q] at this
      cases this
      exact (h.no a ha).2 _ _ z⟩⟩
theorem XR1.mono (l : WLe w w') {x : XV} {v : V} {B : List Addr} (h : XR1 K w x v B) : XR1 K w' x v B := by
  cases x with
  | cl d => exact ⟨Rep.mono l.f h.1, h.2⟩
  | lk m => obtain ⟨⟨A, e⟩, q⟩ := h; exact ⟨⟨A, e.mono l.f (fun a _ o q => l.g a o q)⟩, q⟩
  | tm m => obtain ⟨⟨A, e⟩, q⟩ := h; exact ⟨⟨A, e.mono l.f (fun a _ o q => l.h a o q)⟩, q⟩
  | nw m => exact ORep.mono l.f h (fun a _ o q => l.h a o q)
theorem XsR1.mono (l : WLe w w') : ∀ {xs : List XV} {vs : List V} {B : List Addr}, XsR1 K w xs vs B → XsR1 K w' xs vs B
  | [], _, _, h => h
  | _ :: _, _, _, ⟨v, r, B1, B2, e1, e2, e3, e4⟩ => ⟨v, r, B1, B2, e1, e2.mono l, XsR1.mono l e3, e4⟩
theorem XR1.there {x : XV} {v : V} {B : List Addr} (h : XR1 K w x v B) : ∀ a ∈ B, w.H a ≠ none := by
  cases x with
  | nw m => exact ORep.there h
  | _ => rw [h.2]; simp
theorem XsR1.there : ∀ {xs : List XV} {vs : List V} {B : List Addr}, XsR1 K w xs vs B → ∀ a ∈ B, w.H a ≠ none
  | [], _, _, ⟨_, e⟩, a, h => by rw [e] at h; simp at h
  | _ :: _, _, _, ⟨v, r, B1, B2, e1, e2, e3, e4⟩, a, h => by
    rw [e4] at h
    rcases List.mem_append.mp h with q | q
    · exact e2.there a q
    · exact XsR1.there e3 a q
theorem XRep.mono {old : Addr → Prop} (l : WLe w w') {x : XV} {v : V} (h : XRep K old w x v) : XRep K old w' x v := by
  obtain ⟨B, e1, e2, e3⟩ := h
  exact ⟨B, e1.mono l, e2.mono l e1.there, e3⟩
theorem XRep.weak {old old' : Addr → Prop} {x : XV} {v : V} (h : XRep K old w x v) (i : ∀ a, old' a → old a) : XRep K old' w x v := by
  obtain ⟨B, e1, e2, e3⟩ := h
  exact ⟨B, e1, e2, fun a ha q => e3 a ha (i a q)⟩
theorem XRep.cl {old : Addr → Prop} {d : D} {v : V} (h : Rep K w.F d v) : XRep K old w (.cl d) v := ⟨[], ⟨h, rfl⟩, ⟨List.nodup_nil, fun a h => absurd h (by simp)⟩, fun a h => absurd h (by simp)⟩
theorem XRep.cl_of {old : Addr → Prop} {d : D} {v : V} (h : XRep K old w (.cl d) v) : Rep K w.F d v := by
  obtain ⟨_, e, _, _⟩ := h
  exact e.1
theorem SlR.length : ∀ {sl : List SV} {σ : L2.St} {A : List Addr}, SlR K w sl σ A → σ.length = sl.length
  | [], _, _, ⟨e, _⟩ => by rw [e]; rfl
  | _ :: _, _, _, ⟨o, σ', A1, A2, e1, _, e3, _⟩ => by rw [e1]; simp [SlR.length e3]
/-- a slot -/
theorem SlR.get : ∀ {sl : List SV} {σ : L2.St} {A : List Addr} {i : Nat} {s : SV}, SlR K w sl σ A → sl[i]? = some s → ∃ o B, σ[i]? = some o ∧ SvR K w s o B ∧ ∀ a ∈ B, a ∈ A
  | [], _, _, _, _, _, h => by simp at h
  | _ :: _, _, _, 0, _, ⟨o, σ', A1, A2, e1, e2, e3, e4⟩, h => by
    simp at h; subst h
    exact ⟨o, A1, by rw [e1]; rfl, e2, fun a h => by rw [e4]; exact List.mem_append_left _ h⟩
  | _ :: _, _, _, i + 1, _, ⟨o, σ', A1, A2, e1, e2, e3, e4⟩, h => by
    obtain ⟨o', B, h1, h2, h3⟩ := SlR.get (i := i) e3 (by simpa using h)
    exact ⟨o', B, by rw [e1]; simpa using h1, h2, fun a h => by rw [e4]; exact List.mem_append_right _ (h3 a h)⟩
/-- a slot is overwritten: what it owned is forgotten -/
theorem SlR.set {s' : SV} {o' : Option V} {B : List Addr} (h' : SvR K w s' o' B) : ∀ {sl : List SV} {σ : L2.St} {A : List Addr} (i : Nat), SlR K w sl σ A → A.Nodup → B.Nodup → (∀ a ∈ B, a ∉ A) →
    ∃ A', SlR K w (sl.set i s') (σ.set i o') A' ∧ A'.Nodup ∧ ∀ a ∈ A', a ∈ A ∨ a ∈ B
  | [], _, _, _, ⟨e, e'⟩, _, _, _ => ⟨[], by subst e; exact ⟨rfl, rfl⟩, List.nodup_nil, fun a h => absurd h (by simp)⟩
  | _ :: r, _, _, 0, ⟨o, σ', A1, A2, e1, e2, e3, e4⟩, nA, nB, dj => by
    subst e1 e4
    refine ⟨B ++ A2, ⟨o', σ', B, A2, rfl, h', e3, rfl⟩, ?_, fun a h => ?_⟩
    · rw [List.nodup_append] at nA ⊢
      exact ⟨nB, nA.2.1, fun a ha b hb => by rintro rfl; exact dj a ha (List.mem_append_right _ hb)⟩
    · rcases List.mem_append.mp h with q | q
      · exact .inr q
      · exact .inl (List.mem_append_right _ q)
  | _ :: r, _, _, i + 1, ⟨o, σ', A1, A2, e1, e2, e3, e4⟩, nA, nB, dj => by
    subst e1 e4
    have nA' := List.nodup_append.mp nA
    obtain ⟨A', h1, h2, h3⟩ := SlR.set h' i e3 nA'.2.1 nB (fun a ha hb => dj a ha (List.mem_append_right _ hb))
    refine ⟨A1 ++ A', ⟨o, σ'.set i o', A1, A', rfl, e2, h1, rfl⟩, ?_, fun a h => ?_⟩
    · rw [List.nodup_append]
      refine ⟨nA'.1, h2, fun a ha b hb => ?_⟩
      rintro rfl
      rcases h3 a hb with q | q
      · exact nA'.2.2 a ha a q rfl
      · exact dj a q (List.mem_append_left _ ha)
    · rcases List.mem_append.mp h with q | q
      · exact .inl (List.mem_append_left _ q)
      · rcases h3 a q with z | z
        · exact .inl (List.mem_append_right _ z)
        · exact .inr z
end
end Mo
namespace Mo
open PySem PySem.Spec PyProof.Rows L2
/-! ### what is raised; results -/
structure Exn where
  c : String
  fs : List (String × D) := []
inductive R (α : Type) where
  | stuck | ok (a : α) | exc (e : Exn)
def R.bind {α β : Type} : R α → (α → R β) → R β
  | .stuck, _ => .stuck
  | .ok a, f => f a
  | .exc e, _ => .exc e
def R.of {α : Type} : Option α → R α
  | some a => .ok a
  | none => .stuck
@[simp] theorem R.bind_ok {α β : Type} (a : α) (f : α → R β) : (R.ok a).bind f = f a := rfl
@[simp] theorem R.bind_stuck {α β : Type} (f : α → R β) : (R.stuck : R α).bind f = .stuck := rfl
@[simp] theorem R.bind_exc {α β : Type} (e : Exn) (f : α → R β) : (R.exc e : R α).bind f = .exc e := rfl
@[simp] theorem R.of_some {α : Type} (a : α) : R.of (some a) = .ok a := rfl
@[simp] theorem R.of_none {α : Type} : R.of (none : Option α) = .stuck := rfl
/-! ### the syntax -/
inductive BOp where | add | sub | mul | fdiv | mod | pow | shr
deriving DecidableEq
inductive COp where | lt | le | gt | ge | eq | ne | in_ | notIn | is_ | isnt
deriving DecidableEq
inductive Blt where | len | max2 | min2 | abs | divmod | int1 | max3 | list1
deriving DecidableEq
inductive Tg where
  | n (i : Nat) | t (ts : List Tg)
inductive Ty where | int | bool | str | tuple | list | dict
deriving DecidableEq
mutual
inductive E where
  | var (i : Nat) | int (i : Int) | bl (b : Bool) | non | str (s : Str) | gi (x : String) (i : Int) | gs (x : String) (s : Str)
  | bin (o : BOp) (a b : E) | neg (a : E) | cmp (o : COp) (a b : E) | isN (a : E) | notN (a : E) | chn (o o' : COp) (a b c : E)
  | and (a b : E) | or (a b : E) | not (a : E) | ife (c a b : E)
  | tup (es : Es) | lst (es : Es) | sub (a i : E) | call (f : String) (es : Es) | blt (b : Blt) (es : Es) | fz (a : E) | isi (t : Ty) (a : E) | isx (ds cs : List String) (a : E) | comp (elt : E) (t : Tg) (it : It) (cs : Es)
inductive Es where
  | nil | cons (e : E) (es : Es)
inductive It where
  | exp (e : E) | rng1 (a : E) | rng2 (a b : E) | rng3 (a b c : E)
end
mutual
inductive S where
  | asg (i : Nat) (e : E) | unp (t : Tg) (e : E) | par (i j : Nat) (a b : E) | app (i : Nat) (e : E) | sti (i : Nat) (k e : E)
  | ifs (c : E) (a b : Ss) | whl (c : E) (b : Ss) | for_ (t : Tg) (it : It) (b : Ss)
  | ret (e : E) | retn | mv (i : Nat) | brk | cnt | pas | rse (x : String) | frz (i : Nat) | tryk (ds : List String) (cl : String) (i j : Nat) (b : Ss)
inductive Ss where
  | nil | cons (s : S) (ss : Ss)
end
/-! ### data -/
/-- the scalars -/
def D.sc : D → Option V
  | .non => some .non
  | .bl b => some (.bl b)
  | .int i => some (.int i)
  | .str s => some (.str s)
  | _ => none
mutual
def D.py : D → Option PyData
  | .non => some .none
  | .bl b => some (.bool b)
  | .int i => some (.int i)
  | .str s => some (.str s)
  | .tup xs => (D.pyL xs).map .tuple
  | .lst xs => (D.pyL xs).map .list
  | .dct _ _ => none
  | .ins _ _ _ => none
  | .exn _ => none
def D.pyL : List D → Option (List PyData)
  | [] => some []
  | d :: ds => match d.py, D.pyL ds with
    | some p, some ps => some (p :: ps)
    | _, _ => none
end
/-- a == b, of data -/
def eqD (a b : D) : Option Bool := match a.py, b.py with
  | some p, some q => if PySem.SeqAt.shaped p = true ∧ PySem.SeqAt.shaped q = true then some (PyData.eqv p q) else none
  | _, _ => none
def scL : List D → Option (List V)
  | [] => some []
  | d :: ds => match d.sc, scL ds with
    | some v, some vs => some (v :: vs)
    | _, _ => none
def inD (a : D) (ds : List D) : Option Bool := match a.sc, scL ds with
  | some v, some vs => some (inV v vs)
  | _, _ => none
/-- what is read as a row -/
def D.seq : D → Option (List D)
  | .tup ds => some ds
  | .lst ds => some ds
  | _ => none
def mulOk (i j : Int) : Bool := decide (i.natAbs.log2 + j.natAbs.log2 < 1000000)
def bopI : BOp → Int → Int → Option D
  | .add, i, j => some (.int (i + j))
  | .sub, i, j => some (.int (i - j))
  | .mul, i, j => if i.natAbs.log2 + j.natAbs.log2 < 1000000 then some (.int (i * j)) else none
  | .fdiv, i, j => if 0 < j ∧ j.natAbs.log2 < 9000 then some (.int (i / j)) else none
  | .mod, i, j => if 0 < j then some (.int (i % j)) else none
  | .pow, i, j => if 0 ≤ j ∧ j ≤ 1000000 ∧ i.natAbs < 2 ^ 64 then some (.int (i ^ j.toNat)) else none
  | .shr, i, j => if 0 ≤ j then some (.int (i / 2 ^ j.toNat)) else none
def bop (o : BOp) : D → D → Option XV
  | .int i, .int j => (bopI o i j).map .cl
  | .str s, .str t => if o = .add ∧ s.length + t.length ≤ sizeLine then some (.cl (.str (s ++ t))) else none
  | _, _ => none
def copI : COp → Int → Int → Option Bool
  | .lt, i, j => some (decide (i < j))
  | .le, i, j => some (decide (i ≤ j))
  | .gt, i, j => some (decide (j < i))
  | .ge, i, j => some (decide (j ≤ i))
  | _, _, _ => none
def cop (o : COp) (a b : D) : Option Bool := match o with
  | .eq => eqD a b
  | .ne => (eqD a b).map (!·)
  | .in_ => match b with
    | .lst ds => inD a ds
    | .tup ds => inD a ds
    | _ => none
  | .notIn => match b with
    | .lst ds => (inD a ds).map (!·)
    | .tup ds => (inD a ds).map (!·)
    | _ => none
  | .is_ => match a, b with
    | .bl x, .bl y => some (decide (x = y))
    | _, _ => none
  | .isnt => match a, b with
    | .bl x, .bl y => some (!decide (x = y))
    | _, _ => none
  | o => match a, b with
    | .int i, .int j => copI o i j
    | _, _ => none
/-! ### values -/
def XV.d : XV → Option D
  | .cl d => some d
  | .lk m => some m.toD
  | .tm m => some m.toD
  | .nw _ => none
def XV.sub (x : XV) (m : MO) : XV := match m with
  | .cl d => .cl d
  | m => match x with
    | .lk _ => .lk m
    | _ => .tm m
def XV.mo : XV → Option MO
  | .cl d => some (.cl d)
  | .lk m => some m
  | .tm m => some m
  | .nw _ => none
/-- a row's items -/
def MO.kids : MO → Option (List MO)
  | .cl (.tup ds) => some (ds.map .cl)
  | .cl (.lst ds) => some (ds.map .cl)
  | .tup ms => some ms
  | .lst ms => some ms
  | _ => none
def idx (x i : XV) : Option XV := match x.mo, i with
  | some m, .cl (.int n) => match m.kids with
    | some ms => (atI ms n).map x.sub
    | none => match m with
      | .cl (.str s) => if s.length ≤ sizeLine then (atI s.cps.toList n).map fun c => .cl (.str ⟨#[c]⟩) else none
      | _ => none
  | _, _ => none
def lenX (x : XV) : Option Int := match x.mo with
  | some m => match m.kids with
    | some ms => some ms.length
    | none => match m with
      | .cl (.str s) => if s.length ≤ sizeLine then some s.length else none
      | _ => none
  | none => none
def lenB : List XV → Option XV
  | [x] => (lenX x).map fun n => .cl (.int n)
  | _ => none
def max2B : List XV → Option XV
  | [.cl (.int i), .cl (.int j)] => some (.cl (.int (if j > i then j else i)))
  | _ => none
def min2B : List XV → Option XV
  | [.cl (.int i), .cl (.int j)] => some (.cl (.int (if j < i then j else i)))
  | _ => none
def absB : List XV → Option XV
  | [.cl (.int i)] => some (.cl (.int (if i < 0 then -i else i)))
  | _ => none
def divmodB : List XV → Option XV
  | [.cl (.int i), .cl (.int j)] => if 0 < j ∧ j.natAbs.log2 < 9000 then some (.cl (.tup [.int (i / j), .int (i % j)])) else none
  | _ => none
def int1B : List XV → Option XV
  | [.cl (.int i)] => some (.cl (.int i))
  | [.cl (.bl k)] => some (.cl (.int (if k then 1 else 0)))
  | _ => none
def maxI (i j : Int) : Int := if i < j then j else i
def max3B : List XV → Option XV
  | [.cl (.int i), .cl (.int j), .cl (.int k)] => some (.cl (.int (maxI (maxI i j) k)))
  | _ => none
def listB : List XV → Option XV
  | [.cl (.lst ds)] => some (.nw (.lst (ds.map .cl)))
  | [.cl (.tup ds)] => some (.nw (.lst (ds.map .cl)))
  | _ => none
def blt : Blt → List XV → Option XV
  | .list1, xs => listB xs
  | .divmod, xs => divmodB xs
  | .int1, xs => int1B xs
  | .max3, xs => max3B xs
  | .len, xs => lenB xs
  | .max2, xs => max2B xs
  | .min2, xs => min2B xs
  | .abs, xs => absB xs
/-- an argument of a def -/
def XV.arg : XV → Option SV
  | .cl d => some (.cl d)
  | .lk m => some (.lk m)
  | .tm m => some (.lk m)
  | .nw _ => none
def argsOf : List XV → Option (List SV)
  | [] => some []
  | x :: xs => match x.arg, argsOf xs with
    | some s, some r => some (s :: r)
    | _, _ => none
def SV.x : SV → Option XV
  | .no => none
  | .cl d => some (.cl d)
  | .lk m => some (.lk m)
  | .ow m => some (.tm m)
def clL : List XV → Option (List D)
  | [] => some []
  | .cl d :: xs => (clL xs).map (d :: ·)
  | _ :: _ => none
/-- items of a new list -/
def moL : List XV → Option (List MO)
  | [] => some []
  | .cl d :: xs => (moL xs).map (.cl d :: ·)
  | .nw m :: xs => (moL xs).map (m :: ·)
  | _ :: _ => none
def XV.b : XV → Option Bool
  | .cl (.bl b) => some b
  | _ => none
def bopF (o : BOp) (x y : XV) : R XV := match x, y with
  | .cl d, .cl e => R.of (bop o d e)
  | _, _ => .stuck
def negF (x : XV) : R XV := match x with
  | .cl (.int i) => .ok (.cl (.int (-i)))
  | _ => .stuck
def cmpF (o : COp) (x y : XV) : R XV := match x.d, y.d with
  | some d, some e => (R.of (cop o d e)).bind fun k => .ok (.cl (.bl k))
  | _, _ => .stuck
def isNF (x : XV) : Option Bool := match x.d with
  | some .non => some true
  | some _ => some false
  | none => none
/-- the second of and, or -/
def boolF (y : XV) : R XV := match y.b with
  | some k => .ok (.cl (.bl k))
  | none => .stuck
def chnF (o' : COp) (y z : XV) (r : R XV) : R XV := match z.b with
  | some true => r.bind fun z' => cmpF o' y z'
  | some false => .ok (.cl (.bl false))
  | none => .stuck
def andF (x : XV) (r : R XV) : R XV := match x.b with
  | some true => r.bind boolF
  | some false => .ok (.cl (.bl false))
  | none => .stuck
def orF (x : XV) (r : R XV) : R XV := match x.b with
  | some false => r.bind boolF
  | some true => .ok (.cl (.bl true))
  | none => .stuck
def notF (x : XV) : R XV := match x.b with
  | some k => .ok (.cl (.bl (!k)))
  | none => .stuck
def fzF (x : XV) : R XV := match x with
  | .nw m => .ok (.cl m.toD)
  | .cl d => .ok (.cl d)
  | _ => .stuck
def tupF (xs : List XV) : R XV := if xs.length ≤ 1000 then (match clL xs with
  | some ds => .ok (.cl (.tup ds))
  | none => match moL xs with
    | some ms => .ok (.nw (.tup ms))
    | none => .stuck) else .stuck
def lstF (xs : List XV) : R XV := if xs.length ≤ 1000 then (match moL xs with
  | some ms => .ok (.nw (.lst ms))
  | none => .stuck) else .stuck
abbrev Sl := List SV
abbrev Calls := String → List SV → R XV
mutual
def tgo : Tg → D → Sl → Option Sl
  | .n i, d, sl => some (sl.set i (.cl d))
  | .t ts, .tup ds, sl => tgoL ts ds sl
  | .t _, _, _ => none
def tgoL : List Tg → List D → Sl → Option Sl
  | [], [], sl => some sl
  | t :: ts, d :: ds, sl => match tgo t d sl with
    | some sl' => tgoL ts ds sl'
    | none => none
  | _, _, _ => none
end
/-- a value's truth, of True and False alone -/
def tst (r : R XV) : R Bool := r.bind fun x => R.of x.b
def rangeD (lo : Int) (n : Nat) : List D := (List.range n).map fun (i : Nat) => D.int (lo + (i : Int))
def smallR (i : Int) : Prop := -(2 ^ 62) ≤ i ∧ i < 2 ^ 62
instance (i : Int) : Decidable (smallR i) := by unfold smallR; exact inferInstance
def itF (x : XV) : R (List D) := match x with
  | .cl (.lst ds) => .ok ds
  | .cl (.tup ds) => .ok ds
  | _ => .stuck
def rng1F (x : XV) : R (List D) := match x with
  | .cl (.int j) => .ok (rangeD 0 j.toNat)
  | _ => .stuck
def rng2F (x y : XV) : R (List D) := match x, y with
  | .cl (.int i), .cl (.int j) => .ok (rangeD i (j - i).toNat)
  | _, _ => .stuck
/-- how many turns range(i, j, c) has -/
def cntR (i j c : Int) : Nat := if i < j then ((j - i - 1) / c + 1).toNat else 0
def rangeC (lo c : Int) (n : Nat) : List D := (List.range n).map fun (i : Nat) => D.int (lo + (i : Int) * c)
def rng3F (x y z : XV) : R (List D) := match x, y, z with
  | .cl (.int i), .cl (.int j), .cl (.int c) => if 0 < c ∧ c.natAbs.log2 < 9000 then .ok (rangeC i c (cntR i j c)) else .stuck
  | _, _, _ => .stuck
mutual
/-- a target's slots -/
def Tg.slots : Tg → List Nat
  | .n i => [i]
  | .t ts => Tg.slotsL ts
def Tg.slotsL : List Tg → List Nat
  | [] => []
  | x :: r => x.slots ++ Tg.slotsL r
end
/-- the slots forgotten -/
def wipeS (sl : Sl) : List Nat → Sl
  | [] => sl
  | v :: vs => (wipeS sl vs).set v .no
/-- no error comes out -/
def nox {α : Type} (r : R α) : R α := match r with
  | .exc _ => .stuck
  | r => r
def XV.item : XV → Option MO
  | .cl d => some (.cl d)
  | .nw m => some m
  | _ => none
/-- a comprehension's items -/
def compL (g : D → Sl → Option Sl) (cnd : Sl → R Bool) (elt : Sl → R XV) (sl : Sl) : List D → R (List MO)
  | [] => .ok []
  | d :: ds => match g d sl with
    | none => .stuck
    | some s1 => (nox (cnd s1)).bind fun q => if q then (nox (elt s1)).bind fun x => (R.of x.item).bind fun m => (compL g cnd elt sl ds).bind fun r => .ok (m :: r) else compL g cnd elt sl ds
def compF (g : D → Sl → Option Sl) (cnd : Sl → R Bool) (elt : Sl → R XV) (sl : Sl) (ds : List D) : R XV := if ds.length < sizeLine then (compL g cnd elt sl ds).bind fun ms => .ok (.nw (.lst ms)) else .stuck
def Ty.nm : Ty → String
  | .int => "int" | .bool => "bool" | .str => "str" | .tuple => "tuple" | .list => "list" | .dict => "dict"
/-- a datum's type -/
def D.ty : D → Option String
  | .non => some "NoneType" | .bl _ => some "bool" | .int _ => some "int" | .str _ => some "str" | .tup _ => some "tuple" | .lst _ => some "list" | .dct _ _ => some "dict" | .ins _ _ _ => none | .exn _ => none
def isTy (a : String) (t : Ty) : Bool := a == t.nm || (a == "bool" && t.nm == "int")
def isiF (t : Ty) (x : XV) : R XV := match x.d with
  | some d => match d.ty with
    | some a => .ok (.cl (.bl (isTy a t)))
    | none => .stuck
  | none => .stuck
/-- the error classes: each its own, a RelayError, a ValueError -/
def exnIs (d c : String) : Bool := d == c || (c == "RelayError" || c == "ValueError")
def isxF (ds cs : List String) (x : XV) : R XV := match x.d with
  | some (.exn d) => if ds.contains d then .ok (.cl (.bl (cs.any (exnIs d)))) else .stuck
  | _ => .stuck
mutual
def evE (c : Calls) : E → Sl → R XV
  | .var i, sl => match sl[i]? with
    | some s => R.of s.x
    | none => .stuck
  | .int i, _ => .ok (.cl (.int i))
  | .bl b, _ => .ok (.cl (.bl b))
  | .non, _ => .ok (.cl .non)
  | .str s, _ => .ok (.cl (.str s))
  | .gi _ i, _ => .ok (.cl (.int i))
  | .gs _ s, _ => .ok (.cl (.str s))
  | .bin o a b, sl => (evE c a sl).bind fun x => (evE c b sl).bind fun y => bopF o x y
  | .neg a, sl => (evE c a sl).bind negF
  | .cmp o a b, sl => (evE c a sl).bind fun x => (evE c b sl).bind fun y => cmpF o x y
  | .isN a, sl => (evE c a sl).bind fun x => R.of ((isNF x).map fun q => .cl (.bl q))
  | .notN a, sl => (evE c a sl).bind fun x => R.of ((isNF x).map fun q => .cl (.bl (!q)))
  | .chn o o' a b e, sl => (evE c a sl).bind fun x => (evE c b sl).bind fun y => (cmpF o x y).bind fun z => chnF o' y z (evE c e sl)
  | .and a b, sl => (evE c a sl).bind fun x => andF x (evE c b sl)
  | .or a b, sl => (evE c a sl).bind fun x => orF x (evE c b sl)
  | .not a, sl => (evE c a sl).bind notF
  | .ife t a b, sl => (evE c t sl).bind fun x => match x.b with
    | some true => evE c a sl
    | some false => evE c b sl
    | none => .stuck
  | .tup es, sl => (evEs c es sl).bind tupF
  | .lst es, sl => (evEs c es sl).bind lstF
  | .sub a i, sl => (evE c a sl).bind fun x => (evE c i sl).bind fun y => R.of (idx x y)
  | .call f es, sl => (evEs c es sl).bind fun xs => match argsOf xs with
    | some ss => c f ss
    | none => .stuck
  | .blt b es, sl => (evEs c es sl).bind fun xs => R.of (blt b xs)
  | .fz a, sl => (evE c a sl).bind fzF
  | .isi t a, sl => (evE c a sl).bind (isiF t)
  | .isx ds cs a, sl => (evE c a sl).bind (isxF ds cs)
  | .comp elt t it cs, sl => (evIt c it sl).bind (compF (tgo t) (evCnd c cs) (evE c elt) (wipeS sl t.slots))
def evEs (c : Calls) : Es → Sl → R (List XV)
  | .nil, _ => .ok []
  | .cons e es, sl => (evE c e sl).bind fun x => (evEs c es sl).bind fun xs => .ok (x :: xs)
def evIt (c : Calls) : It → Sl → R (List D)
  | .exp e, sl => (evE c e sl).bind itF
  | .rng1 a, sl => (evE c a sl).bind rng1F
  | .rng2 a b, sl => (evE c a sl).bind fun x => (evE c b sl).bind fun y => rng2F x y
  | .rng3 a b d, sl => (evE c a sl).bind fun x => (evE c b sl).bind fun y => (evE c d sl).bind fun z => rng3F x y z
/-- a comprehension's test -/
def evCnd (c : Calls) : Es → Sl → R Bool
  | .nil, _ => .ok true
  | .cons e _, sl => tst (evE c e sl)
end
/-! ### statements -/
inductive Out where
  | nx (sl : Sl) | rt (x : XV) | bk (sl : Sl) | ct (sl : Sl) | ex (e : Exn) (sl : Sl)
abbrev RO := Option Out
def R.out {α : Type} (sl : Sl) (r : R α) (f : α → RO) : RO := match r with
  | .stuck => none
  | .ok a => f a
  | .exc e => some (.ex e sl)
/-- a value is put into a slot -/
def XV.keep : XV → Option SV
  | .cl d => some (.cl d)
  | .lk m => some (.lk m)
  | .nw m => some (.ow m)
  | .tm _ => none
def seqO (r : RO) (f : Sl → RO) : RO := match r with
  | some (.nx sl) => f sl
  | r => r
/-- a loop's turns, n at most -/
def loopN (t : Sl → R XV) (b : Sl → RO) : Nat → Sl → RO
  | 0, _ => none
  | n + 1, sl => (t sl).out sl fun x => match x.b with
    | some false => some (.nx sl)
    | some true => match b sl with
      | some (.nx s') => loopN t b n s'
      | some (.ct s') => loopN t b n s'
      | some (.bk s') => some (.nx s')
      | r => r
    | none => none
open Classical in
noncomputable def whl (t : Sl → R XV) (b : Sl → RO) (sl : Sl) : RO := if h : ∃ n, loopN t b n sl ≠ none then loopN t b (Classical.choose h) sl else none
def forL (g : D → Sl → Option Sl) (b : Sl → RO) : List D → Sl → RO
  | [], sl => some (.nx sl)
  | d :: ds, sl => match g d sl with
    | none => none
    | some s1 => match b s1 with
      | some (.nx s') => forL g b ds s'
      | some (.ct s') => forL g b ds s'
      | some (.bk s') => some (.nx s')
      | r => r
def retF (x : XV) : RO := match x with
  | .cl d => some (.rt (.cl d))
  | .nw m => some (.rt (.nw m))
  | _ => none
def frzF (sl : Sl) (i : Nat) : RO := match sl[i]? with
  | some (.ow m) => some (.nx (sl.set i (.cl m.toD)))
  | _ => none
def appF (sl : Sl) (i : Nat) (ms : List MO) (x : XV) : RO := match x with
  | .cl d => if ms.length < sizeLine then some (.nx (sl.set i (.ow (.lst (ms ++ [.cl d]))))) else none
  | .nw m => if ms.length < sizeLine then some (.nx (sl.set i (.ow (.lst (ms ++ [m]))))) else none
  | _ => none
def stiF (sl : Sl) (i : Nat) (ms : List MO) (x y : XV) : RO := match y, x with
  | .cl (.int n), .cl d => match ixN ms.length n with
    | some j => match ms[j]? with
      | some (.cl _) => some (.nx (sl.set i (.ow (.lst (ms.set j (.cl d))))))
      | _ => none
    | none => none
  | _, _ => none
/-- an error of the body is kept at slot j; slot i, its name's, goes -/
def catchF (ds : List String) (cl : String) (i j : Nat) (r : RO) : RO := match r with
  | some (.ex e s1) => if ds.contains e.c && (e.fs.isEmpty && decide (i < s1.length)) then (if exnIs e.c cl then some (.nx (((s1.set i (.cl (.exn e.c))).set j (.cl (.exn e.c))).set i .no)) else some (.ex e s1)) else none
  | r => r
mutual
noncomputable def evS (c : Calls) : S → Sl → RO
  | .asg i e, sl => (evE c e sl).out sl fun x => match x.keep with
    | some s => some (.nx (sl.set i s))
    | none => none
  | .unp t e, sl => (evE c e sl).out sl fun x => match x with
    | .cl d => (tgo t d sl).map .nx
    | _ => none
  | .par i j a b, sl => (evE c a sl).out sl fun x => (evE c b sl).out sl fun y => match x, y with
    | .cl d, .cl e => some (.nx ((sl.set i (.cl d)).set j (.cl e)))
    | _, _ => none
  | .app i e, sl => match sl[i]? with
    | some (.ow (.lst ms)) => (evE c e sl).out sl (appF sl i ms)
    | _ => none
  | .sti i k e, sl => match sl[i]? with
    | some (.ow (.lst ms)) => (evE c e sl).out sl fun x => (evE c k sl).out sl fun y => stiF sl i ms x y
    | _ => none
  | .ifs t a b, sl => (tst (evE c t sl)).out sl fun q => if q then evSs c a sl else evSs c b sl
  | .whl t b, sl => whl (evE c t) (evSs c b) sl
  | .for_ t it b, sl => (evIt c it sl).out sl fun ds => forL (tgo t) (evSs c b) ds sl
  | .ret e, sl => (evE c e sl).out sl retF
  | .retn, _ => some (.rt (.cl .non))
  | .mv i, sl => match sl[i]? with
    | some (.ow m) => some (.rt (.nw m))
    | _ => none
  | .brk, sl => some (.bk sl)
  | .cnt, sl => some (.ct sl)
  | .pas, sl => some (.nx sl)
  | .rse x, sl => some (.ex ⟨x, []⟩ sl)
  | .frz i, sl => frzF sl i
  | .tryk ds cl i j b, sl => catchF ds cl i j (evSs c b sl)
noncomputable def evSs (c : Calls) : Ss → Sl → RO
  | .nil, sl => some (.nx sl)
  | .cons s ss, sl => seqO (evS c s sl) (evSs c ss)
end
/-- a def's value -/
def retR (o : RO) : R XV := match o with
  | some (.rt (.cl d)) => .ok (.cl d)
  | some (.rt (.nw m)) => .ok (.nw m)
  | some (.nx _) => .ok (.cl .non)
  | some (.ex e _) => .exc e
  | _ => .stuck
noncomputable def evF (c : Calls) (np n : Nat) (body : Ss) (args : List SV) : R XV := if args.length = np then retR (evSs c body (args ++ List.replicate (n - np) .no)) else .stuck
/-! ### loops -/
theorem loopN_mono {t : Sl → R XV} {b : Sl → RO} : ∀ {n : Nat} {sl : Sl} {m : Nat}, loopN t b n sl ≠ none → n ≤ m → loopN t b m sl = loopN t b n sl
  | 0, _, _, h, _ => absurd rfl h
  | n + 1, sl, 0, _, h => by omega
  | n + 1, sl, m + 1, h, hm => by
    have ih := fun (s' : Sl) (h : loopN t b n s' ≠ none) => loopN_mono (m := m) h (by omega)
    unfold loopN at h ⊢
    cases ht : t sl with
    | stuck => rfl
    | exc e => rfl
    | ok x =>
      rw [ht] at h
      simp only [R.out] at h ⊢
      cases hx : x.b with
      | none => rfl
      | some k =>
        cases k with
        | false => rfl
        | true =>
          rw [hx] at h
          simp only at h ⊢
          cases hb : b sl with
          | none => rfl
          | some o =>
            rw [hb] at h
            cases o with
            | nx s' => exact ih s' h
            | ct s' => exact ih s' h
            | bk s' => rfl
            | rt x => rfl
            | ex e s' => rfl
theorem whl_of {t : Sl → R XV} {b : Sl → RO} {sl : Sl} {n : Nat} (h : loopN t b n sl ≠ none) : whl t b sl = loopN t b n sl := by
  have hh : ∃ n, loopN t b n sl ≠ none := ⟨n, h⟩
  unfold whl
  rw [dif_pos hh]
  have h2 := Classical.choose_spec hh
  rcases Nat.le_total n (Classical.choose hh) with q | q
  · exact loopN_mono h q
  · exact (loopN_mono h2 q).symm
theorem whl_some {t : Sl → R XV} {b : Sl → RO} {sl : Sl} {o : Out} (h : whl t b sl = some o) : ∃ n, loopN t b n sl = some o := by
  unfold whl at h
  split at h
  · exact ⟨_, h⟩
  · cases h
/-- one turn of a while -/
theorem whl_eq (t : Sl → R XV) (b : Sl → RO) (sl : Sl) : whl t b sl = (t sl).out sl fun x => match x.b with
    | some false => some (.nx sl)
    | some true => match b sl with
      | some (.nx s') => whl t b s'
      | some (.ct s') => whl t b s'
      | some (.bk s') => some (.nx s')
      | r => r
    | none => none := by
  have key : ∀ s', (∀ n, loopN t b n s' = none) → whl t b s' = none := fun s' h => by
    unfold whl
    rw [dif_neg (fun ⟨n, q⟩ => q (h n))]
  by_cases hh : ∃ n, loopN t b n sl ≠ none
  · obtain ⟨n, h⟩ := hh
    rw [whl_of h]
    cases n with
    | zero => exact absurd rfl h
    | succ n =>
      unfold loopN at h ⊢
      cases ht : t sl with
      | stuck => rfl
      | exc e => rfl
      | ok x =>
        rw [ht] at h
        simp only [R.out] at h ⊢
        cases hx : x.b with
        | none => rfl
        | some k =>
          cases k with
          | false => rfl
          | true =>
            rw [hx] at h
            simp only at h ⊢
            cases hb : b sl with
            | none => rfl
            | some o =>
              rw [hb] at h
              cases o with
              | nx s' => exact (whl_of h).symm
              | ct s' => exact (whl_of h).symm
              | bk s' => rfl
              | rt x => rfl
              | ex e s' => rfl
  · have all : ∀ n, loopN t b n sl = none := fun n => Classical.byContradiction fun q => hh ⟨n, q⟩
    rw [key sl all]
    have nxt := fun n => all (n + 1)
    unfold loopN at nxt
    cases ht : t sl with
    | stuck => rfl
    | exc e => rw [ht] at nxt; exact absurd (nxt 0) (by simp [R.out])
    | ok x =>
      rw [ht] at nxt
      simp only [R.out] at nxt ⊢
      cases hx : x.b with
      | none => rfl
      | some k =>
        rw [hx] at nxt
        cases k with
        | false => exact absurd (nxt 0) (by simp)
        | true =>
          simp only at nxt ⊢
          cases hb : b sl with
          | none => rfl
          | some o =>
            rw [hb] at nxt
            cases o with
            | nx s' => exact (key s' nxt).symm
            | ct s' => exact (key s' nxt).symm
            | bk s' => exact absurd (nxt 0) (by simp)
            | rt x => exact absurd (nxt 0) (by simp)
            | ex e s' => exact absurd (nxt 0) (by simp)
end Mo
namespace Mo
open PySem PySem.Spec PyProof.Rows L2
/-! ### all that a piece of syntax may promise -/
def weE (X : Cx) (e : Expr) : TE := fun σ H Q => ∃ t, PE X e t ∧ t σ H Q
theorem pe_we {X : Cx} {e : Expr} : PE X e (weE X e) := ⟨fun pins s σ H Q I ⟨t, h, q⟩ => h.run pins s σ H Q I q⟩
def weT (X : Cx) (e : Expr) : TT := fun σ H Q => ∃ t, PT X e t ∧ t σ H Q
theorem pt_we {X : Cx} {e : Expr} : PT X e (weT X e) := ⟨fun pins s σ H Q I ⟨t, h, q⟩ => h.run pins s σ H Q I q⟩
def weW (X : Cx) (e : Expr) : TT := fun σ H Q => ∃ t, PW X e t ∧ t σ H Q
theorem pw_we {X : Cx} {e : Expr} : PW X e (weW X e) := ⟨fun wh pins s σ H Q I ⟨t, h, q⟩ => h.run wh pins s σ H Q I q⟩
def weA (X : Cx) (es : List Expr) : TA := fun σ H Q => ∃ t, PA X es t ∧ t σ H Q
theorem pa_we {X : Cx} {es : List Expr} : PA X es (weA X es) := ⟨fun pos pins s σ H Q I ⟨t, h, q⟩ => h.run pos pins s σ H Q I q⟩
/-- what an error is -/
def ExnR (K : PySem.W.Frag) (H : Hp) (e : Exn) (cls : Value) (d : Option Addr) : Prop := cls = .ref (He.ga K (Str.ofString e.c)) ∧ e.fs = [] ∧ d = none
def PostR {α β : Type} (K : PySem.W.Frag) (Wx : WX) (rep : Wd → α → β → Prop) (σ : L2.St) (w : Wd) (r : R α) (T : (β → Hp → Prop) → Prop) : Prop := match r with
  | .stuck => True
  | .ok x => ∀ Q : β → Hp → Prop, (∀ w' v, WOk w' → WLe w w' → rep w' x v → Q v w'.H) → T Q
  | .exc e => ∀ Q : β → Hp → Prop, (∀ w' cls d, WOk w' → WLe w w' → ExnR K w'.H e cls d → Wx cls d σ w'.H) → T Q
structure At (K : PySem.W.Frag) (sl : Sl) (σ : L2.St) (A : List Addr) (w : Wd) : Prop where
  ok : WOk w
  sl : SlR K w sl σ A
  ow : Own w A
theorem At.mono {K : PySem.W.Frag} {sl : Sl} {σ : L2.St} {A : List Addr} {w w' : Wd} (h : At K sl σ A w) (l : WLe w w') (k : WOk w') : At K sl σ A w' := ⟨k, h.sl.mono l, h.ow.mono l h.sl.there⟩
abbrev old (w : Wd) : Addr → Prop := fun a => w.H a ≠ none
theorem old_le {w w' : Wd} (l : WLe w w') : ∀ a, old w a → old w' a := fun a h => ex_some l.h h
def OkE (X : Cx) (Wx : WX) (e : Expr) (f : Sl → R XV) : Prop := ∀ sl σ A w, At X.K sl σ A w → PostR X.K Wx (fun w' x v => XRep X.K (old w) w' x v) σ w (f sl) (weE X e σ w.H)
def OkT (X : Cx) (Wx : WX) (e : Expr) (f : Sl → R XV) : Prop := ∀ sl σ A w, At X.K sl σ A w → PostR X.K Wx (fun _ x b => x = b) σ w (tst (f sl)) (weT X e σ w.H)
def OkW (X : Cx) (Wx : WX) (e : Expr) (f : Sl → R XV) : Prop := ∀ sl σ A w, At X.K sl σ A w → PostR X.K Wx (fun _ x b => x = b) σ w (tst (f sl)) (weW X e σ w.H)
def OkA (X : Cx) (Wx : WX) (es : List Expr) (f : Sl → R (List XV)) : Prop := ∀ sl σ A w, At X.K sl σ A w → PostR X.K Wx (fun w' x v => XsRep X.K (old w) w' x v) σ w (f sl) (weA X es σ w.H)
section
variable {X : Cx} {Wx : WX} {K : PySem.W.Frag} {sl : Sl} {σ : L2.St} {A : List Addr} {w : Wd} {a b e : Expr} {f g : Sl → R XV}
theorem PostR.imp {α β : Type} {rep rep' : Wd → α → β → Prop} {r : R α} {T T' : (β → Hp → Prop) → Prop} (h : PostR K Wx rep σ w r T) (hT : ∀ Q, T Q → T' Q) (hr : ∀ w' x v, WLe w w' → rep w' x v → rep' w' x v) : PostR K Wx rep' σ w r T' := by
  cases r with
  | stuck => trivial
  | ok x => exact fun Q q => hT Q (h Q fun w' v k l r => q w' v k l (hr w' x v l r))
  | exc e => exact fun Q q => hT Q (h Q q)
/-- one piece, then what comes of its value -/
theorem PostR.bind {α β α' β' : Type} {rep : Wd → α → β → Prop} {rep' : Wd → α' → β' → Prop} {r : R α} {T : (β → Hp → Prop) → Prop} {T' : (β' → Hp → Prop) → Prop} {F : α → R α'} {body : β → Hp → (β' → Hp → Prop) → Prop}
    (h : PostR K Wx rep σ w r T) (hT : ∀ Q, T (fun v H1 => body v H1 Q) → T' Q)
    (hF : ∀ x w1 v, r = .ok x → WOk w1 → WLe w w1 → rep w1 x v → PostR K Wx rep' σ w1 (F x) (body v w1.H)) : PostR K Wx rep' σ w (r.bind F) T' := by
  cases r with
  | stuck => trivial
  | exc e => exact fun Q q => hT Q (h _ q)
  | ok x =>
    show PostR K Wx rep' σ w (F x) T'
    have hF' := fun w1 v => hF x w1 v rfl
    cases hx : F x with
    | stuck => trivial
    | exc e =>
      rw [hx] at hF'
      exact fun Q q => hT Q (h _ fun w1 v k l r => hF' w1 v k l r Q fun w' cls d k' l' => q w' cls d k' (l.trans l'))
    | ok z =>
      rw [hx] at hF'
      exact fun Q q => hT Q (h _ fun w1 v k l r => hF' w1 v k l r Q fun w' u k' l' => q w' u k' (l.trans l'))
theorem PostR.ret {α β : Type} {rep : Wd → α → β → Prop} {x : α} {v : β} (k : WOk w) (r : rep w x v) : PostR K Wx rep σ w (.ok x) (fun Q => Q v w.H) := fun Q q => q w v k (WLe.refl w) r
/-- the second one at the place behind the first -/
theorem OkE.at1 (h : OkE X Wx e f) {w0 : Wd} (t : At X.K sl σ A w) (l : WLe w0 w) : PostR X.K Wx (fun w' x v => XRep X.K (old w0) w' x v) σ w (f sl) (weE X e σ w.H) :=
  (h sl σ A w t).imp (fun _ q => q) fun w' x v _ r => r.weak (old_le l)
theorem OkE.bind2 (ha : OkE X Wx a f) (hb : OkE X Wx b g) (t : At X.K sl σ A w) {F : XV → XV → R XV} {body : V → V → Hp → VK → Prop} {T : VK → Prop}
    (hT : ∀ Q, (weE X a σ w.H fun v H1 => weE X b σ H1 fun u H2 => body v u H2 Q) → T Q)
    (hF : ∀ x y w2 v u, f sl = .ok x → g sl = .ok y → At X.K sl σ A w2 → WLe w w2 → XRep X.K (old w) w2 x v → XRep X.K (old w) w2 y u → PostR X.K Wx (fun w' x v => XRep X.K (old w) w' x v) σ w2 (F x y) (body v u w2.H)) :
    PostR X.K Wx (fun w' x v => XRep X.K (old w) w' x v) σ w ((f sl).bind fun x => (g sl).bind fun y => F x y) T := by
  refine (ha sl σ A w t).bind (body := fun v H1 Q => weE X b σ H1 fun u H2 => body v u H2 Q) hT fun x w1 v hx k1 l1 r1 => ?_
  refine (hb.at1 (t.mono l1 k1) l1).bind (body := fun u H2 Q => body v u H2 Q) (fun Q q => q) fun y w2 u hy k2 l2 r2 => ?_
  exact hF x y w2 v u hx hy (t.mono (l1.trans l2) k2) (l1.trans l2) (r1.mono l2) r2
theorem OkE.bind1 (ha : OkE X Wx a f) (t : At X.K sl σ A w) {F : XV → R XV} {body : V → Hp → VK → Prop} {T : VK → Prop}
    (hT : ∀ Q, (weE X a σ w.H fun v H1 => body v H1 Q) → T Q)
    (hF : ∀ x w2 v, f sl = .ok x → At X.K sl σ A w2 → WLe w w2 → XRep X.K (old w) w2 x v → PostR X.K Wx (fun w' x v => XRep X.K (old w) w' x v) σ w2 (F x) (body v w2.H)) :
    PostR X.K Wx (fun w' x v => XRep X.K (old w) w' x v) σ w ((f sl).bind F) T :=
  (ha sl σ A w t).bind hT fun x w1 v hx k1 l1 r1 => hF x w1 v hx (t.mono l1 k1) l1 r1
end
/-! ### data read off values -/
section
variable {K : PySem.W.Frag} {w : Wd} {O : Addr → Prop}
theorem XRep.dat {x : XV} {v : V} {d : D} (k : WOk w) (h : XRep K O w x v) (e : x.d = some d) : Rep K w.H d v := by
  obtain ⟨B, h, _, _⟩ := h
  cases x with
  | cl d' => cases e; exact h.1.mono k.fh
  | lk m => cases e; obtain ⟨A, q⟩ := h.1; exact q.rep k.fh fun a _ o z => k.gh a o z
  | tm m => cases e; obtain ⟨A, q⟩ := h.1; exact q.rep k.fh fun a _ o z => z
  | nw m => cases e
theorem XRep.mo {x : XV} {v : V} {m : MO} (k : WOk w) (h : XRep K O w x v) (e : x.mo = some m) : ∃ A, ORep K w.F w.H m v A := by
  obtain ⟨B, h, _, _⟩ := h
  cases x with
  | cl d' => cases e; exact ⟨[], h.1, rfl⟩
  | lk m => cases e; obtain ⟨A, q⟩ := h.1; exact ⟨A, q.mono (Ex.refl _) fun a _ o z => k.gh a o z⟩
  | tm m => cases e; exact h.1
  | nw m => cases e
theorem own_nil : Own w [] := ⟨List.nodup_nil, fun a h => absurd h (by simp)⟩
/-- a row and its items -/
theorem XRep.kids {x : XV} {v : V} {m : MO} {ms : List MO} (k : WOk w) (h : XRep K O w x v) (e : x.mo = some m) (q : m.kids = some ms) :
    ∃ a vs, v = .ref a ∧ (SqL K w.H a vs ∨ SqT K w.H a vs) ∧ ms.length = vs.length ∧ ∀ (i : Nat) (m' : MO), ms[i]? = some m' → ∃ u, vs[i]? = some u ∧ XRep K O w (x.sub m') u := by
  obtain ⟨B, h, _, _⟩ := h
  have clsub : ∀ {ds : List D} {vs : List V} (i : Nat) (m' : MO), RepL K w.F ds vs → (ds.map MO.cl)[i]? = some m' → ∃ u, vs[i]? = some u ∧ XRep K O w (x.sub m') u := fun {ds vs} i m' r hi => by
    rw [List.getElem?_map] at hi
    cases hd : ds[i]? with
    | none => rw [hd] at hi; cases hi
    | some d =>
      rw [hd] at hi
      cases hi
      obtain ⟨u, h1, h2⟩ := r.get hd
      exact ⟨u, h1, XRep.cl h2⟩
  have sub1 : ∀ {m' : MO} {u : V}, (∃ d, m' = .cl d ∧ Rep K w.F d u) → XRep K O w (x.sub m') u := fun {m' u} ⟨d, e, r⟩ => by subst e; exact XRep.cl r
  cases x with
  | cl d =>
    cases e
    cases d with
    | tup ds =>
      cases q
      obtain ⟨⟨a, vs, e1, e2, e3⟩, _⟩ := h
      exact ⟨a, vs, e1, .inr (k.fh.sqt e2), by rw [List.length_map]; exact e3.length, fun i m' hi => clsub i m' e3 hi⟩
    | lst ds =>
      cases q
      obtain ⟨⟨a, vs, e1, e2, e3⟩, _⟩ := h
      exact ⟨a, vs, e1, .inl (k.fh.sql e2), by rw [List.length_map]; exact e3.length, fun i m' hi => clsub i m' e3 hi⟩
    | _ => cases q
  | lk m =>
    cases e
    obtain ⟨⟨A, h⟩, _⟩ := h
    have sub2 : ∀ {m' : MO} {u : V} {B : List Addr}, ORep K w.F w.G m' u B → XRep K O w ((XV.lk m).sub m') u := fun {m' u B} o => by
      cases m' with
      | cl d => exact XRep.cl o.1
      | _ => exact ⟨[], ⟨⟨B, o⟩, rfl⟩, own_nil, fun a h => absurd h (by simp)⟩
    cases m with
    | cl d =>
      cases d with
      | tup ds =>
        cases q
        obtain ⟨⟨a, vs, e1, e2, e3⟩, _⟩ := h
        exact ⟨a, vs, e1, .inr (k.fh.sqt e2), by rw [List.length_map]; exact e3.length, fun i m' hi => clsub i m' e3 hi⟩
      | lst ds =>
        cases q
        obtain ⟨⟨a, vs, e1, e2, e3⟩, _⟩ := h
        exact ⟨a, vs, e1, .inl (k.fh.sql e2), by rw [List.length_map]; exact e3.length, fun i m' hi => clsub i m' e3 hi⟩
      | _ => cases q
    | tup ms' =>
      cases q
      obtain ⟨a, vs, B', e1, e2, e3, e4⟩ := h
      exact ⟨a, vs, e1, .inr (.inl (k.gh.rd e2)), e3.length, fun i m' hi => by
        obtain ⟨u, B2, h1, h2, _⟩ := e3.get hi
        exact ⟨u, h1, sub2 h2⟩⟩
    | lst ms' =>
      cases q
      obtain ⟨a, vs, B', e1, e2, e3, e4⟩ := h
      exact ⟨a, vs, e1, .inl (.inl (k.gh.rd e2)), e3.length, fun i m' hi => by
        obtain ⟨u, B2, h1, h2, _⟩ := e3.get hi
        exact ⟨u, h1, sub2 h2⟩⟩
    | dct _ _ => cases q
    | ins _ _ _ => cases q
  | tm m =>
    cases e
    obtain ⟨⟨A, h⟩, _⟩ := h
    have sub2 : ∀ {m' : MO} {u : V} {B : List Addr}, ORep K w.F w.H m' u B → XRep K O w ((XV.tm m).sub m') u := fun {m' u B} o => by
      cases m' with
      | cl d => exact XRep.cl o.1
      | _ => exact ⟨[], ⟨⟨B, o⟩, rfl⟩, own_nil, fun a h => absurd h (by simp)⟩
    cases m with
    | cl d =>
      cases d with
      | tup ds =>
        cases q
        obtain ⟨⟨a, vs, e1, e2, e3⟩, _⟩ := h
        exact ⟨a, vs, e1, .inr (k.fh.sqt e2), by rw [List.length_map]; exact e3.length, fun i m' hi => clsub i m' e3 hi⟩
      | lst ds =>
        cases q
        obtain ⟨⟨a, vs, e1, e2, e3⟩, _⟩ := h
        exact ⟨a, vs, e1, .inl (k.fh.sql e2), by rw [List.length_map]; exact e3.length, fun i m' hi => clsub i m' e3 hi⟩
      | _ => cases q
    | tup ms' =>
      cases q
      obtain ⟨a, vs, B', e1, e2, e3, e4⟩ := h
      exact ⟨a, vs, e1, .inr (.inl e2), e3.length, fun i m' hi => by
        obtain ⟨u, B2, h1, h2, _⟩ := e3.get hi
        exact ⟨u, h1, sub2 h2⟩⟩
    | lst ms' =>
      cases q
      obtain ⟨a, vs, B', e1, e2, e3, e4⟩ := h
      exact ⟨a, vs, e1, .inl (.inl e2), e3.length, fun i m' hi => by
        obtain ⟨u, B2, h1, h2, _⟩ := e3.get hi
        exact ⟨u, h1, sub2 h2⟩⟩
    | dct _ _ => cases q
    | ins _ _ _ => cases q
  | nw m => cases e
theorem XRep.b_of {x : XV} {v : V} {c : Bool} (h : XRep K O w x v) (e : x.b = some c) : v = .bl c := by
  cases x with
  | cl d =>
    cases d with
    | bl b => cases e; exact h.cl_of
    | _ => cases e
  | _ => cases e
theorem XRep.b_to {x : XV} {c : Bool} (h : XRep K O w x (.bl c)) {c' : Bool} (e : x.b = some c') : c = c' := by
  have := h.b_of e
  cases this; rfl
/-! ### data as the layer has it -/
mutual
theorem rep_py {H : Hp} : ∀ {d : D} {v : V} {p : PyData}, Rep K H d v → d.py = some p → Dp K H v p
  | .non, _, _, h, e => by cases e; rw [show _ = V.non from h]; exact .non
  | .bl b, _, _, h, e => by cases e; rw [show _ = V.bl b from h]; exact .bl b
  | .int i, _, _, h, e => by cases e; rw [show _ = V.int i from h]; exact .int i
  | .str s, _, _, h, e => by cases e; rw [show _ = V.str s from h]; exact .str s
  | .tup ds, _, _, ⟨a, vs, e1, e2, e3⟩, e => by
    subst e1
    cases q : D.pyL ds with
    | none => simp only [D.py, q] at e; cases e
    | some ps =>
      simp only [D.py, q] at e
      cases e
      exact .tup e2 (repL_py e3 q)
  | .lst ds, _, _, ⟨a, vs, e1, e2, e3⟩, e => by
    subst e1
    cases q : D.pyL ds with
    | none => simp only [D.py, q] at e; cases e
    | some ps =>
      simp only [D.py, q] at e
      cases e
      exact .lst e2 (repL_py e3 q)
  | .dct _ _, _, _, _, e => by cases e
  | .ins _ _ _, _, _, _, e => by cases e
  | .exn _, _, _, _, e => by cases e
theorem repL_py {H : Hp} : ∀ {ds : List D} {vs : List V} {ps : List PyData}, RepL K H ds vs → D.pyL ds = some ps → DpAll K H vs ps
  | [], vs, _, h, e => by
    have q : vs = [] := h
    subst q; cases e; exact .nil
  | d :: ds, _, _, ⟨v, r, e1, e2, e3⟩, e => by
    subst e1
    cases q : d.py with
    | none => simp only [D.pyL, q] at e; cases e
    | some p =>
      cases q2 : D.pyL ds with
      | none => simp only [D.pyL, q, q2] at e; cases e
      | some ps =>
        simp only [D.pyL, q, q2] at e
        cases e
        exact .cons (rep_py e2 q) (repL_py e3 q2)
end
theorem rep_sc {H : Hp} {d : D} {v u : V} (h : Rep K H d v) (e : d.sc = some u) : v = u := by
  cases d <;> cases e <;> exact h
theorem sc_flat {d : D} {u : V} (e : d.sc = some u) : flatV u = true := by
  cases d <;> cases e <;> rfl
theorem repL_sc {H : Hp} : ∀ {ds : List D} {vs us : List V}, RepL K H ds vs → scL ds = some us → vs = us ∧ us.all flatV = true
  | [], vs, us, h, e => by
    have q : vs = [] := h
    subst q; cases e; exact ⟨rfl, rfl⟩
  | d :: ds, _, _, ⟨v, r, e1, e2, e3⟩, e => by
    subst e1
    cases q : d.sc with
    | none => simp only [scL, q] at e; cases e
    | some u =>
      cases q2 : scL ds with
      | none => simp only [scL, q, q2] at e; cases e
      | some us =>
        simp only [scL, q, q2] at e
        cases e
        obtain ⟨h1, h2⟩ := repL_sc e3 q2
        rw [rep_sc e2 q, h1]
        exact ⟨rfl, by simp [sc_flat q, h2]⟩
end
end Mo
namespace Mo
open PySem PySem.Spec PyProof.Rows L2
/-! ### a def's promise by its value -/
def ArgR (K : PySem.W.Frag) (F H : Hp) : SV → V → Prop
  | .cl d, v => Rep K F d v
  | .lk m, v => ∃ B, ORep K F H m v B
  | _, _ => False
def ArgsR (K : PySem.W.Frag) (F H : Hp) : List SV → List V → Prop
  | [], vs => vs = []
  | s :: ss, vs => ∃ v r, vs = v :: r ∧ ArgR K F H s v ∧ ArgsR K F H ss r
def RetR (K : PySem.W.Frag) (F H F' H' : Hp) : XV → V → Prop
  | .cl d, v => Rep K F' d v
  | .nw m, v => ∃ B, ORep K F' H' m v B ∧ B.Nodup ∧ ∀ a ∈ B, H a = none ∧ F' a = none ∧ ∀ o u, H' a ≠ some (.frz o u)
  | _, _ => False
def NewF (H F F' : Hp) : Prop := ∀ a, H a ≠ none → F a = none → F' a = none
def RetP (K : PySem.W.Frag) (F H : Hp) (r : R XV) (Q : VK) (E : XK) : Prop := match r with
  | .stuck => False
  | .ok x => ∀ F' H' v, Ex F F' → Ex F' H' → Ex H H' → NewF H F F' → RetR K F H F' H' x v → Q v H'
  | .exc e => ∀ F' H' cls d, Ex F F' → Ex F' H' → Ex H H' → NewF H F F' → ExnR K H' e cls d → E cls d H'
def spR (K : PySem.W.Frag) (m : List SV → R XV) : Sp := fun vs H Q E => ∃ ss F, Ex F H ∧ ArgsR K F H ss vs ∧ RetP K F H (m ss) Q E
/-! ### the check that a piece of the text is a term -/
structure Ck where
  N : List Str
  sc : Scope
  fns : List String
  free : List String
  gi : List (String × Int)
  gs : List (String × Str)
  excs : List String
  xp : List (String × String)
def visB (sc : Scope) (x : Str) : Bool := match sc.names.lookup x with
  | some .local => true
  | some .cell => true
  | some .free => true
  | _ => false
def glB (sc : Scope) (x : Str) : Bool := match sc.names.lookup x with
  | some .globalImplicit => true
  | _ => false
def BOp.is : BOp → Operator → Bool
  | .add, .Add => true | .sub, .Sub => true | .mul, .Mult => true | .fdiv, .FloorDiv => true | .mod, .Mod => true | .pow, .Pow => true | .shr, .RShift => true
  | _, _ => false
def COp.is : COp → CmpOp → Bool
  | .lt, .Lt => true | .le, .LtE => true | .gt, .Gt => true | .ge, .GtE => true | .eq, .Eq => true | .ne, .NotEq => true | .in_, .In => true | .notIn, .NotIn => true | .is_, .Is => true | .isnt, .IsNot => true
  | _, _ => false
def Blt.nm : Blt → String
  | .len => "len" | .max2 => "max" | .min2 => "min" | .abs => "abs" | .divmod => "divmod" | .int1 => "int" | .max3 => "max" | .list1 => "list"
def nameOk (x : Str) : Bool := decide (x ≠ "__debug__") && decide (x ≠ "__classdict__") && decide (x ≠ "__name__")
def plainIx (e : Expr) : Bool := match e with
  | .Slice _ _ _ _ => false
  | _ => true
def notStar (e : Expr) : Bool := match e with
  | .Starred _ _ => false
  | _ => true
def notSet (e : Expr) : Bool := match e with
  | .Set _ _ _ => false
  | _ => true
def locB (sc : Scope) (x : Str) : Bool := match sc.names.lookup x with
  | some .local => true
  | some .cell => true
  | _ => false
/-- a plain local -/
def lclB (sc : Scope) (x : Str) : Bool := match sc.names.lookup x with
  | some .local => true
  | _ => false
mutual
def chkT (N : List Str) (tl : Str → Bool) : Tg → Expr → Bool
  | .n i, ex => match ex with
    | .Name x _ => decide (N[i]? = some x) && tl x
    | _ => false
  | .t ts, ex => match ex with
    | .Tuple xs _ _ => chkTs N tl ts xs
    | _ => false
def chkTs (N : List Str) (tl : Str → Bool) : List Tg → List Expr → Bool
  | [], xs => xs.isEmpty
  | t :: ts, xs => match xs with
    | x :: xs => chkT N tl t x && chkTs N tl ts xs
    | [] => false
end
/-- a block's own names -/
def ownOf (N : List Str) (t : Tg) : List (Str × Nat) := t.slots.map fun i => (N.getD i "", i)
def Ck.blk (k : Ck) (scope : Scope) : Ck := { k with sc := L2.relS scope k.sc }
/-- may stand as a test -/
def tOk : E → Bool
  | .and a b => tOk a && tOk b
  | .or a b => tOk a && tOk b
  | .not a => tOk a
  | .ife _ _ _ => false
  | .fz _ => false
  | .comp _ _ _ _ => false
  | _ => true
def clsNames (sc : Scope) : List String → List Expr → Bool
  | [], ys => ys.isEmpty
  | c :: cs, ys => match ys with
    | .Name y _ :: ys => decide (Str.ofString c = y) && glB sc y && nameOk y && clsNames sc cs ys
    | _ => false
mutual
def chkE (k : Ck) : E → Expr → Bool
  | .var i, ex => match ex with
    | .Name x _ => decide (k.N[i]? = some x) && visB k.sc x && nameOk x
    | _ => false
  | .int i, ex => match ex with
    | .Constant (.int j) _ _ => decide (i = j)
    | _ => false
  | .bl b, ex => match ex with
    | .Constant (.bool c) _ _ => b == c
    | _ => false
  | .non, ex => match ex with
    | .Constant .none _ _ => true
    | _ => false
  | .str s, ex => match ex with
    | .Constant (.str t) _ _ => decide (s = t)
    | _ => false
  | .gi x i, ex => match ex with
    | .Name y _ => decide (Str.ofString x = y) && glB k.sc y && nameOk y && k.gi.contains (x, i)
    | _ => false
  | .gs x s, ex => match ex with
    | .Name y _ => decide (Str.ofString x = y) && glB k.sc y && nameOk y && k.gs.contains (x, s)
    | _ => false
  | .bin o a b, ex => match ex with
    | .BinOp l op r _ => o.is op && chkE k a l && chkE k b r
    | _ => false
  | .neg a, ex => match ex with
    | .UnaryOp .USub l _ => chkE k a l
    | _ => false
  | .cmp o a b, ex => match ex with
    | .Compare l [op] [r] _ => o.is op && chkE k a l && chkE k b r && notSet r
    | _ => false
  | .isN a, ex => match ex with
    | .Compare l [.Is] [.Constant .none _ _] _ => chkE k a l
    | _ => false
  | .notN a, ex => match ex with
    | .Compare l [.IsNot] [.Constant .none _ _] _ => chkE k a l
    | _ => false
  | .chn o o' a b c, ex => match ex with
    | .Compare l [op, op'] [r, r'] _ => o.is op && o'.is op' && chkE k a l && chkE k b r && chkE k c r' && notSet r'
    | _ => false
  | .and a b, ex => match ex with
    | .BoolOp .And (l :: r :: rs) _ => chkE k a l && (match rs with
    | [] => chkE k b r
    | _ => chkB k .And b (r :: rs))
    | _ => false
  | .or a b, ex => match ex with
    | .BoolOp .Or (l :: r :: rs) _ => chkE k a l && (match rs with
    | [] => chkE k b r
    | _ => chkB k .Or b (r :: rs))
    | _ => false
  | .not a, ex => match ex with
    | .UnaryOp .Not l _ => chkE k a l
    | _ => false
  | .ife t a b, ex => match ex with
    | .IfExp c l r _ => chkE k t c && chkE k a l && chkE k b r && tOk t
    | _ => false
  | .tup es, ex => match ex with
    | .Tuple xs _ _ => chkEs k es xs
    | _ => false
  | .lst es, ex => match ex with
    | .List xs _ => chkEs k es xs
    | _ => false
  | .sub a i, ex => match ex with
    | .Subscript l r _ => chkE k a l && chkE k i r && plainIx r
    | _ => false
  | .call f es, ex => match ex with
    | .Call (.Name x _) (l :: ls) [] _ => decide (Str.ofString f = x) && glB k.sc x && nameOk x && k.fns.contains f && chkEs k es (l :: ls)
    | _ => false
  | .blt b es, ex => match ex with
    | .Call (.Name x _) (l :: ls) [] _ => decide (Str.ofString b.nm = x) && glB k.sc x && nameOk x && k.free.contains b.nm && chkEs k es (l :: ls)
    | _ => false
  | .fz a, l => chkE k a l
  | .isi t a, ex => match ex with
    | .Call (.Name x _) [l, .Name y _] [] _ => decide (x = "isinstance") && glB k.sc x && k.free.contains "isinstance" && decide (Str.ofString t.nm = y) && glB k.sc y && nameOk y && k.free.contains t.nm && notStar l && chkE k a l
    | _ => false
  | .isx ds cs a, ex => match ex with
    | .Call (.Name x _) [l, .Name y _] [] _ => decide (x = "isinstance") && glB k.sc x && k.free.contains "isinstance" && decide (cs.map Str.ofString = [y]) && glB k.sc y && nameOk y && (ds.all fun d => cs.all fun c => k.xp.contains (d, c)) && notStar l && chkE k a l && (match ds with | [] => false | _ => true)
    | .Call (.Name x _) [l, .Tuple ys _ _] [] _ => decide (x = "isinstance") && glB k.sc x && k.free.contains "isinstance" && clsNames k.sc cs ys && (ds.all fun d => cs.all fun c => k.xp.contains (d, c)) && notStar l && chkE k a l && decide (cs.length ≤ 100) && (match ds with | [] => false | _ => true) && (match cs with | [] => false | _ => true)
    | _ => false
  | .comp elt t it cs, ex => match ex with
    | .ListComp el [⟨tg, iter, ifs, 0⟩] scope _ => chkIt k it iter && notSet iter && L2.blkC k.N k.sc scope (ownOf k.N t) && chkT k.N (lclB (k.blk scope).sc) t tg && chkE (k.blk scope) elt el && chkCnd (k.blk scope) cs ifs
    | _ => false
def chkB (k : Ck) (op : BoolOp) : E → List Expr → Bool
  | .and a b, xs => match xs with
    | l :: r :: rs => decide (op = .And) && chkE k a l && (match rs with
      | [] => chkE k b r
      | _ => chkB k op b (r :: rs))
    | _ => false
  | .or a b, xs => match xs with
    | l :: r :: rs => decide (op = .Or) && chkE k a l && (match rs with
      | [] => chkE k b r
      | _ => chkB k op b (r :: rs))
    | _ => false
  | _, _ => false
def chkEs (k : Ck) : Es → List Expr → Bool
  | .nil, xs => xs.isEmpty
  | .cons e es, xs => match xs with
    | x :: xs => chkE k e x && chkEs k es xs && notStar x
    | [] => false
def chkIt (k : Ck) : It → Expr → Bool
  | .exp e, ex => chkE k e ex
  | .rng1 a, ex => match ex with
    | .Call (.Name x _) [l] [] _ => decide (x = "range") && glB k.sc x && k.free.contains "range" && chkE k a l && notStar l
    | _ => false
  | .rng2 a b, ex => match ex with
    | .Call (.Name x _) [l, r] [] _ => decide (x = "range") && glB k.sc x && k.free.contains "range" && chkE k a l && chkE k b r && notStar l && notStar r
    | _ => false
  | .rng3 a b c, ex => match ex with
    | .Call (.Name x _) [l, r, t] [] _ => decide (x = "range") && glB k.sc x && k.free.contains "range" && chkE k a l && chkE k b r && chkE k c t && notStar l && notStar r && notStar t
    | _ => false
def chkCnd (k : Ck) : Es → List Expr → Bool
  | .nil, xs => xs.isEmpty
  | .cons e es, xs => match xs with
    | [x] => chkE k e x && tOk e && (match es with | .nil => true | _ => false)
    | _ => false
end
/-- an error class and a class that is asked of it -/
structure XpOk (K : PySem.W.Frag) (mg : Str → Option Value) (d c : String) : Prop where
  ex : ExcC K (He.ga K (Str.ofString d))
  nm : if c = "ValueError" then mg (Str.ofString c) = none else mg (Str.ofString c) = some (.ref (He.ga K (Str.ofString c)))
  ki : PySem.W.kitOne K (.ref (He.ga K (Str.ofString d))) (if c = "ValueError" then .type "ValueError" else .ref (He.ga K (Str.ofString c))) = some (exnIs d c)
  xm : PySem.W.exmOne K (.ref (He.ga K (Str.ofString d))) (if c = "ValueError" then .type "ValueError" else .ref (He.ga K (Str.ofString c))) = some (exnIs d c)
/-- what the context gives -/
structure CxOk (c : Calls) (k : Nat) (ck : Ck) (X : Cx) : Prop where
  N : X.N = ck.N
  nd : X.N.Nodup
  sc : X.env.scope = ck.sc
  calm : X.calm = true
  room : Room k X.A
  fn : ∀ f, f ∈ ck.fns → ∃ (fa : Addr) (fd : FuncData) (ps : List Str), X.mg (Str.ofString f) = some (.ref fa) ∧ PySem.W.keepIn X.K (.ref fa) = true ∧ Binds X.K fd ps [] ∧ FnOk X.prog X.w X.K X.mg X.base (L2.CX X.prog X.w) k fa fd ps (spR X.K (c f))
  free : ∀ x, x ∈ ck.free → X.mg (Str.ofString x) = none
  gi : ∀ x i, (x, i) ∈ ck.gi → ∃ t, X.mg (Str.ofString x) = some (.int i t)
  gs : ∀ x s, (x, s) ∈ ck.gs → ∃ t, X.mg (Str.ofString x) = some (.str s t)
  exc : ∀ x, x ∈ ck.excs → X.mg (Str.ofString x) = some (.ref (He.ga X.K (Str.ofString x))) ∧ PySem.W.excIn X.K (He.ga X.K (Str.ofString x)) He.veBase "ValueError.__new__" = true ∧ PySem.W.keepIn X.K (.ref (He.ga X.K (Str.ofString x))) = true ∧
    PySem.W.subIn X.K (.ref (He.ga X.K (Str.ofString x))) (.type "BaseException") = some true ∧ PySem.W.typeIn X.K (.ref (He.ga X.K (Str.ofString x))) = some (.type "type")
  xp : ∀ d y, (d, y) ∈ ck.xp → XpOk X.K X.mg d y
theorem nameOk_d {x : Str} (h : nameOk x = true) : (x == ("__debug__" : Str)) = false ∧ (x == ("__classdict__" : Str)) = false ∧ x ≠ "__name__" := by
  unfold nameOk at h
  simp only [Bool.and_eq_true, decide_eq_true_eq] at h
  exact ⟨by simpa using h.1.1, by simpa using h.1.2, h.2⟩
theorem visB_ok {X : Cx} {x : Str} (h : visB X.env.scope x = true) : Vis X.env.scope x := by
  unfold visB at h
  unfold Vis
  split at h <;> first | exact .inl (by assumption) | exact .inr (.inl (by assumption)) | exact .inr (.inr (by assumption)) | cases h
theorem glB_ok {X : Cx} {x : Str} (h : glB X.env.scope x = true) : Gl X x := by
  unfold glB at h
  unfold Gl
  show X.env.scope.names.lookup x = _
  split at h
  · assumption
  · cases h
section
variable {c : Calls} {k : Nat} {ck : Ck} {X : Cx} {Wx : WX} {a b e : Expr} {f g h : Sl → R XV} {pos : Pos}
theorem ok_var (C : CxOk c k ck X) {i : Nat} {x : Str} (hN : ck.N[i]? = some x) (hv : visB ck.sc x = true) (hn : nameOk x = true) : OkE X Wx (.Name x pos) (evE c (.var i)) := by
  intro sl σ A w t
  show PostR _ _ _ _ _ (match sl[i]? with | some s => R.of s.x | none => .stuck) _
  cases hs : sl[i]? with
  | none => trivial
  | some s =>
    obtain ⟨o, B, h1, h2, h3⟩ := t.sl.get hs
    have go : ∀ {v : V} {z : XV}, σ[i]? = some (some v) → XRep X.K (old w) w z v → PostR X.K Wx (fun w' x v => XRep X.K (old w) w' x v) σ w (.ok z) (weE X (.Name x pos) σ w.H) := fun {v z} e r Q q =>
      ⟨_, pe_var (by rw [C.N]; exact hN) (visB_ok (by rw [C.sc]; exact hv)) (nameOk_d hn).1 (nameOk_d hn).2.1, v, e, q w v t.ok (WLe.refl w) r⟩
    cases s with
    | no => trivial
    | cl d => obtain ⟨v, rfl, e2, _⟩ := h2; exact go h1 (XRep.cl e2)
    | lk m => obtain ⟨v, B', rfl, e2, _⟩ := h2; exact go h1 ⟨[], ⟨⟨B', e2⟩, rfl⟩, own_nil, fun a h => absurd h (by simp)⟩
    | ow m => obtain ⟨v, rfl, e2⟩ := h2; exact go h1 ⟨[], ⟨⟨_, e2⟩, rfl⟩, own_nil, fun a h => absurd h (by simp)⟩
theorem ok_const {ex : Expr} {d : D} {u : V} (p : PE X ex (tC u)) (r : ∀ T, Rep X.K T d u) : OkE X Wx ex (fun _ => .ok (.cl d)) := fun sl σ A w t Q q => ⟨_, p, q w u t.ok (WLe.refl w) (XRep.cl (r _))⟩
/-- two values of data, one value out -/
theorem ok_op2 (ha : OkE X Wx a f) (hb : OkE X Wx b g) {ex : Expr} {F : XV → XV → R XV}
    (hp : ∀ x y : XV, (∃ r : R2, (∀ σ H Q, (weE X a σ H fun v H1 => weE X b σ H1 fun u H2 => r v u H2 Q) → weE X ex σ H Q) ∧
      ∀ (w0 w : Wd) (σ : L2.St) (v u : V), WOk w → XRep X.K (old w0) w x v → XRep X.K (old w0) w y u → PostR X.K Wx (fun w' x v => XRep X.K (old w0) w' x v) σ w (F x y) (r v u w.H))) :
    OkE X Wx ex (fun sl => (f sl).bind fun x => (g sl).bind fun y => F x y) := by
  intro sl σ A w t
  show PostR _ _ _ _ _ ((f sl).bind fun x => (g sl).bind fun y => F x y) _
  cases hf : f sl with
  | stuck => trivial
  | exc e =>
    obtain ⟨r, h1, _⟩ := hp (.cl .non) (.cl .non)
    have := OkE.bind2 ha hb t (F := fun _ _ => .stuck) (T := weE X ex σ w.H) (h1 σ w.H) (fun _ _ _ _ _ _ _ _ _ _ _ => trivial)
    rw [hf] at this
    exact this
  | ok x =>
    cases hg : g sl with
    | stuck => trivial
    | exc e =>
      obtain ⟨r, h1, _⟩ := hp (.cl .non) (.cl .non)
      have := OkE.bind2 ha hb t (F := fun _ _ => .stuck) (T := weE X ex σ w.H) (h1 σ w.H) (fun _ _ _ _ _ _ _ _ _ _ _ => trivial)
      rw [hf, hg] at this
      exact this
    | ok y =>
      show PostR _ _ _ _ _ (F x y) _
      obtain ⟨r, h1, h2⟩ := hp x y
      have := OkE.bind2 ha hb t (F := F) (T := weE X ex σ w.H) (h1 σ w.H) (fun x' y' w2 v u e1 e2 t2 l r1 r2 => by
        rw [hf] at e1; cases e1
        rw [hg] at e2; cases e2
        exact h2 w w2 σ v u t2.ok r1 r2)
      rw [hf, hg] at this
      exact this
theorem ok_op1 (ha : OkE X Wx a f) {ex : Expr} {F : XV → R XV}
    (hp : ∀ x : XV, (∃ r : V → Hp → VK → Prop, (∀ σ H Q, (weE X a σ H fun v H1 => r v H1 Q) → weE X ex σ H Q) ∧
      ∀ (w0 w : Wd) (σ : L2.St) (v : V), WOk w → XRep X.K (old w0) w x v → PostR X.K Wx (fun w' x v => XRep X.K (old w0) w' x v) σ w (F x) (r v w.H))) :
    OkE X Wx ex (fun sl => (f sl).bind F) := by
  intro sl σ A w t
  show PostR _ _ _ _ _ ((f sl).bind F) _
  cases hf : f sl with
  | stuck => trivial
  | exc e =>
    obtain ⟨r, h1, _⟩ := hp (.cl .non)
    have := OkE.bind1 ha t (F := fun _ => .stuck) (T := weE X ex σ w.H) (h1 σ w.H) (fun _ _ _ _ _ _ _ => trivial)
    rw [hf] at this
    exact this
  | ok x =>
    show PostR _ _ _ _ _ (F x) _
    obtain ⟨r, h1, h2⟩ := hp x
    have := OkE.bind1 ha t (F := F) (T := weE X ex σ w.H) (h1 σ w.H) (fun x' w2 v e1 t2 l r1 => by
      rw [hf] at e1; cases e1
      exact h2 w w2 σ v t2.ok r1)
    rw [hf] at this
    exact this
theorem PostR.val {w : Wd} {σ : L2.St} {O : Addr → Prop} {d : D} {u : V} {T : VK → Prop} (k : WOk w) (r : Rep X.K w.F d u) (hT : ∀ Q : VK, Q u w.H → T Q) : PostR X.K Wx (fun w' x v => XRep X.K O w' x v) σ w (.ok (.cl d)) T := fun Q q => hT Q (q w u k (WLe.refl w) (XRep.cl r))
theorem PostR.of_none {w : Wd} {σ : L2.St} {α : Type} {rep : Wd → α → V → Prop} {T : VK → Prop} {o : Option α} (h : ∀ z, o = some z → PostR X.K Wx rep σ w (.ok z) T) : PostR X.K Wx rep σ w (R.of o) T := by
  cases o with
  | none => trivial
  | some z => exact h z rfl
/-! ### operators -/
theorem bop_rule (o : BOp) {op : Operator} (h : o.is op = true) (x y : XV) : ∃ r : R2, OpR X (binaryOp op) r ∧ ∀ (O : Addr → Prop) (w : Wd) (σ : L2.St) (v u : V), WOk w → XRep X.K O w x v → XRep X.K O w y u →
    PostR X.K Wx (fun w' x v => XRep X.K O w' x v) σ w (bopF o x y) (r v u w.H) := by
  have gen : ∀ {r : R2}, OpR X (binaryOp op) r → (∀ d e, x = .cl d → y = .cl e → ∀ z, bop o d e = some z → ∀ (O : Addr → Prop) (w : Wd) (σ : L2.St) (v u : V), WOk w → Rep X.K w.F d v → Rep X.K w.F e u → PostR X.K Wx (fun w' x v => XRep X.K O w' x v) σ w (.ok z) (r v u w.H)) →
      ∃ r : R2, OpR X (binaryOp op) r ∧ ∀ (O : Addr → Prop) (w : Wd) (σ : L2.St) (v u : V), WOk w → XRep X.K O w x v → XRep X.K O w y u →
    PostR X.K Wx (fun w' x v => XRep X.K O w' x v) σ w (bopF o x y) (r v u w.H) := fun {r} h1 h2 => by
    refine ⟨r, h1, fun O w σ v u k rx ry => ?_⟩
    cases x with
    | cl d =>
      cases y with
      | cl e => exact PostR.of_none fun z hz => h2 d e rfl rfl z hz O w σ v u k rx.cl_of ry.cl_of
      | _ => trivial
    | _ => trivial
  -- ints
  have onInts : ∀ {C : Int → Int → Prop} {gg : Int → Int → Int}, (∀ i j z, bopI o i j = some z → C i j ∧ z = .int (gg i j)) → (∀ s t, bop o (.str s) (.str t) = none) → OpR X (binaryOp op) (rI C fun i j => .int (gg i j)) →
      ∃ r : R2, OpR X (binaryOp op) r ∧ ∀ (O : Addr → Prop) (w : Wd) (σ : L2.St) (v u : V), WOk w → XRep X.K O w x v → XRep X.K O w y u →
    PostR X.K Wx (fun w' x v => XRep X.K O w' x v) σ w (bopF o x y) (r v u w.H) := fun {C gg} hz hs hr => gen hr fun d e _ _ z hb O w σ v u k rd re => by
    cases d with
    | int i =>
      cases e with
      | int j =>
        cases q : bopI o i j with
        | none => simp only [bop, q] at hb; cases hb
        | some z' =>
          simp only [bop, q] at hb
          cases hb
          obtain ⟨h1, h2⟩ := hz i j z' q
          subst h2
          exact PostR.val (u := .int (gg i j)) k rfl fun Q qq => ⟨i, j, rd, re, h1, qq⟩
      | _ => cases hb
    | str s =>
      cases e with
      | str t => rw [hs] at hb; cases hb
      | _ => cases hb
    | _ => cases hb
  cases o <;> cases op <;> first | (cases h; done) | skip
  · -- add
    by_cases hs : ∃ s, x = .cl (.str s)
    · obtain ⟨s, rfl⟩ := hs
      refine gen op_add_str fun d e hd _ z hb O w σ v u k rd re => ?_
      cases hd
      cases e with
      | str t =>
        simp only [bop] at hb
        split at hb
        · rename_i hc
          cases hb
          exact PostR.val (u := .str (s ++ t)) k rfl fun Q qq => ⟨s, t, rd, re, hc.2, qq⟩
        · cases hb
      | _ => cases hb
    · refine gen op_add fun d e hd _ z hb O w σ v u k rd re => ?_
      cases d with
      | int i =>
        cases e with
        | int j =>
          simp only [bop, bopI] at hb
          cases hb
          exact PostR.val (u := .int (i + j)) k rfl fun Q qq => ⟨i, j, rd, re, qq⟩
        | _ => cases hb
      | str s => exact absurd ⟨s, hd⟩ hs
      | _ => cases hb
  · refine gen op_sub fun d e hd _ z hb O w σ v u k rd re => ?_
    cases d with
    | int i =>
      cases e with
      | int j =>
        simp only [bop, bopI] at hb
        cases hb
        exact PostR.val (u := .int (i - j)) k rfl fun Q qq => ⟨i, j, rd, re, qq⟩
      | _ => cases hb
    | str s => cases e <;> simp [bop] at hb
    | _ => cases hb
  · refine onInts (C := CMulW) (gg := fun i j => i * j) (fun i j z hz => ?_) (fun s t => by simp [bop]) op_mulW
    simp only [bopI] at hz
    split at hz
    · rename_i q; cases hz; exact ⟨q, rfl⟩
    · cases hz
  · refine onInts (C := CDivW) (gg := fun i j => i / j) (fun i j z hz => ?_) (fun s t => by simp [bop]) op_fdivW
    simp only [bopI] at hz
    split at hz
    · rename_i q; cases hz; exact ⟨⟨q.1, q.2⟩, rfl⟩
    · cases hz
  · refine onInts (C := fun _ j => 0 < j) (gg := fun i j => i % j) (fun i j z hz => ?_) (fun s t => by simp [bop]) op_mod
    simp only [bopI] at hz
    split at hz
    · rename_i q; cases hz; exact ⟨q, rfl⟩
    · cases hz
  · refine onInts (C := CPow) (gg := fun i j => i ^ j.toNat) (fun i j z hz => ?_) (fun s t => by simp [bop]) op_pow
    simp only [bopI] at hz
    split at hz
    · rename_i q; cases hz; exact ⟨q, rfl⟩
    · cases hz
  · refine onInts (C := fun _ j => 0 ≤ j) (gg := fun i j => i / 2 ^ j.toNat) (fun i j z hz => ?_) (fun s t => by simp [bop]) op_shr
    simp only [bopI] at hz
    split at hz
    · rename_i q; cases hz; exact ⟨q, rfl⟩
    · cases hz
theorem ok_bin {o : BOp} {op : Operator} (ho : o.is op = true) (ha : OkE X Wx a f) (hb : OkE X Wx b g) :
    OkE X Wx (.BinOp a op b pos) (fun sl => (f sl).bind fun x => (g sl).bind fun y => bopF o x y) :=
  ok_op2 ha hb fun x y => by
    obtain ⟨r, h1, h2⟩ := bop_rule (X := X) (Wx := Wx) o ho x y
    exact ⟨r, fun σ H Q q => ⟨_, pe_op h1 pe_we pe_we, q⟩, fun w0 w σ v u k rx ry => h2 _ w σ v u k rx ry⟩
theorem ok_neg (ha : OkE X Wx a f) : OkE X Wx (.UnaryOp .USub a pos) (fun sl => (f sl).bind negF) :=
  ok_op1 ha fun x => ⟨_, fun σ H Q q => ⟨_, pe_un un_neg pe_we, q⟩, fun w0 w σ v k rx => by
    cases x with
    | cl d =>
      cases d with
      | int i => exact PostR.val (u := .int (-i)) k rfl fun Q q => ⟨i, rx.cl_of, q⟩
      | _ => trivial
    | _ => trivial⟩
/-! ### comparisons -/
theorem cop_rule (C : CxOk c k ck X) (o : COp) {op : CmpOp} (h : o.is op = true) (d e : D) : ∃ r : R2, OpR X (compareOp op) r ∧ ∀ (H : Hp) (v u : V) (q : Bool), Rep X.K H d v → Rep X.K H e u → cop o d e = some q → ∀ Q : VK, Q (.bl q) H → r v u H Q := by
  have hu := C.room.units
  have ii : ∀ {p : Int → Int → Bool}, OpR X (compareOp op) (rI0 fun i j => .bl (p i j)) → (∀ q, cop o d e = some q → ∃ i j, d = .int i ∧ e = .int j ∧ q = p i j) →
      ∃ r : R2, OpR X (compareOp op) r ∧ ∀ (H : Hp) (v u : V) (q : Bool), Rep X.K H d v → Rep X.K H e u → cop o d e = some q → ∀ Q : VK, Q (.bl q) H → r v u H Q := fun {p} h1 h2 =>
    ⟨_, h1, fun H v u q rd re hq Q qq => by
      obtain ⟨i, j, rfl, rfl, rfl⟩ := h2 q hq
      exact ⟨i, j, rd, re, qq⟩⟩
  have i2 : ∀ {o' : COp} {p : Int → Int → Bool}, (∀ d e, cop o' d e = match d, e with | .int i, .int j => copI o' i j | _, _ => none) → (∀ i j, copI o' i j = some (p i j)) → ∀ q, cop o' d e = some q → ∃ i j, d = .int i ∧ e = .int j ∧ q = p i j := fun {o' p} h0 h1 q hq => by
    rw [h0] at hq
    split at hq
    · rw [h1] at hq; cases hq; exact ⟨_, _, rfl, rfl, rfl⟩
    · cases hq
  have seq : ∀ {neg : Bool} {H : Hp} {ds : List D} {v u : V} {q : Bool} {Q : VK}, (Rep X.K H d v) → (∃ a vs, u = .ref a ∧ (SqL X.K H a vs ∨ SqT X.K H a vs) ∧ RepL X.K H ds vs) → inD d ds = some q → Q (.bl (if neg then !q else q)) H → rIn X.K neg v u H Q := fun {neg H ds v u q Q} rd re hq qq => by
    obtain ⟨a, vs, rfl, e2, e3⟩ := re
    unfold inD at hq
    cases h1 : d.sc with
    | none => rw [h1] at hq; cases hq
    | some x =>
      cases h2 : scL ds with
      | none => rw [h1, h2] at hq; cases hq
      | some xs =>
        rw [h1, h2] at hq
        cases hq
        obtain ⟨h3, h4⟩ := repL_sc e3 h2
        subst h3
        rw [rep_sc rd h1]
        exact ⟨a, vs, rfl, e2, sc_flat h1, h4, qq⟩
  cases o <;> cases op <;> first | (cases h; done) | skip
  · exact ii op_lt (i2 (fun d e => by cases d <;> cases e <;> rfl) fun _ _ => rfl)
  · exact ii op_le (i2 (fun d e => by cases d <;> cases e <;> rfl) fun _ _ => rfl)
  · exact ii op_gt (i2 (fun d e => by cases d <;> cases e <;> rfl) fun _ _ => rfl)
  · exact ii op_ge (i2 (fun d e => by cases d <;> cases e <;> rfl) fun _ _ => rfl)
  · refine ⟨_, op_eqD hu, fun H v u q rd re hq Q qq => ?_⟩
    simp only [cop, eqD] at hq
    split at hq
    · rename_i p p' hp hp'
      split at hq
      · rename_i hs
        cases hq
        exact ⟨p, p', rep_py rd hp, rep_py re hp', hs.1, hs.2, qq⟩
      · cases hq
    · cases hq
  · refine ⟨_, op_neD hu, fun H v u q rd re hq Q qq => ?_⟩
    simp only [cop, eqD] at hq
    split at hq
    · rename_i p p' hp hp'
      split at hq
      · rename_i hs
        cases hq
        exact ⟨p, p', rep_py rd hp, rep_py re hp', hs.1, hs.2, qq⟩
      · cases hq
    · cases hq
  · refine ⟨_, op_in_seq, fun H v u q rd re hq Q qq => ?_⟩
    cases e with
    | lst ds => obtain ⟨a, vs, e1, e2, e3⟩ := re; exact seq rd ⟨a, vs, e1, .inl e2, e3⟩ hq qq
    | tup ds => obtain ⟨a, vs, e1, e2, e3⟩ := re; exact seq rd ⟨a, vs, e1, .inr e2, e3⟩ hq qq
    | _ => cases hq
  · refine ⟨_, op_notIn_seq, fun H v u q rd re hq Q qq => ?_⟩
    cases e with
    | lst ds =>
      obtain ⟨a, vs, e1, e2, e3⟩ := re
      simp only [cop] at hq
      cases h3 : inD d ds with
      | none => rw [h3] at hq; cases hq
      | some q' => rw [h3] at hq; cases hq; exact seq rd ⟨a, vs, e1, .inl e2, e3⟩ h3 qq
    | tup ds =>
      obtain ⟨a, vs, e1, e2, e3⟩ := re
      simp only [cop] at hq
      cases h3 : inD d ds with
      | none => rw [h3] at hq; cases hq
      | some q' => rw [h3] at hq; cases hq; exact seq rd ⟨a, vs, e1, .inr e2, e3⟩ h3 qq
    | _ => cases hq
  · refine ⟨_, op_is_bl, fun H v u q rd re hq Q qq => ?_⟩
    simp only [cop] at hq
    split at hq
    · cases hq
      exact ⟨_, _, rd, re, qq⟩
    · cases hq
  · refine ⟨_, op_isnot_bl, fun H v u q rd re hq Q qq => ?_⟩
    simp only [cop] at hq
    split at hq
    · cases hq
      exact ⟨_, _, rd, re, qq⟩
    · cases hq
theorem mark_of {op : CmpOp} {b : Expr} (h : notSet b = true) : behindInMarks op b = false := by
  cases b <;> first | rfl | (cases h; done)
theorem cmp_post (C : CxOk c k ck X) (o : COp) {op : CmpOp} (ho : o.is op = true) (x y : XV) : ∃ r : R2, OpR X (compareOp op) r ∧ ∀ (O : Addr → Prop) (w : Wd) (σ : L2.St) (v u : V), WOk w → XRep X.K O w x v → XRep X.K O w y u → ∀ q d e, x.d = some d → y.d = some e → cop o d e = some q → ∀ Q : VK, Q (.bl q) w.H → r v u w.H Q := by
  cases hx : x.d with
  | none => 
    obtain ⟨r, h1, _⟩ := cop_rule C o ho .non .non
    exact ⟨r, h1, fun O w σ v u k rx ry q d e h => nomatch h⟩
  | some d =>
    cases hy : y.d with
    | none =>
      obtain ⟨r, h1, _⟩ := cop_rule C o ho .non .non
      exact ⟨r, h1, fun O w σ v u k rx ry q d e _ h => nomatch h⟩
    | some e =>
      obtain ⟨r, h1, h2⟩ := cop_rule C o ho d e
      refine ⟨r, h1, fun O w σ v u k rx ry q d' e' hd he hq Q qq => ?_⟩
      cases hd; cases he
      exact h2 w.H v u q (rx.dat k hx) (ry.dat k hy) hq Q qq
theorem cmpF_ok {o : COp} {x y z : XV} (h : cmpF o x y = .ok z) : ∃ d e q, x.d = some d ∧ y.d = some e ∧ cop o d e = some q ∧ z = .cl (.bl q) := by
  unfold cmpF at h
  split at h
  · rename_i d e h1 h2
    cases h3 : cop o d e with
    | none => rw [h3] at h; cases h
    | some q => rw [h3] at h; cases h; exact ⟨d, e, q, h1, h2, h3, rfl⟩
  · cases h
theorem cmpF_exc {o : COp} {x y : XV} {e : Exn} : cmpF o x y ≠ .exc e := by
  unfold cmpF
  split
  · rename_i d e' h1 h2
    cases h3 : cop o d e' <;> simp
  · simp
theorem ok_cmp (C : CxOk c k ck X) {o : COp} {op : CmpOp} (ho : o.is op = true) (hm : notSet b = true) (ha : OkE X Wx a f) (hb : OkE X Wx b g) :
    OkE X Wx (.Compare a [op] [b] pos) (fun sl => (f sl).bind fun x => (g sl).bind fun y => cmpF o x y) :=
  ok_op2 ha hb fun x y => by
    obtain ⟨r, h1, h2⟩ := cmp_post C o ho x y
    refine ⟨r, fun σ H Q q => ⟨_, pe_cmpR h1 pe_we pe_we (mark_of hm), q⟩, fun w0 w σ v u k rx ry => ?_⟩
    cases hc : cmpF o x y with
    | stuck => trivial
    | exc e => exact absurd hc cmpF_exc
    | ok z =>
      obtain ⟨d, e, q, e1, e2, e3, rfl⟩ := cmpF_ok hc
      exact PostR.val (u := .bl q) k rfl fun Q qq => h2 _ w σ v u k rx ry q d e e1 e2 e3 Q qq
theorem okT_cmp (C : CxOk c k ck X) {o : COp} {op : CmpOp} (ho : o.is op = true) (hm : notSet b = true) (ha : OkE X Wx a f) (hb : OkE X Wx b g) :
    OkT X Wx (.Compare a [op] [b] pos) (fun sl => (f sl).bind fun x => (g sl).bind fun y => cmpF o x y) := by
  intro sl σ A w t
  show PostR _ _ _ _ _ (tst ((f sl).bind fun x => (g sl).bind fun y => cmpF o x y)) _
  cases hf : f sl with
  | stuck => trivial
  | exc e =>
    obtain ⟨r, h1, _⟩ := cmp_post C o ho (.cl .non) (.cl .non)
    have q := ha sl σ A w t
    rw [hf] at q
    exact fun Q qq => ⟨_, pt_cmpR h1 pe_we pe_we (mark_of hm), q _ qq⟩
  | ok x =>
    have qa := ha sl σ A w t
    rw [hf] at qa
    cases hg : g sl with
    | stuck => trivial
    | exc e =>
      obtain ⟨r, h1, _⟩ := cmp_post C o ho (.cl .non) (.cl .non)
      refine fun Q qq => ⟨_, pt_cmpR h1 pe_we pe_we (mark_of hm), qa _ fun w1 v k1 l1 r1 => ?_⟩
      have qb := hb sl σ A w1 (t.mono l1 k1)
      rw [hg] at qb
      exact qb _ fun w' cls d k' l' => qq w' cls d k' (l1.trans l')
    | ok y =>
      obtain ⟨r, h1, h2⟩ := cmp_post C o ho x y
      show PostR _ _ _ _ _ (tst (cmpF o x y)) _
      cases hc : cmpF o x y with
      | stuck => trivial
      | exc e => exact absurd hc cmpF_exc
      | ok z =>
        obtain ⟨d, e, q, e1, e2, e3, rfl⟩ := cmpF_ok hc
        refine fun Q qq => ⟨_, pt_cmpR h1 pe_we pe_we (mark_of hm), qa _ fun w1 v k1 l1 r1 => ?_⟩
        have qb := hb.at1 (t.mono l1 k1) l1
        rw [hg] at qb
        refine qb _ fun w2 u k2 l2 r2 => ?_
        exact h2 _ w2 σ v u k2 (r1.mono l2) r2 q d e e1 e2 e3 _ ⟨q, rfl, qq w2 q k2 (l1.trans l2) rfl⟩
end
end Mo
namespace Mo
open PySem PySem.Spec PyProof.Rows L2
section
variable {c : Calls} {k : Nat} {ck : Ck} {X : Cx} {Wx : WX} {a b e : Expr} {f g h : Sl → R XV} {pos : Pos}
theorem XV.b_eq {x : XV} {q : Bool} (h : x.b = some q) : x = .cl (.bl q) := by
  cases x with
  | cl d =>
    cases d with
    | bl b => cases h; rfl
    | _ => cases h
  | _ => cases h
/-- a test by its value, where the syntax has no test of its own -/
def plainT (e : Expr) : Bool := match e with
  | .UnaryOp .Not _ _ => false
  | .BoolOp _ _ _ => false
  | .IfExp _ _ _ _ => false
  | .Compare _ _ _ _ => false
  | _ => true
theorem isTrue_plainT {e : Expr} (h : plainT e = true) (env : Env) (whole : Sem Value) : isTrue e env whole = (do let v ← whole; standAt e.pos; holding [v] (truthy v)) := by
  cases e with
  | UnaryOp op x p => cases op <;> first | rfl | (cases h; done)
  | BoolOp op x p => cases h
  | IfExp t x y p => cases h
  | Compare l o x p => cases h
  | _ => rfl
/-- a test out of a value -/
theorem okT_of (ha : OkE X Wx e f) (hp : PT X e (tTest (weE X e))) : OkT X Wx e f := by
  intro sl σ A w t
  refine PostR.bind (body := fun v H1 Q => ∃ q, v = V.bl q ∧ Q q H1) (ha sl σ A w t) (fun Q q => ⟨_, hp, q⟩) fun x w1 v hx k1 l1 r1 => ?_
  cases hb : x.b with
  | none => trivial
  | some q => exact fun Q qq => ⟨q, r1.b_of hb, qq w1 q k1 (WLe.refl _) rfl⟩
theorem okT_val (h1 : plainT e = true) (ha : OkE X Wx e f) : OkT X Wx e f := okT_of ha (pt_val pe_we (isTrue_plainT h1 _))
/-! ### is None -/
theorem isN_iff {x : XV} {v : V} {O : Addr → Prop} {w : Wd} {q : Bool} (k : WOk w) (r : XRep X.K O w x v) (h : isNF x = some q) : decide (v = .non) = q := by
  unfold isNF at h
  cases hd : x.d with
  | none => rw [hd] at h; cases h
  | some d =>
    rw [hd] at h
    have rd := r.dat k hd
    cases d with
    | non => cases h; rw [show v = V.non from rd]; rfl
    | bl b => cases h; rw [show v = V.bl b from rd]; rfl
    | int i => cases h; rw [show v = V.int i from rd]; rfl
    | str s => cases h; rw [show v = V.str s from rd]; rfl
    | tup ds => obtain ⟨a, vs, e1, _⟩ := rd; cases h; rw [e1]; rfl
    | lst ds => obtain ⟨a, vs, e1, _⟩ := rd; cases h; rw [e1]; rfl
    | dct _ _ => obtain ⟨a, vs, e1, _⟩ := rd; cases h; rw [e1]; rfl
    | ins _ _ _ => obtain ⟨a, vs, fs, e1, _⟩ := rd; cases h; rw [e1]; rfl
    | exn _ => obtain ⟨a, e1, _⟩ := rd; cases h; rw [e1]; rfl
theorem ok_isN {j p2} (ha : OkE X Wx a f) : OkE X Wx (.Compare a [.Is] [.Constant .none j p2] pos) (fun sl => (f sl).bind fun x => R.of ((isNF x).map fun q => .cl (.bl q))) :=
  ok_op1 ha fun x => ⟨fun v H Q => Q (.bl (decide (v = .non))) H, fun σ H Q q => ⟨_, pe_cmp (pc_isN pe_we), q⟩, fun w0 w σ v k rx => PostR.of_none fun z hz => by
    cases hq : isNF x with
    | none => rw [hq] at hz; cases hz
    | some q =>
      rw [hq] at hz; cases hz
      have ee := isN_iff k rx hq
      subst ee
      exact PostR.val (u := .bl _) k rfl fun Q q => q⟩
theorem ok_notN {j p2} (ha : OkE X Wx a f) : OkE X Wx (.Compare a [.IsNot] [.Constant .none j p2] pos) (fun sl => (f sl).bind fun x => R.of ((isNF x).map fun q => .cl (.bl (!q)))) :=
  ok_op1 ha fun x => ⟨fun v H Q => Q (.bl (!decide (v = .non))) H, fun σ H Q q => ⟨_, pe_cmp (pc_notN pe_we), q⟩, fun w0 w σ v k rx => PostR.of_none fun z hz => by
    cases hq : isNF x with
    | none => rw [hq] at hz; cases hz
    | some q =>
      rw [hq] at hz; cases hz
      have ee := isN_iff k rx hq
      subst ee
      exact PostR.val (u := .bl _) k rfl fun Q q => q⟩
/-- a test out of a comparison's rule -/
theorem okT_cmpV {F : XV → R XV} {op : CmpOp} {t : TE} (hp : PC X op a b t) (h1 : behindInMarks op b = false) (ha : OkE X Wx a f) {r : V → Hp → VK → Prop} (ht : ∀ σ H Q, (weE X a σ H fun v H1 => r v H1 Q) → t σ H Q)
    (hF : ∀ x (w0 w : Wd) (σ : L2.St) (v : V), WOk w → XRep X.K (old w0) w x v → PostR X.K Wx (fun w' x v => XRep X.K (old w0) w' x v) σ w (F x) (r v w.H)) : OkT X Wx (.Compare a [op] [b] pos) (fun sl => (f sl).bind F) := by
  intro sl σ A w t0
  have q := OkE.bind1 ha t0 (F := F) (body := fun v H1 Q => r v H1 Q) (T := fun Q => t σ w.H Q) (fun Q q => ht σ w.H Q q) (fun x w2 v e t2 l r1 => hF x w w2 σ v t2.ok r1)
  refine PostR.bind (T := fun Q => t σ w.H Q) (body := fun (v : V) H1 Q => ∃ q : Bool, v = V.bl q ∧ Q q H1) q (fun Q q => ⟨_, pt_cmp hp h1, q⟩) fun x w1 v hx k1 l1 r1 => ?_
  cases hb : x.b with
  | none => trivial
  | some q => exact fun Q qq => ⟨q, r1.b_of hb, qq w1 q k1 (WLe.refl _) rfl⟩
theorem okT_isN {j p2} (ha : OkE X Wx a f) : OkT X Wx (.Compare a [.Is] [.Constant .none j p2] pos) (fun sl => (f sl).bind fun x => R.of ((isNF x).map fun q => .cl (.bl q))) :=
  okT_cmpV (pc_isN pe_we) (nomark _) ha (r := fun v H Q => Q (.bl (decide (v = .non))) H) (fun σ H Q q => q) fun x w0 w σ v k rx => PostR.of_none fun z hz => by
    cases hq : isNF x with
    | none => rw [hq] at hz; cases hz
    | some q =>
      rw [hq] at hz; cases hz
      have ee := isN_iff k rx hq
      subst ee
      exact PostR.val (u := .bl _) k rfl fun Q q => q
theorem okT_notN {j p2} (ha : OkE X Wx a f) : OkT X Wx (.Compare a [.IsNot] [.Constant .none j p2] pos) (fun sl => (f sl).bind fun x => R.of ((isNF x).map fun q => .cl (.bl (!q)))) :=
  okT_cmpV (pc_notN pe_we) (nomark _) ha (r := fun v H Q => Q (.bl (!decide (v = .non))) H) (fun σ H Q q => q) fun x w0 w σ v k rx => PostR.of_none fun z hz => by
    cases hq : isNF x with
    | none => rw [hq] at hz; cases hz
    | some q =>
      rw [hq] at hz; cases hz
      have ee := isN_iff k rx hq
      subst ee
      exact PostR.val (u := .bl _) k rfl fun Q q => q
/-! ### a < b < c -/
theorem notSet_marks {o o' : CmpOp} {b e : Expr} (h : notSet e = true) : lastMarks [o, o'] [b, e] = false := by
  show behindInMarks o' e = false
  exact mark_of h
theorem chn_post (C : CxOk c k ck X) {o o' : COp} {op op' : CmpOp} (ho : o.is op = true) (ho' : o'.is op' = true) (ha : OkE X Wx a f) (hb : OkE X Wx b g) (he : OkE X Wx e h) {sl : Sl} {σ : L2.St} {A : List Addr} {w : Wd} (t : At X.K sl σ A w) {T : VK → Prop}
    (hT : ∀ r r' : R2, OpR X (compareOp op) r → OpR X (compareOp op') r' → ∀ Q, tChain r r' (weE X a) (weE X b) (weE X e) σ w.H Q → T Q) :
    PostR X.K Wx (fun w' x v => XRep X.K (old w) w' x v) σ w ((f sl).bind fun x => (g sl).bind fun y => (cmpF o x y).bind fun z => chnF o' y z (h sl)) T := by
  obtain ⟨r0, n1, _⟩ := cmp_post C o ho (.cl .non) (.cl .non)
  obtain ⟨r0', n1', _⟩ := cmp_post C o' ho' (.cl .non) (.cl .non)
  cases hf : f sl with
  | stuck => trivial
  | exc ex =>
    have q := ha sl σ A w t
    rw [hf] at q
    exact fun Q qq => hT _ _ n1 n1' Q (q _ qq)
  | ok x =>
    have qa := ha sl σ A w t
    rw [hf] at qa
    cases hg : g sl with
    | stuck => trivial
    | exc ex =>
      refine fun Q qq => hT _ _ n1 n1' Q (qa _ fun w1 v k1 l1 r1 => ?_)
      have qb := hb sl σ A w1 (t.mono l1 k1)
      rw [hg] at qb
      exact qb _ fun w' cls d k' l' => qq w' cls d k' (l1.trans l')
    | ok y =>
      obtain ⟨r, h1, h2⟩ := cmp_post C o ho x y
      show PostR _ _ _ _ _ ((cmpF o x y).bind fun z => chnF o' y z (h sl)) _
      cases hc : cmpF o x y with
      | stuck => trivial
      | exc ex => exact absurd hc cmpF_exc
      | ok z =>
        obtain ⟨d, e', q, e1, e2, e3, rfl⟩ := cmpF_ok hc
        have qb := fun w1 (k1 : WOk w1) (l1 : WLe w w1) => hb.at1 (t.mono l1 k1) l1
        simp only [hg] at qb
        cases q with
        | false =>
          refine fun Q qq => hT _ _ h1 n1' Q (qa _ fun w1 v k1 l1 r1 => qb w1 k1 l1 _ fun w2 u k2 l2 r2 => ?_)
          exact h2 _ w2 σ v u k2 (r1.mono l2) r2 false d e' e1 e2 e3 _ ⟨false, rfl, iteF (qq w2 _ k2 (l1.trans l2) (XRep.cl rfl))⟩
        | true =>
          show PostR _ _ _ _ _ ((h sl).bind fun z' => cmpF o' y z') _
          cases hh : h sl with
          | stuck => trivial
          | exc ex =>
            refine fun Q qq => hT _ _ h1 n1' Q (qa _ fun w1 v k1 l1 r1 => qb w1 k1 l1 _ fun w2 u k2 l2 r2 => ?_)
            have qe := he sl σ A w2 (t.mono (l1.trans l2) k2)
            rw [hh] at qe
            exact h2 _ w2 σ v u k2 (r1.mono l2) r2 true d e' e1 e2 e3 _ ⟨true, rfl, iteT (qe _ fun w' cls d k' l' => qq w' cls d k' ((l1.trans l2).trans l'))⟩
          | ok z' =>
            obtain ⟨r', h1', h2'⟩ := cmp_post C o' ho' y z'
            show PostR _ _ _ _ _ (cmpF o' y z') _
            cases hc' : cmpF o' y z' with
            | stuck => trivial
            | exc ex => exact absurd hc' cmpF_exc
            | ok z2 =>
              obtain ⟨d', e2', q', e1', e3', e4', rfl⟩ := cmpF_ok hc'
              refine fun Q qq => hT _ _ h1 h1' Q (qa _ fun w1 v k1 l1 r1 => qb w1 k1 l1 _ fun w2 u k2 l2 r2 => ?_)
              have qe := he.at1 (t.mono (l1.trans l2) k2) (l1.trans l2)
              rw [hh] at qe
              exact h2 _ w2 σ v u k2 (r1.mono l2) r2 true d e' e1 e2 e3 _ ⟨true, rfl, iteT (qe _ fun w3 v3 k3 l3 r3 =>
                h2' _ w3 σ u v3 k3 (r2.mono l3) r3 q' d' e2' e1' e3' e4' _ (qq w3 _ k3 ((l1.trans l2).trans l3) (XRep.cl rfl)))⟩
theorem ok_chn (C : CxOk c k ck X) {o o' : COp} {op op' : CmpOp} (ho : o.is op = true) (ho' : o'.is op' = true) (hm : notSet e = true) (ha : OkE X Wx a f) (hb : OkE X Wx b g) (he : OkE X Wx e h) :
    OkE X Wx (.Compare a [op, op'] [b, e] pos) (fun sl => (f sl).bind fun x => (g sl).bind fun y => (cmpF o x y).bind fun z => chnF o' y z (h sl)) := fun sl σ A w t =>
  chn_post C ho ho' ha hb he t fun r r' h1 h2 Q q => ⟨_, pe_chain h1 h2 pe_we pe_we pe_we (notSet_marks hm), q⟩
theorem okT_chn (C : CxOk c k ck X) {o o' : COp} {op op' : CmpOp} (ho : o.is op = true) (ho' : o'.is op' = true) (hm : notSet e = true) (ha : OkE X Wx a f) (hb : OkE X Wx b g) (he : OkE X Wx e h) :
    OkT X Wx (.Compare a [op, op'] [b, e] pos) (fun sl => (f sl).bind fun x => (g sl).bind fun y => (cmpF o x y).bind fun z => chnF o' y z (h sl)) := fun sl σ A w t => by
  have q := chn_post C ho ho' ha hb he t (T := fun Q => ∃ r r' : R2, OpR X (compareOp op) r ∧ OpR X (compareOp op') r' ∧ tChain r r' (weE X a) (weE X b) (weE X e) σ w.H Q) (fun r r' h1 h2 Q q => ⟨r, r', h1, h2, q⟩)
  refine q.bind (body := fun (v : V) H1 Q => ∃ q : Bool, v = V.bl q ∧ Q q H1) (fun Q ⟨r, r', h1, h2, q⟩ => ⟨_, pt_chain h1 h2 pe_we pe_we pe_we (notSet_marks hm), q⟩) fun x w1 v hx k1 l1 r1 => ?_
  cases hb' : x.b with
  | none => trivial
  | some q => exact fun Q qq => ⟨q, r1.b_of hb', qq w1 q k1 (WLe.refl _) rfl⟩
/-! ### and, or, not -/
variable {rest : List Expr}
theorem ok_and (ha : OkE X Wx a f) (hb : OkE X Wx (.BoolOp .And (b :: rest) pos) g) : OkE X Wx (.BoolOp .And (a :: b :: rest) pos) (fun sl => (f sl).bind fun x => andF x (g sl)) := by
  intro sl σ A w t
  refine OkE.bind1 ha t (body := fun v H1 Q => ∃ q, v = .bl q ∧ if q = true then weE X (.BoolOp .And (b :: rest) pos) σ H1 Q else Q (.bl false) H1) (fun Q q => ⟨_, pe_and pe_we pe_we, q⟩) fun x w1 v hx t1 l1 r1 => ?_
  unfold andF
  cases hq : x.b with
  | none => trivial
  | some q =>
    have ev := r1.b_of hq
    cases q with
    | false => exact PostR.val (u := .bl false) t1.ok rfl fun Q qq => ⟨false, ev, iteF qq⟩
    | true =>
      refine (hb.at1 t1 l1).bind (body := fun v H2 Q => Q v H2) (fun Q qq => ⟨true, ev, iteT qq⟩) fun y w2 u hy k2 l2 r2 => ?_
      unfold boolF
      cases hy' : y.b with
      | none => trivial
      | some p => rw [r2.b_of hy']; exact PostR.val (u := .bl p) k2 rfl fun Q qq => qq
theorem ok_or (ha : OkE X Wx a f) (hb : OkE X Wx (.BoolOp .Or (b :: rest) pos) g) : OkE X Wx (.BoolOp .Or (a :: b :: rest) pos) (fun sl => (f sl).bind fun x => orF x (g sl)) := by
  intro sl σ A w t
  refine OkE.bind1 ha t (body := fun v H1 Q => ∃ q, v = .bl q ∧ if q = true then Q (.bl true) H1 else weE X (.BoolOp .Or (b :: rest) pos) σ H1 Q) (fun Q q => ⟨_, pe_or pe_we pe_we, q⟩) fun x w1 v hx t1 l1 r1 => ?_
  unfold orF
  cases hq : x.b with
  | none => trivial
  | some q =>
    have ev := r1.b_of hq
    cases q with
    | true => exact PostR.val (u := .bl true) t1.ok rfl fun Q qq => ⟨true, ev, iteT qq⟩
    | false =>
      refine (hb.at1 t1 l1).bind (body := fun v H2 Q => Q v H2) (fun Q qq => ⟨false, ev, iteF qq⟩) fun y w2 u hy k2 l2 r2 => ?_
      unfold boolF
      cases hy' : y.b with
      | none => trivial
      | some p => rw [r2.b_of hy']; exact PostR.val (u := .bl p) k2 rfl fun Q qq => qq
theorem ok_one {op} (ha : OkE X Wx a f) : OkE X Wx (.BoolOp op [a] pos) f := fun sl σ A w t => (ha sl σ A w t).imp (fun Q ⟨tt, h1, h2⟩ => ⟨_, pe_one h1, h2⟩) fun _ _ _ _ r => r
theorem ok_not (ha : OkE X Wx a f) : OkE X Wx (.UnaryOp .Not a pos) (fun sl => (f sl).bind notF) := by
  intro sl σ A w t
  refine OkE.bind1 ha t (body := fun v H1 Q => ∃ q, v = .bl q ∧ Q (.bl (!q)) H1) (fun Q q => ⟨_, pe_not pe_we, q⟩) fun x w1 v hx t1 l1 r1 => ?_
  unfold notF
  cases hq : x.b with
  | none => trivial
  | some q => exact PostR.val (u := .bl (!q)) t1.ok rfl fun Q qq => ⟨q, r1.b_of hq, qq⟩
theorem ok_ife (hc : OkT X Wx e f) (ha : OkE X Wx a g) (hb : OkE X Wx b h) : OkE X Wx (.IfExp e a b pos) (fun sl => (f sl).bind fun x => match x.b with | some true => g sl | some false => h sl | none => .stuck) := by
  intro sl σ A w t
  have key : PostR X.K Wx (fun w' x v => XRep X.K (old w) w' x v) σ w ((tst (f sl)).bind fun q => if q then g sl else h sl) (weE X (.IfExp e a b pos) σ w.H) := by
    refine (hc sl σ A w t).bind (body := fun q H1 Q => if q = true then weE X a σ H1 Q else weE X b σ H1 Q) (fun Q q => ⟨_, pe_ifExp pt_we pe_we pe_we, q⟩) fun q w1 v hq k1 l1 r1 => ?_
    subst r1
    cases q with
    | true => exact (ha.at1 (t.mono l1 k1) l1).imp (fun Q q => iteT q) fun _ _ _ _ r => r
    | false => exact (hb.at1 (t.mono l1 k1) l1).imp (fun Q q => iteF q) fun _ _ _ _ r => r
  cases hf : f sl with
  | stuck => simp only [hf]; trivial
  | exc ex => rw [hf] at key; simp only [hf]; exact key
  | ok x =>
    rw [hf] at key
    simp only [hf, R.bind_ok]
    have key' : PostR X.K Wx (fun w' x v => XRep X.K (old w) w' x v) σ w ((R.of x.b).bind fun q => if q then g sl else h sl) (weE X (.IfExp e a b pos) σ w.H) := key
    cases hq : x.b with
    | none => trivial
    | some q => rw [hq] at key'; cases q <;> exact key'
/-! ### .. as tests -/
theorem tst_bool {r : R XV} : tst (r.bind boolF) = tst r := by
  cases r with
  | stuck => rfl
  | exc e => rfl
  | ok x => show tst (boolF x) = R.of x.b; unfold boolF; cases hx : x.b <;> rfl
theorem okW_and (ha : OkT X Wx a f) (hb : OkW X Wx (.BoolOp .And (b :: rest) pos) g) : OkW X Wx (.BoolOp .And (a :: b :: rest) pos) (fun sl => (f sl).bind fun x => andF x (g sl)) := by
  intro sl σ A w t
  have key : PostR X.K Wx (fun _ x b => x = b) σ w ((tst (f sl)).bind fun q => if q then tst (g sl) else .ok false) (weW X (.BoolOp .And (a :: b :: rest) pos) σ w.H) := by
    refine (ha sl σ A w t).bind (body := fun q H1 Q => if q = true then weW X (.BoolOp .And (b :: rest) pos) σ H1 Q else Q false H1) (fun Q q => ⟨_, pw_and pt_we pw_we, q⟩) fun q w1 v hq k1 l1 r1 => ?_
    subst r1
    cases q with
    | true => exact (hb sl σ A w1 (t.mono l1 k1)).imp (fun Q q => iteT q) fun _ _ _ _ r => r
    | false => exact fun Q qq => iteF (qq w1 false k1 (WLe.refl _) rfl)
  cases hf : f sl with
  | stuck => simp only [hf]; trivial
  | exc ex => rw [hf] at key; simp only [hf]; exact key
  | ok x =>
    rw [hf] at key
    simp only [hf, R.bind_ok]
    have key' : PostR X.K Wx (fun _ x b => x = b) σ w ((R.of x.b).bind fun q => if q then tst (g sl) else .ok false) (weW X (.BoolOp .And (a :: b :: rest) pos) σ w.H) := key
    unfold andF
    cases hq : x.b with
    | none => trivial
    | some q =>
      rw [hq] at key'
      cases q with
      | true => simp only [tst_bool]; exact key'
      | false => exact key'
theorem okW_or (ha : OkT X Wx a f) (hb : OkW X Wx (.BoolOp .Or (b :: rest) pos) g) : OkW X Wx (.BoolOp .Or (a :: b :: rest) pos) (fun sl => (f sl).bind fun x => orF x (g sl)) := by
  intro sl σ A w t
  have key : PostR X.K Wx (fun _ x b => x = b) σ w ((tst (f sl)).bind fun q => if q then .ok true else tst (g sl)) (weW X (.BoolOp .Or (a :: b :: rest) pos) σ w.H) := by
    refine (ha sl σ A w t).bind (body := fun q H1 Q => if q = true then Q true H1 else weW X (.BoolOp .Or (b :: rest) pos) σ H1 Q) (fun Q q => ⟨_, pw_or pt_we pw_we, q⟩) fun q w1 v hq k1 l1 r1 => ?_
    subst r1
    cases q with
    | false => exact (hb sl σ A w1 (t.mono l1 k1)).imp (fun Q q => iteF q) fun _ _ _ _ r => r
    | true => exact fun Q qq => iteT (qq w1 true k1 (WLe.refl _) rfl)
  cases hf : f sl with
  | stuck => simp only [hf]; trivial
  | exc ex => rw [hf] at key; simp only [hf]; exact key
  | ok x =>
    rw [hf] at key
    simp only [hf, R.bind_ok]
    have key' : PostR X.K Wx (fun _ x b => x = b) σ w ((R.of x.b).bind fun q => if q then .ok true else tst (g sl)) (weW X (.BoolOp .Or (a :: b :: rest) pos) σ w.H) := key
    unfold orF
    cases hq : x.b with
    | none => trivial
    | some q =>
      rw [hq] at key'
      cases q with
      | false => simp only [tst_bool]; exact key'
      | true => exact key'
theorem okW_and1 (ha : OkT X Wx a f) : OkW X Wx (.BoolOp .And [a] pos) f := fun sl σ A w t => (ha sl σ A w t).imp (fun Q ⟨tt, h1, h2⟩ => ⟨_, pw_and1 h1, h2⟩) fun _ _ _ _ r => r
theorem okW_or1 (ha : OkT X Wx a f) : OkW X Wx (.BoolOp .Or [a] pos) f := fun sl σ A w t => (ha sl σ A w t).imp (fun Q ⟨tt, h1, h2⟩ => ⟨_, pw_or1 h1, h2⟩) fun _ _ _ _ r => r
theorem okT_W (ha : OkW X Wx e f) : OkT X Wx e f := fun sl σ A w t => (ha sl σ A w t).imp (fun Q ⟨tt, h1, h2⟩ => ⟨_, h1.pt, h2⟩) fun _ _ _ _ r => r
theorem okT_not (ha : OkT X Wx a f) : OkT X Wx (.UnaryOp .Not a pos) (fun sl => (f sl).bind notF) := by
  intro sl σ A w t
  have key : PostR X.K Wx (fun _ x b => x = b) σ w ((tst (f sl)).bind fun q => .ok (!q)) (weT X (.UnaryOp .Not a pos) σ w.H) := by
    refine (ha sl σ A w t).bind (body := fun q H1 Q => Q (!q) H1) (fun Q q => ⟨_, pt_not pt_we, q⟩) fun q w1 v hq k1 l1 r1 => ?_
    subst r1
    exact fun Q qq => qq w1 _ k1 (WLe.refl _) rfl
  cases hf : f sl with
  | stuck => simp only [hf]; trivial
  | exc ex => rw [hf] at key; simp only [hf]; exact key
  | ok x =>
    rw [hf] at key
    simp only [hf, R.bind_ok]
    have key' : PostR X.K Wx (fun _ x b => x = b) σ w ((R.of x.b).bind fun q => .ok (!q)) (weT X (.UnaryOp .Not a pos) σ w.H) := key
    unfold notF
    cases hq : x.b with
    | none => trivial
    | some q => rw [hq] at key'; exact key'
end
end Mo
namespace Mo
open PySem PySem.Spec PyProof.Rows L2
section
variable {c : Calls} {k : Nat} {ck : Ck} {X : Cx} {Wx : WX} {a b e : Expr} {f g h : Sl → R XV} {pos : Pos} {es : List Expr} {fs : Sl → R (List XV)}
/-! ### rows of expressions -/
theorem star_cons {e : Expr} (h : notStar e = true) (es : List Expr) (env : Env) : starEach (e :: es) env = (false, eval e env) :: starEach es env := by
  cases e <;> first | rfl | (cases h; done)
theorem okA_nil : OkA X Wx [] (fun _ => .ok []) := fun sl σ A w t Q q => ⟨_, pa_nil, q w [] t.ok (WLe.refl w) ⟨[], ⟨rfl, rfl⟩, own_nil, fun a h => absurd h (by simp)⟩⟩
theorem okA_cons (hs : notStar e = true) (ha : OkE X Wx e f) (hb : OkA X Wx es fs) : OkA X Wx (e :: es) (fun sl => (f sl).bind fun x => (fs sl).bind fun xs => .ok (x :: xs)) := by
  intro sl σ A w t
  refine PostR.bind (body := fun v H1 Q => weA X es σ H1 fun vs H2 => Q (v :: vs) H2) (ha sl σ A w t) (fun Q q => ⟨_, pa_cons pe_we pa_we (star_cons hs _ _), q⟩) fun x w1 v hx k1 l1 r1 => ?_
  refine PostR.bind (body := fun vs H2 Q => Q (v :: vs) H2) (hb sl σ A w1 (t.mono l1 k1)) (fun Q q => q) fun xs w2 vs hxs k2 l2 r2 => ?_
  refine fun Q qq => qq w2 (v :: vs) k2 (WLe.refl _) ?_
  obtain ⟨B1, p1, p2, p3⟩ := r1
  obtain ⟨B2, q1, q2, q3⟩ := r2
  refine ⟨B1 ++ B2, ⟨v, vs, B1, B2, rfl, p1.mono l2, q1, rfl⟩, ⟨?_, fun a ha => ?_⟩, fun a ha => ?_⟩
  · rw [List.nodup_append]
    exact ⟨p2.nd, q2.nd, fun a h1 b h2 e => by subst e; exact q3 a h2 (p1.there a h1)⟩
  · rcases List.mem_append.mp ha with z | z
    · exact (p2.mono l2 p1.there).no a z
    · exact q2.no a z
  · rcases List.mem_append.mp ha with z | z
    · exact p3 a z
    · exact fun o => q3 a z (old_le l1 a o)
theorem XsR1.length {K : PySem.W.Frag} {w : Wd} : ∀ {xs : List XV} {vs : List V} {B : List Addr}, XsR1 K w xs vs B → xs.length = vs.length
  | [], vs, _, ⟨h, _⟩ => by subst h; rfl
  | _ :: _, _, _, ⟨v, r, B1, B2, e1, e2, e3, e4⟩ => by rw [e1]; simp [XsR1.length e3]
theorem clL_rep {K : PySem.W.Frag} {w : Wd} : ∀ {xs : List XV} {vs : List V} {B : List Addr} {ds : List D}, XsR1 K w xs vs B → clL xs = some ds → RepL K w.F ds vs
  | [], vs, _, _, ⟨h, _⟩, e => by cases e; exact h
  | x :: xs, _, _, _, ⟨v, r, B1, B2, e1, e2, e3, e4⟩, e => by
    cases x with
    | cl d =>
      cases q : clL xs with
      | none => simp only [clL, q] at e; cases e
      | some ds => simp only [clL, q] at e; cases e; exact ⟨v, r, e1, e2.1, clL_rep e3 q⟩
    | _ => cases e
theorem moL_rep {K : PySem.W.Frag} {w : Wd} : ∀ {xs : List XV} {vs : List V} {B : List Addr} {ms : List MO}, XsR1 K w xs vs B → moL xs = some ms → ORepL K w.F w.H ms vs B
  | [], vs, _, _, ⟨h, h'⟩, e => by cases e; exact ⟨h, h'⟩
  | x :: xs, _, _, _, ⟨v, r, B1, B2, e1, e2, e3, e4⟩, e => by
    cases x with
    | cl d =>
      cases q : moL xs with
      | none => simp only [moL, q] at e; cases e
      | some ds => simp only [moL, q] at e; cases e; exact ⟨v, r, B1, B2, e1, e2, moL_rep e3 q, e4⟩
    | nw m =>
      cases q : moL xs with
      | none => simp only [moL, q] at e; cases e
      | some ds => simp only [moL, q] at e; cases e; exact ⟨v, r, B1, B2, e1, e2, moL_rep e3 q, e4⟩
    | _ => cases e
theorem small {n : Nat} (h : n ≤ 1000) : n ≤ sizeLine := Nat.le_trans h (by decide)
/-- a new object of one's own -/
theorem own_new {w : Wd} {p : Addr} {o : HO} {B : List Addr} (k : WOk w) (np : w.H p = none) (hf : ∀ o' u, o ≠ .frz o' u) (h : Own w B) (th : ∀ a ∈ B, w.H a ≠ none) : Own (w.own p o) (p :: B) := by
  refine ⟨List.nodup_cons.mpr ⟨fun z => th p z np, h.nd⟩, fun a ha => ?_⟩
  rcases List.mem_cons.mp ha with z | z
  · subst z
    exact ⟨k.gh.free np, fun o' u q => by
      have q' : upd w.H a o a = some (.frz o' u) := q
      rw [upd_same] at q'
      exact hf o' u (Option.some.inj q')⟩
  · refine ⟨(h.no a z).1, fun o' u q => ?_⟩
    have q' : upd w.H p o a = some (.frz o' u) := q
    rw [upd_ne (by rintro rfl; exact th a z np)] at q'
    exact (h.no a z).2 o' u q'
theorem ok_tup {n : Nat} (hA : OkA X Wx es fs) : OkE X Wx (.Tuple es n pos) (fun sl => (fs sl).bind tupF) := by
  intro sl σ A w t
  refine PostR.bind (body := fun (vs : List V) H1 (Q : VK) => vs.length ≤ sizeLine ∧ ∀ p, H1 p = none → Q (.ref p) (upd H1 p (.tup vs))) (hA sl σ A w t) (fun Q q => ⟨_, pe_tup pa_we, q⟩) fun xs w1 vs hx k1 l1 r1 => ?_
  obtain ⟨B, p1, p2, p3⟩ := r1
  unfold tupF
  split
  · rename_i hl
    have hl' : vs.length ≤ sizeLine := small (by rw [← p1.length]; exact hl)
    cases hc : clL xs with
    | some ds =>
      exact fun Q qq => ⟨hl', fun p np => qq (w1.add p (.tup vs)) (.ref p) (Wd.add_ok k1) (Wd.add_le k1 np) (XRep.cl ⟨p, vs, rfl, .inl (.inl upd_same), (clL_rep p1 hc).mono (Wd.add_le (o := .tup vs) k1 np).f⟩)⟩
    | none =>
      cases hm : moL xs with
      | none => trivial
      | some ms =>
        refine fun Q qq => ⟨hl', fun p np => qq (w1.own p (.tup vs)) (.ref p) (Wd.own_ok k1 np) (Wd.own_le np) ⟨p :: B, ⟨p, vs, B, rfl, .inl upd_same, (moL_rep p1 hm).mono (Ex.refl _) (fun a _ o q => (Wd.own_le np).h a o q), rfl⟩, own_new k1 np (by intro _ _ z; cases z) p2 p1.there, fun a ha => ?_⟩⟩
        rcases List.mem_cons.mp ha with z | z
        · subst z; exact fun o => o (l1.h.free np)
        · exact p3 a z
  · trivial
theorem ok_lst (hA : OkA X Wx es fs) : OkE X Wx (.List es pos) (fun sl => (fs sl).bind lstF) := by
  intro sl σ A w t
  refine PostR.bind (body := fun (vs : List V) H1 (Q : VK) => vs.length ≤ sizeLine ∧ ∀ p, H1 p = none → Q (.ref p) (upd H1 p (.lst vs))) (hA sl σ A w t) (fun Q q => ⟨_, pe_lst pa_we, q⟩) fun xs w1 vs hx k1 l1 r1 => ?_
  obtain ⟨B, p1, p2, p3⟩ := r1
  unfold lstF
  split
  · rename_i hl
    have hl' : vs.length ≤ sizeLine := small (by rw [← p1.length]; exact hl)
    cases hm : moL xs with
    | none => trivial
    | some ms =>
      refine fun Q qq => ⟨hl', fun p np => qq (w1.own p (.lst vs)) (.ref p) (Wd.own_ok k1 np) (Wd.own_le np) ⟨p :: B, ⟨p, vs, B, rfl, .inl upd_same, (moL_rep p1 hm).mono (Ex.refl _) (fun a _ o q => (Wd.own_le np).h a o q), rfl⟩, own_new k1 np (by intro _ _ z; cases z) p2 p1.there, fun a ha => ?_⟩⟩
      rcases List.mem_cons.mp ha with z | z
      · subst z; exact fun o => o (l1.h.free np)
      · exact p3 a z
  · trivial
/-! ### a[i] -/
theorem plainIx_ok {b : Expr} (h : plainIx b = true) : PlainIx b := by
  intro o i
  cases b <;> first | rfl | (cases h; done)
theorem atI_some {α : Type} {xs : List α} {n : Int} {x : α} (h : atI xs n = some x) : ∃ j, ixN xs.length n = some j ∧ xs[j]? = some x := by
  unfold atI at h
  cases hj : ixN xs.length n with
  | none => rw [hj] at h; cases h
  | some j => rw [hj] at h; exact ⟨j, rfl, h⟩
theorem atI_of {α : Type} {xs : List α} {n : Int} {j : Nat} {x : α} (h : ixN xs.length n = some j) (q : xs[j]? = some x) : atI xs n = some x := by
  unfold atI
  rw [h]
  exact q
theorem ok_sub (hi : plainIx b = true) (ha : OkE X Wx a f) (hb : OkE X Wx b g) : OkE X Wx (.Subscript a b pos) (fun sl => (f sl).bind fun x => (g sl).bind fun y => R.of (idx x y)) :=
  ok_op2 ha hb fun x y => by
    refine ⟨_, fun σ H Q q => ⟨_, pe_ix ix_seq pe_we pe_we (plainIx_ok hi), q⟩, fun w0 w σ v u k rx ry => PostR.of_none fun z hz => ?_⟩
    unfold idx at hz
    split at hz
    · rename_i m n hm
      have ry' := ry.cl_of
      cases hk : m.kids with
      | some ms =>
        simp only [hk] at hz
        obtain ⟨p, vs, e1, e2, e3, e4⟩ := rx.kids k hm hk
        cases hz' : atI ms n with
        | none => rw [hz'] at hz; cases hz
        | some m' =>
          rw [hz'] at hz; cases hz
          obtain ⟨j, j1, j2⟩ := atI_some hz'
          obtain ⟨u', h1, h2⟩ := e4 j m' j2
          have hat : atI vs n = some u' := atI_of (by rw [← e3]; exact j1) h1
          refine fun Q qq => ?_
          have fin := qq w u' k (WLe.refl w) h2
          rcases e2 with q | q
          · exact .inl ⟨p, vs, n, u', e1, ry', q, hat, fin⟩
          · exact .inr (.inl ⟨p, vs, n, u', e1, ry', q, hat, fin⟩)
      | none =>
        simp only [hk] at hz
        split at hz
        · rename_i s
          split at hz
          · rename_i hl
            cases hc : atI s.cps.toList n with
            | none => rw [hc] at hz; cases hz
            | some ch =>
              rw [hc] at hz; cases hz
              have hv : v = .str s := by
                obtain ⟨A, o⟩ := rx.mo k hm
                exact o.1
              exact PostR.val (u := .str ⟨#[ch]⟩) k rfl fun Q qq => .inr (.inr ⟨s, n, ch, hv, ry', hl, hc, qq⟩)
          · cases hz
        · cases hz
    · cases hz
/-! ### built-ins -/
theorem xs1 {K : PySem.W.Frag} {O : Addr → Prop} {w : Wd} {x : XV} {vs : List V} (h : XsRep K O w [x] vs) : ∃ v, vs = [v] ∧ XRep K O w x v := by
  obtain ⟨B, ⟨v, r, B1, B2, e1, e2, ⟨e3, e5⟩, e4⟩, p2, p3⟩ := h
  subst e3 e5
  rw [List.append_nil] at e4
  subst e4
  exact ⟨v, e1, _, e2, p2, p3⟩
theorem XsRep.cons {K : PySem.W.Frag} {O : Addr → Prop} {w : Wd} {x : XV} {xs : List XV} {vs : List V} (h : XsRep K O w (x :: xs) vs) : ∃ v r, vs = v :: r ∧ XRep K O w x v ∧ XsRep K O w xs r := by
  obtain ⟨B, ⟨v, r, B1, B2, e1, e2, e3, e4⟩, p2, p3⟩ := h
  subst e4
  have nd := List.nodup_append.mp p2.nd
  exact ⟨v, r, e1, ⟨B1, e2, ⟨nd.1, fun a ha => p2.no a (List.mem_append_left _ ha)⟩, fun a ha => p3 a (List.mem_append_left _ ha)⟩,
    ⟨B2, e3, ⟨nd.2.1, fun a ha => p2.no a (List.mem_append_right _ ha)⟩, fun a ha => p3 a (List.mem_append_right _ ha)⟩⟩
theorem len_rep {x : XV} {v : V} {n : Int} {O : Addr → Prop} {w : Wd} (k : WOk w) (r : XRep X.K O w x v) (h : lenX x = some n) : ∃ m : Nat, LenV X.K v w.H m ∧ n = m := by
  unfold lenX at h
  cases hm : x.mo with
  | none => rw [hm] at h; cases h
  | some m =>
    rw [hm] at h
    simp only at h
    cases hk : m.kids with
    | some ms =>
      rw [hk] at h
      cases h
      obtain ⟨p, vs, e1, e2, e3, e4⟩ := r.kids k hm hk
      subst e1
      refine ⟨ms.length, ?_, rfl⟩
      rcases e2 with q | q
      · exact .inl ⟨vs, q, e3⟩
      · exact .inr ⟨vs, q, e3⟩
    | none =>
      rw [hk] at h
      simp only at h
      split at h
      · rename_i s
        split at h
        · rename_i hl
          cases h
          obtain ⟨A, o⟩ := r.mo k hm
          have e : v = .str s := o.1
          subst e
          exact ⟨s.length, ⟨hl, rfl⟩, rfl⟩
        · cases h
      · cases h
/-- a built-in's call -/
def CanB (X : Cx) (nm : String) (r : List V → Hp → VK → Prop) : Prop := ∀ {x : Str} {e : Expr} {es : List Expr} {t : TA} {p pos : Pos}, Str.ofString nm = x → Gl X x → X.mg x = none → PA X (e :: es) t → x ≠ "__name__" → (x == ("__debug__" : Str)) = false → starEach (e :: es) X.env = (false, eval e X.env) :: starEach es X.env → (backTo pos (starEach es X.env)).any (·.1) = false → PE X (.Call (.Name x p) (e :: es) [] pos) (tCB r t)
theorem canB {nm : String} {id : String} {r : List V → Hp → VK → Prop} (hv : bootBuiltins (Str.ofString nm) = some (.builtin id)) (hc : CallR X (.builtin id) r) : CanB X nm r := fun hx hg hm ha hn hdb he hpl => by
  subst hx
  exact pe_callB hc hg hm hv ha hn hdb he hpl
theorem canT {nm : String} {T : String} {r : List V → Hp → VK → Prop} (hv : bootBuiltins (Str.ofString nm) = some (.type T)) (hc : CallR X (.type T) r) : CanB X nm r := fun hx hg hm ha hn hdb he hpl => by
  subst hx
  exact pe_callTy hc hg hm hv ha hn hdb he hpl
theorem blt_rule (C : CxOk c k ck X) (bb : Blt) (xs : List XV) : ∃ (r : List V → Hp → VK → Prop), CanB X bb.nm r ∧ ∀ (O : Addr → Prop) (w : Wd) (σ : L2.St) (vs : List V) (z : XV), WOk w → (∀ p, w.H p = none → ¬ O p) → XsRep X.K O w xs vs → blt bb xs = some z →
    PostR X.K Wx (fun w' x v => XRep X.K O w' x v) σ w (.ok z) (r vs w.H) := by
  cases bb with
  | len =>
    simp only [Blt.nm]
    refine ⟨_, canB boot_len (call_len), fun O w σ vs z k nO rx hz => ?_⟩
    replace hz : lenB xs = some z := hz
    unfold lenB at hz
    split at hz
    · rename_i x
      cases hl : lenX x with
      | none => rw [hl] at hz; cases hz
      | some n =>
        rw [hl] at hz; cases hz
        obtain ⟨v, rfl, r⟩ := xs1 rx
        obtain ⟨m, h1, rfl⟩ := len_rep k r hl
        exact PostR.val (u := .int m) k rfl fun Q qq => ⟨v, m, rfl, h1, qq⟩
    · cases hz
  | max2 =>
    simp only [Blt.nm]
    refine ⟨_, canB boot_max (call_max2 C.calm), fun O w σ vs z k nO rx hz => ?_⟩
    replace hz : max2B xs = some z := hz
    unfold max2B at hz
    split at hz
    · cases hz
      obtain ⟨v, r, rfl, r1, r2⟩ := rx.cons
      obtain ⟨u, rfl, r3⟩ := xs1 r2
      exact PostR.val (u := .int _) k rfl fun Q qq => ⟨_, _, by rw [show v = _ from r1.cl_of, show u = _ from r3.cl_of], qq⟩
    · cases hz
  | min2 =>
    simp only [Blt.nm]
    refine ⟨_, canB boot_min (call_min2 C.calm), fun O w σ vs z k nO rx hz => ?_⟩
    replace hz : min2B xs = some z := hz
    unfold min2B at hz
    split at hz
    · cases hz
      obtain ⟨v, r, rfl, r1, r2⟩ := rx.cons
      obtain ⟨u, rfl, r3⟩ := xs1 r2
      exact PostR.val (u := .int _) k rfl fun Q qq => ⟨_, _, by rw [show v = _ from r1.cl_of, show u = _ from r3.cl_of], qq⟩
    · cases hz
  | abs =>
    simp only [Blt.nm]
    refine ⟨_, canB boot_abs (call_abs), fun O w σ vs z k nO rx hz => ?_⟩
    replace hz : absB xs = some z := hz
    unfold absB at hz
    split at hz
    · cases hz
      obtain ⟨v, rfl, r1⟩ := xs1 rx
      exact PostR.val (u := .int _) k rfl fun Q qq => ⟨_, by rw [show v = _ from r1.cl_of], qq⟩
    · cases hz
  | divmod =>
    simp only [Blt.nm]
    refine ⟨_, canB (by rfl) call_divmodW, fun O w σ vs z k nO rx hz => ?_⟩
    replace hz : divmodB xs = some z := hz
    unfold divmodB at hz
    split at hz
    · rename_i i j
      split at hz
      · rename_i hj
        cases hz
        obtain ⟨v, r, rfl, r1, r2⟩ := rx.cons
        obtain ⟨u, rfl, r3⟩ := xs1 r2
        have e1 : v = .int i := r1.cl_of
        have e2 : u = .int j := r3.cl_of
        refine fun Q qq => ⟨i, j, by rw [e1, e2], ⟨hj.1, PyProof.noPylong_of_log2 hj.2⟩, fun p hp => ?_⟩
        exact qq (w.add p (.tup [.int (i / j), .int (i % j)])) (.ref p) (Wd.add_ok k) (Wd.add_le k hp) (XRep.cl ⟨p, _, rfl, .inl (.inl upd_same), ⟨_, _, rfl, rfl, ⟨_, _, rfl, rfl, rfl⟩⟩⟩)
      · cases hz
    · cases hz
  | int1 =>
    simp only [Blt.nm]
    refine ⟨_, canT boot_int call_int1, fun O w σ vs z k nO rx hz => ?_⟩
    replace hz : int1B xs = some z := hz
    unfold int1B at hz
    split at hz
    · cases hz
      obtain ⟨v, rfl, r1⟩ := xs1 rx
      exact PostR.val (u := .int _) k rfl fun Q qq => .inl ⟨_, by rw [show v = _ from r1.cl_of], qq⟩
    · cases hz
      obtain ⟨v, rfl, r1⟩ := xs1 rx
      exact PostR.val (u := .int _) k rfl fun Q qq => .inr ⟨_, by rw [show v = _ from r1.cl_of], qq⟩
    · cases hz
  | max3 =>
    simp only [Blt.nm]
    refine ⟨_, canB boot_max (call_max3Nu C.calm), fun O w σ vs z k nO rx hz => ?_⟩
    replace hz : max3B xs = some z := hz
    unfold max3B at hz
    split at hz
    · cases hz
      rename_i i j m
      obtain ⟨v, r, rfl, r1, r2⟩ := rx.cons
      obtain ⟨u, r', rfl, r3, r4⟩ := r2.cons
      obtain ⟨t, rfl, r5⟩ := xs1 r4
      refine PostR.val (u := .int (maxI (maxI i j) m)) k rfl fun Q qq => ⟨v, u, t, .int (maxI (maxI i j) m), rfl, ?_, qq⟩
      rw [show v = _ from r1.cl_of, show u = _ from r3.cl_of, show t = _ from r5.cl_of]
      have e1 : nuMax2 (.int i) (.int j) = some (.int (maxI i j)) := by
        show some (if decide (i < j) = true then V.int j else V.int i) = _
        unfold maxI; by_cases h : i < j
        · rw [if_pos (by simpa using h), if_pos h]
        · rw [if_neg (by simpa using h), if_neg h]
      have e2 : nuMax2 (.int (maxI i j)) (.int m) = some (.int (maxI (maxI i j) m)) := by
        show some (if decide (maxI i j < m) = true then V.int m else V.int (maxI i j)) = _
        generalize maxI i j = w
        unfold maxI; by_cases h : w < m
        · rw [if_pos (by simpa using h), if_pos h]
        · rw [if_neg (by simpa using h), if_neg h]
      unfold nuMax3
      rw [e1]
      exact e2
    · cases hz
  | list1 =>
    simp only [Blt.nm]
    refine ⟨_, canT boot_list call_list_of, fun O w σ vs z k nO rx hz => ?_⟩
    replace hz : listB xs = some z := hz
    have mk : ∀ {ds : List D} {us : List V} (p : Addr), w.H p = none → RepL X.K w.F ds us → XRep X.K O (w.own p (.lst us)) (.nw (.lst (ds.map .cl))) (.ref p) := fun {ds us} p np r =>
      ⟨[p], ⟨p, us, [], rfl, .inl upd_same, ORepL.of r, rfl⟩, own_new k np (by intro _ _ z; cases z) own_nil (fun a h => absurd h (by simp)), fun a ha => by
        obtain rfl := List.mem_singleton.mp ha
        exact nO _ np⟩
    unfold listB at hz
    split at hz
    · cases hz
      obtain ⟨v, rfl, r1⟩ := xs1 rx
      obtain ⟨a, us, rfl, e2, e3⟩ := r1.cl_of
      exact fun Q qq => ⟨a, us, rfl, .inl (k.fh.sql e2), fun p np => qq (w.own p (.lst us)) (.ref p) (Wd.own_ok k np) (Wd.own_le np) (mk p np e3)⟩
    · cases hz
      obtain ⟨v, rfl, r1⟩ := xs1 rx
      obtain ⟨a, us, rfl, e2, e3⟩ := r1.cl_of
      exact fun Q qq => ⟨a, us, rfl, .inr (k.fh.sqt e2), fun p np => qq (w.own p (.lst us)) (.ref p) (Wd.own_ok k np) (Wd.own_le np) (mk p np e3)⟩
    · cases hz
theorem plain_args {k : Ck} : ∀ {es : Es} {xs : List Expr} {pos : Pos} {env : Env}, chkEs k es xs = true → (backTo pos (starEach xs env)).any (·.1) = false
  | .nil, [], _, _, _ => rfl
  | .nil, _ :: _, _, _, h => by unfold chkEs at h; cases h
  | .cons e es, [], _, _, h => by unfold chkEs at h; cases h
  | .cons e es, x :: xs, _, _, h => by
    unfold chkEs at h
    simp only [Bool.and_eq_true] at h
    rw [star_cons h.2]
    simp only [backTo, List.map_cons, List.any_cons, Bool.false_or]
    exact plain_args h.1.2
theorem ok_blt (C : CxOk c k ck X) {x : Str} {l : Expr} {ls : List Expr} {bb : Blt} {p2 : Pos} (hx : Str.ofString bb.nm = x) (hg : glB ck.sc x = true) (hn : nameOk x = true) (hf : bb.nm ∈ ck.free) (hs : notStar l = true) (hp : ∀ pos, (backTo pos (starEach ls X.env)).any (·.1) = false) (hA : OkA X Wx (l :: ls) fs) :
    OkE X Wx (.Call (.Name x p2) (l :: ls) [] pos) (fun sl => (fs sl).bind fun xs => R.of (blt bb xs)) := by
  intro sl σ A w t
  subst hx
  have gl : Gl X (Str.ofString bb.nm) := glB_ok (by rw [C.sc]; exact hg)
  have hm := C.free _ hf
  have dbg := nameOk_d hn
  cases hfs : fs sl with
  | stuck => simp only [hfs]; trivial
  | exc ex =>
    obtain ⟨r, h2, _⟩ := blt_rule (Wx := Wx) C bb []
    have q := hA sl σ A w t
    rw [hfs] at q
    simp only [hfs]
    exact fun Q qq => ⟨_, h2 rfl gl hm pa_we dbg.2.2 dbg.1 (star_cons hs _ _) (hp _), q _ qq⟩
  | ok xs =>
    obtain ⟨r, h2, h3⟩ := blt_rule (Wx := Wx) C bb xs
    have q := hA sl σ A w t
    rw [hfs] at q
    simp only [hfs, R.bind_ok]
    refine PostR.of_none fun z hz Q qq => ⟨_, h2 rfl gl hm pa_we dbg.2.2 dbg.1 (star_cons hs _ _) (hp _), q _ fun w1 vs k1 l1 r1 => ?_⟩
    exact h3 _ w1 σ vs z k1 (fun p np o => o (l1.h.free np)) r1 hz Q fun w' v k' l' r' => qq w' v k' (l1.trans l') r'
/-! ### a def's call -/
theorem args_rep {K : PySem.W.Frag} {w : Wd} (k : WOk w) : ∀ {xs : List XV} {vs : List V} {B : List Addr} {ss : List SV}, XsR1 K w xs vs B → argsOf xs = some ss → ArgsR K w.F w.H ss vs
  | [], vs, _, _, ⟨h, _⟩, e => by cases e; exact h
  | x :: xs, _, _, _, ⟨v, r, B1, B2, e1, e2, e3, e4⟩, e => by
    cases q : argsOf xs with
    | none => simp only [argsOf, q] at e; cases hx : x.arg <;> rw [hx] at e <;> cases e
    | some ss =>
      cases hx : x.arg with
      | none => simp only [argsOf, hx] at e; cases e
      | some s =>
        simp only [argsOf, hx, q] at e
        cases e
        refine ⟨v, r, e1, ?_, args_rep k e3 q⟩
        cases x with
        | cl d => cases hx; exact e2.1
        | lk m => cases hx; obtain ⟨A, o⟩ := e2.1; exact ⟨A, o.mono (Ex.refl _) fun a _ o z => k.gh a o z⟩
        | tm m => cases hx; exact e2.1
        | nw m => cases hx
/-- the place behind a call -/
def Wd.called (w : Wd) (F' H' : Hp) : Wd := ⟨F', fun a => match w.G a with | some o => some o | none => F' a, H'⟩
theorem Wd.called_ok {w : Wd} (k : WOk w) {F' H' : Hp} (e1 : Ex F' H') (e2 : Ex w.H H') : WOk (w.called F' H') := by
  refine ⟨fun a o h => ?_, fun a o h => ?_⟩
  · show (match w.G a with | some o => some o | none => F' a) = some o
    cases q : w.G a with
    | none => exact h
    | some o' =>
      have z1 := e2 a o' (k.gh a o' q)
      have z2 := e1 a o h
      rw [z1] at z2; exact z2
  · have h' : (match w.G a with | some o => some o | none => F' a) = some o := h
    cases q : w.G a with
    | none => rw [q] at h'; exact e1 a o h'
    | some o' => rw [q] at h'; cases h'; exact e2 a _ (k.gh a _ q)
theorem Wd.called_le {w : Wd} (k : WOk w) {F' H' : Hp} (e0 : Ex w.F F') (e2 : Ex w.H H') (n : NewF w.H w.F F') : WLe w (w.called F' H') := by
  refine ⟨e0, fun a o h => ?_, e2, n, fun a h q => ?_⟩
  · show (match w.G a with | some o => some o | none => F' a) = some o
    rw [h]
  · show (match w.G a with | some o => some o | none => F' a) = none
    rw [q]
    exact n a h (k.fg.free q)
theorem ok_call (C : CxOk c k ck X) (tk : Takes X Wx) {x : Str} {l : Expr} {ls : List Expr} {ff : String} {p2 : Pos} (hx : Str.ofString ff = x) (hg : glB ck.sc x = true) (hn : nameOk x = true) (hf : ff ∈ ck.fns) (hs : notStar l = true) (hp : ∀ pos, (backTo pos (starEach ls X.env)).any (·.1) = false) (hA : OkA X Wx (l :: ls) fs) :
    OkE X Wx (.Call (.Name x p2) (l :: ls) [] pos) (fun sl => (fs sl).bind fun xs => match argsOf xs with | some ss => c ff ss | none => .stuck) := by
  intro sl σ A w t
  subst hx
  have gl : Gl X (Str.ofString ff) := glB_ok (by rw [C.sc]; exact hg)
  obtain ⟨fa, fd, ps, hm, hk, hb, F⟩ := C.fn _ hf
  have dbg := nameOk_d hn
  have P := pe_callS (pos := pos) (p := p2) F C.room gl hm hk hb (fun σ => passAt tk σ) (pa_we (X := X) (es := l :: ls)) dbg.1 (star_cons hs _ _) (hp _)
  cases hfs : fs sl with
  | stuck => simp only [hfs]; trivial
  | exc ex =>
    have q := hA sl σ A w t
    rw [hfs] at q
    simp only [hfs]
    exact fun Q qq => ⟨_, P, q _ qq⟩
  | ok xs =>
    have q := hA sl σ A w t
    rw [hfs] at q
    simp only [hfs, R.bind_ok]
    cases ha : argsOf xs with
    | none => trivial
    | some ss =>
      show PostR _ _ _ _ _ (c ff ss) _
      cases hc : c ff ss with
      | stuck => trivial
      | exc ex =>
        refine fun Q qq => ⟨_, P, q _ fun w1 vs k1 l1 ⟨B, p1, p2, p3⟩ => ⟨ss, w1.F, k1.fh, args_rep k1 p1 ha, ?_⟩⟩
        rw [hc]
        exact fun F' H' cls d e1 e2 e3 e4 e5 => qq (w1.called F' H') cls d (Wd.called_ok k1 e2 e3) (l1.trans (Wd.called_le k1 e1 e3 e4)) e5
      | ok z =>
        refine fun Q qq => ⟨_, P, q _ fun w1 vs k1 l1 ⟨B, p1, p2, p3⟩ => ⟨ss, w1.F, k1.fh, args_rep k1 p1 ha, ?_⟩⟩
        rw [hc]
        intro F' H' v e1 e2 e3 e4 e5
        refine qq (w1.called F' H') v (Wd.called_ok k1 e2 e3) (l1.trans (Wd.called_le k1 e1 e3 e4)) ?_
        cases z with
        | cl d => exact XRep.cl e5
        | nw m =>
          obtain ⟨B', o1, o2, o3⟩ := e5
          refine ⟨B', o1, ⟨o2, fun a ha' => ⟨?_, (o3 a ha').2.2⟩⟩, fun a ha' o => o (l1.h.free (o3 a ha').1)⟩
          show (match w1.G a with | some o => some o | none => F' a) = none
          rw [k1.gh.free (o3 a ha').1]
          exact (o3 a ha').2.1
        | lk m => exact e5.elim
        | tm m => exact e5.elim
/-! ### an own new object stands for ever from now on -/
theorem ok_fz (ha : OkE X Wx a f) : OkE X Wx a (fun sl => (f sl).bind fzF) := by
  intro sl σ A w t
  have q := ha sl σ A w t
  cases hf : f sl with
  | stuck => simp only [hf]; trivial
  | exc ex => rw [hf] at q; simp only [hf]; exact q
  | ok x =>
    rw [hf] at q
    simp only [hf, R.bind_ok]
    cases x with
    | cl d => exact q
    | lk m => trivial
    | tm m => trivial
    | nw m =>
      refine fun Q qq => q Q fun w1 v k1 l1 ⟨B, p1, p2, p3⟩ => ?_
      have no : ∀ a ∈ B, w1.G a = none := fun a ha => (p2.no a ha).1
      have nw : ∀ a ∈ B, w.H a = none := fun a ha => Classical.not_not.mp (p3 a ha)
      refine qq (w1.frz B) v (Wd.frz_ok k1 B) (Wd.frz_le l1 k1 no nw) (XRep.cl ?_)
      exact ORep.rep (Wd.frz_f k1 no) (show ORep X.K w1.F w1.H m v B from p1) fun a ha o z => Wd.frz_at ha z
end
end Mo
namespace Mo
open PySem PySem.Spec PyProof.Rows L2
/-! ### ranges of any numbers -/
theorem turn_rangeL {P : Program} {w : World} {K : PySem.W.Frag} {tg : Expr} (it : Addr) (lo c : Int) (n : Nat) : Turn P w K tg (Itc lo c n) [it] it (fun i h => IsLongIter h it (lo + (i : Nat) * c) ((n : Int) - (i : Nat)) c) where
  mem := by simp
  obj := fun i h st b hb => by
    obtain rfl : b = it := by simpa using hb
    exact ⟨_, st, fun v z => nomatch z⟩
  keep := fun i h h' st k => k it (by simp) _ st
  item := by
    intro X hP hw hK hc i pins s σ H E I hf st hg
    subst hP hw hK
    obtain ⟨f0, f1, f2, f3, f4, f5⟩ := hf it (by simp)
    refine (Walks.longrange (prog := X.prog) (w := X.w) (I.ok.hd hc) it lo c n).item i s _ _ hg st fun v h' tk hv st' kk => ?_
    obtain ⟨t, rfl⟩ := hv
    have I1 : Inv X pins σ H { s with heap := h', toks := tk } := I.turned (fun b o hb e => kk b o (by simpa using hb) e) f0 f1 f3 f4 f5
    exact ⟨_, rfl, go_of (s := { s with heap := h', toks := tk }) (n := "longrange_iterator") st' rfl rfl (by decide) ⟨.int (lo + (i : Nat) * c), H, I1, ⟨t, rfl⟩, ⟨rfl, rfl⟩, st', fun b hb => (hf b hb).1⟩⟩
  done := by
    intro X hP hw hK hc i pins s σ H E I hf st hg
    subst hP hw hK
    obtain ⟨f0, f1, f2, f3, f4, f5⟩ := hf it (by simp)
    exact wpAny_pyNext_long_end (I.ok.hd hc) st (by have : n ≤ i := hg; omega) fun h' eb => ⟨rfl, I.turned (t' := s.toks) (fun b o hb e => eb b o hb e) f0 f1 f3 f4 f5⟩
  self := fun A i s Q E st h => wpAny_pyIter_longiter st h
section
variable {X : Cx} {tg : Expr}
theorem any_range_it {pins : List (Addr × Obj)} {σ : L2.St} {H : Hp} {s : Shared} {A : Around} {E : Value → Shared → Prop} {R : L2.It → Hp → Prop} {i j c : Int} {t u v : Tok} {n k : Nat} (I : Inv X pins σ H s) (hn : Builtin.Range.rangeSize i j c = n) (q : R (Itc i c n) H) :
    wpAny (model X.prog X.w) A (pyIter (.ref s.heap.objs.size)) (PIE X pins σ tg R) E { s with heap := s.heap.push { cls := .type "range", data := .fields #[.int i t, .int j u, .int c v] }, toks := k } := by
  have I2 : Inv X pins σ H { s with heap := s.heap.push { cls := .type "range", data := .fields #[.int i t, .int j u, .int c v] }, toks := k } := I.kept (t' := k) fun b o e => Heap.get?_push_of_some _ e
  have e1 : i + ((0 : Nat) : Int) * c = i := by simp
  have e2 : (n : Int) - ((0 : Nat) : Int) = Builtin.Range.rangeSize i j c := by rw [hn]; simp
  by_cases hs : Builtin.Range.small i j c = true
  · refine wpAny_pyIter_range (IsRange.new ..) hs ?_
    refine pi_one (tk := k) I2 _ (turn_rangeC _ i c n) ?_ q
    show IsRangeIter _ _ (i + ((0 : Nat) : Int) * c) ((n : Int) - ((0 : Nat) : Int)) c
    rw [e1, e2]
    exact Heap.get?_push_size _ rfl
  · refine wpAny_pyIter_longrange (IsRange.new ..) (by simpa using hs) ?_
    refine pi_one (tk := k) I2 _ (turn_rangeL _ i c n) ?_ q
    show IsLongIter _ _ (i + ((0 : Nat) : Int) * c) ((n : Int) - ((0 : Nat) : Int)) c
    rw [e1, e2]
    exact Heap.get?_push_size _ rfl
theorem size1 (i j : Int) : Builtin.Range.rangeSize i j 1 = ((j - i).toNat : Nat) := by
  unfold Builtin.Range.rangeSize
  rw [if_pos (by decide)]
  split
  · rw [Int.ediv_one]; omega
  · omega
theorem sizeC {i j c : Int} (hc : 0 < c) : Builtin.Range.rangeSize i j c = (cntR i j c : Nat) := by
  unfold Builtin.Range.rangeSize cntR
  rw [if_pos hc]
  split
  · have := Int.ediv_nonneg (show 0 ≤ j - i - 1 by omega) (show 0 ≤ c by omega)
    omega
  · rfl
def iL1 (ta : TA) : TI := fun σ H R => ta σ H fun vs H1 => ∃ j : Int, vs = [.int j] ∧ R (Itc 0 1 (j - 0).toNat) H1
def iL2 (ta : TA) : TI := fun σ H R => ta σ H fun vs H1 => ∃ i j : Int, vs = [.int i, .int j] ∧ R (Itc i 1 (j - i).toNat) H1
def iL3 (ta : TA) : TI := fun σ H R => ta σ H fun vs H1 => ∃ i j c : Int, vs = [.int i, .int j, .int c] ∧ 0 < c ∧ Builtin.divisionGoesByPylong (j - i) c = false ∧ R (Itc i c (cntR i j c)) H1
theorem pi_any1 {a : Expr} {ta : TA} {p pos : Pos} (hg : Gl X "range") (hm : X.mg "range" = none) (ha : PA X [a] ta) (hs : starEach [a] X.env = [(false, eval a X.env)]) : PI X tg (.Call (.Name "range" p) [a] [] pos) (iL1 ta) := by
  refine ⟨fun pins s σ H R I h => ?_⟩
  refine Call_ (ld_blt I hg hm boot_range (PyProof.Rows.callWith_type1 (thn (ha.run pos pins s σ H _ I h) fun us s1 ⟨vs, H1, I1, r1, q1⟩ => ?_) hs rfl))
  obtain ⟨j, e, q⟩ := q1
  subst e
  cases r1 with
  | cons r rr =>
    cases rr
    obtain ⟨t, rfl⟩ := r
    exact call_range_1 (any_range_it I1 (size1 0 j) q)
theorem pi_any2 {a b : Expr} {ta : TA} {p pos : Pos} (hg : Gl X "range") (hm : X.mg "range" = none) (ha : PA X [a, b] ta) (hs : starEach [a, b] X.env = [(false, eval a X.env), (false, eval b X.env)]) (hs2 : starEach [b] X.env = [(false, eval b X.env)]) :
    PI X tg (.Call (.Name "range" p) [a, b] [] pos) (iL2 ta) := by
  refine ⟨fun pins s σ H R I h => ?_⟩
  refine Call_ (ld_blt I hg hm boot_range (PyProof.Rows.callWith_type1 (thn (ha.run pos pins s σ H _ I h) fun us s1 ⟨vs, H1, I1, r1, q1⟩ => ?_) (by rw [hs, hs2]) (by rw [hs2]; rfl)))
  obtain ⟨i, j, e, q⟩ := q1
  subst e
  cases r1 with
  | cons r rr =>
    cases rr with
    | cons r' rr =>
      cases rr
      obtain ⟨t, rfl⟩ := r
      obtain ⟨t', rfl⟩ := r'
      exact call_range_2 (any_range_it I1 (size1 i j) q)
theorem pi_any3 {a b c : Expr} {ta : TA} {p pos : Pos} (hg : Gl X "range") (hm : X.mg "range" = none) (ha : PA X [a, b, c] ta) (hs : starEach [a, b, c] X.env = (false, eval a X.env) :: starEach [b, c] X.env) (hpl : (backTo pos (starEach [b, c] X.env)).any (·.1) = false) :
    PI X tg (.Call (.Name "range" p) [a, b, c] [] pos) (iL3 ta) := by
  refine ⟨fun pins s σ H R I h => ?_⟩
  refine Call_ (ld_blt I hg hm boot_range (PyProof.Rows.callWith_type1 (thn (ha.run pos pins s σ H _ I h) fun us s1 ⟨vs, H1, I1, r1, q1⟩ => ?_) hs hpl))
  obtain ⟨i, j, k, e, c0, c1, q⟩ := q1
  subst e
  cases r1 with
  | cons r rr =>
    cases rr with
    | cons r' rr =>
      cases rr with
      | cons r'' rr =>
        cases rr
        obtain ⟨t, rfl⟩ := r
        obtain ⟨t', rfl⟩ := r'
        obtain ⟨t'', rfl⟩ := r''
        exact call_range_3 (by omega) (any_range_it I1 (sizeC c0) q) (.inl c1)
end
end Mo
namespace Mo
open PySem PySem.Spec PyProof.Rows L2
/-! ### targets -/
def weG (X : Cx) (tg : Expr) : TG := fun v σ H Q => ∃ t, PG X tg t ∧ t v σ H Q
theorem pg_we {X : Cx} {tg : Expr} : PG X tg (weG X tg) := ⟨fun pins s σ H v u Q I r ⟨t, h, q⟩ => h.run pins s σ H v u Q I r q⟩
def weGs (X : Cx) (ts : List Expr) : TGs := fun v σ H Q => ∃ t, PGs X ts t ∧ t v σ H Q
theorem pgs_we {X : Cx} {ts : List Expr} : PGs X ts (weGs X ts) := ⟨fun pins s σ H v u Q I r ⟨t, h, q⟩ => h.run pins s σ H v u Q I r q⟩
structure Off (l : List Nat) (σ σ' : L2.St) : Prop where
  len : σ'.length = σ.length
  eq : ∀ i, i ∉ l → σ'[i]? = σ[i]?
theorem Off.trans {l l' m : List Nat} {σ σ1 σ2 : L2.St} (a : Off l σ σ1) (b : Off l' σ1 σ2) (h : ∀ i, i ∈ l ∨ i ∈ l' → i ∈ m) : Off m σ σ2 :=
  ⟨b.len.trans a.len, fun i hi => (b.eq i fun z => hi (h i (.inr z))).trans (a.eq i fun z => hi (h i (.inl z)))⟩
theorem At.set {K : PySem.W.Frag} {sl : Sl} {σ : L2.St} {A : List Addr} {w : Wd} (t : At K sl σ A w) {s : SV} {o : Option V} {C : List Addr} (h : SvR K w s o C) (hc : Own w C) (hn : ∀ a ∈ C, a ∉ A) (i : Nat) :
    ∃ A', At K (sl.set i s) (σ.set i o) A' w ∧ ∀ a ∈ A', a ∈ A ∨ a ∈ C := by
  obtain ⟨A', h1, h2, h3⟩ := SlR.set h i t.sl t.ow.nd hc.nd hn
  exact ⟨A', ⟨t.ok, h1, h2, fun a ha => (h3 a ha).elim (t.ow.no a) (hc.no a)⟩, h3⟩
theorem At.setCl {K : PySem.W.Frag} {sl : Sl} {σ : L2.St} {A : List Addr} {w : Wd} (t : At K sl σ A w) {d : D} {v : V} (h : Rep K w.F d v) (i : Nat) : ∃ A', At K (sl.set i (.cl d)) (σ.set i (some v)) A' w ∧ ∀ a ∈ A', a ∈ A := by
  obtain ⟨A', h1, h2⟩ := t.set (s := .cl d) (C := []) ⟨v, rfl, h, rfl⟩ own_nil (fun a h => absurd h (by simp)) i
  exact ⟨A', h1, fun a ha => (h2 a ha).elim id fun z => absurd z (by simp)⟩
/-- what targets ask of the context -/
structure TgOk (N : List Str) (tl : Str → Bool) (X : Cx) : Prop where
  N : X.N = N
  nd : X.N.Nodup
  calm : X.calm = true
  tl : ∀ x, tl x = true → L2.Loc X.env.scope x ∧ (X.fn x = true ∨ X.env.scope.names.lookup x = some .local)
section
variable {X : Cx} {N : List Str} {tl : Str → Bool}
theorem chkT_star {t : Tg} {x : Expr} (h : chkT N tl t x = true) : notStar x = true := by
  cases t <;> unfold chkT at h <;> split at h <;> first | rfl | cases h
theorem assign_cons {x : Expr} (h : notStar x = true) (xs : List Expr) (env : Env) : assignEach (x :: xs) env = (false, assign x env) :: assignEach xs env := by
  cases x <;> first | rfl | (cases h; done)
theorem assign_len : ∀ {ts : List Tg} {xs : List Expr} {env : Env}, chkTs N tl ts xs = true → (assignEach xs env).length = xs.length ∧ (assignEach xs env).findIdx? (·.1) = none ∧ ts.length = xs.length
  | [], xs, _, h => by
    unfold chkTs at h
    cases xs with
    | nil => exact ⟨rfl, rfl, rfl⟩
    | cons _ _ => cases h
  | t :: ts, xs, env, h => by
    unfold chkTs at h
    cases xs with
    | nil => cases h
    | cons x xs =>
      simp only [Bool.and_eq_true] at h
      obtain ⟨h1, h2, h3⟩ := assign_len (env := env) h.2
      rw [assign_cons (chkT_star h.1)]
      exact ⟨by simp [h1], by rw [List.findIdx?_cons]; simp [h2], by simp [h3]⟩
theorem tgoL_len : ∀ {ts : List Tg} {ds : List D} {sl sl' : Sl}, tgoL ts ds sl = some sl' → ds.length = ts.length
  | [], [], _, _, _ => rfl
  | [], _ :: _, _, _, e => by unfold tgoL at e; cases e
  | _ :: _, [], _, _, e => by unfold tgoL at e; cases e
  | t :: ts, d :: ds, sl, sl', e => by
    unfold tgoL at e
    cases h : tgo t d sl with
    | none => rw [h] at e; cases e
    | some s1 => rw [h] at e; simp [tgoL_len e]
mutual
theorem ok_tg (C : TgOk N tl X) : ∀ {t : Tg} {x : Expr}, chkT N tl t x = true → ∀ {sl sl' : Sl} {σ : L2.St} {A : List Addr} {w : Wd} {d : D} {v : V}, At X.K sl σ A w → Rep X.K w.F d v → tgo t d sl = some sl' →
    ∀ Q : L2.St → Hp → Prop, (∀ σ' A', At X.K sl' σ' A' w → (∀ a ∈ A', a ∈ A) → Off t.slots σ σ' → Q σ' w.H) → weG X x v σ w.H Q
  | .n i, x, h, sl, sl', σ, A, w, d, v, t, r, e, Q, q => by
    unfold chkT at h
    split at h
    · simp only [Bool.and_eq_true, decide_eq_true_eq] at h
      unfold tgo at e
      cases e
      obtain ⟨A', t2, s2⟩ := t.setCl r i
      obtain ⟨l1, l2⟩ := C.tl _ h.2
      refine ⟨_, pg_name C.nd (by rw [C.N]; exact h.1) l1 l2, q _ A' t2 s2 ⟨by simp, fun j hj => ?_⟩⟩
      have : j ≠ i := by simpa [Tg.slots] using hj
      rw [List.getElem?_set_ne (Ne.symm this)]
    · cases h
  | .t ts, x, h, sl, sl', σ, A, w, d, v, t, r, e, Q, q => by
    unfold chkT at h
    split at h
    · rename_i xs n p
      obtain ⟨h1, h2, h3⟩ := assign_len (env := X.env) h
      cases d with
      | tup ds =>
        unfold tgo at e
        obtain ⟨a, vs, rfl, e2, e3⟩ := r
        have hl : ds.length = ts.length := tgoL_len e
        exact ⟨_, pg_tup C.calm pgs_we h1 h2, a, vs, rfl, t.ok.fh.sqt e2, by rw [← e3.length, hl, h3], ok_tgs C h t e3 e Q q⟩
      | _ => unfold tgo at e; cases e
    · cases h
theorem ok_tgs (C : TgOk N tl X) : ∀ {ts : List Tg} {xs : List Expr}, chkTs N tl ts xs = true → ∀ {sl sl' : Sl} {σ : L2.St} {A : List Addr} {w : Wd} {ds : List D} {vs : List V}, At X.K sl σ A w → RepL X.K w.F ds vs → tgoL ts ds sl = some sl' →
    ∀ Q : L2.St → Hp → Prop, (∀ σ' A', At X.K sl' σ' A' w → (∀ a ∈ A', a ∈ A) → Off (Tg.slotsL ts) σ σ' → Q σ' w.H) → weGs X xs vs σ w.H Q
  | [], xs, h, sl, sl', σ, A, w, ds, vs, t, r, e, Q, q => by
    unfold chkTs at h
    cases xs with
    | cons _ _ => cases h
    | nil =>
      cases ds with
      | cons _ _ => unfold tgoL at e; cases e
      | nil =>
        unfold tgoL at e
        cases e
        exact ⟨_, pgs_nil, r, q σ A t (fun _ h => h) ⟨rfl, fun _ _ => rfl⟩⟩
  | tg :: ts, xs, h, sl, sl', σ, A, w, ds, vs, t, r, e, Q, q => by
    unfold chkTs at h
    cases xs with
    | nil => cases h
    | cons x xs =>
      simp only [Bool.and_eq_true] at h
      cases ds with
      | nil => unfold tgoL at e; cases e
      | cons d ds =>
        unfold tgoL at e
        obtain ⟨v, vr, rfl, r1, r2⟩ := r
        cases h1 : tgo tg d sl with
        | none => rw [h1] at e; cases e
        | some s1 =>
          rw [h1] at e
          refine ⟨_, pgs_cons pg_we pgs_we (by rw [assign_cons (chkT_star h.1)]; rfl), v, vr, rfl, ok_tg C h.1 t r1 h1 _ fun σ1 A1 t1 s1' o1 => ?_⟩
          exact ok_tgs C h.2 t1 r2 e Q fun σ2 A2 t2 s2 o2 => q σ2 A2 t2 (fun a ha => s1' a (s2 a ha)) (o1.trans o2 fun i hi => by
            show i ∈ tg.slots ++ Tg.slotsL ts
            exact List.mem_append.mpr hi)
end
end
/-! ### what is walked -/
/-- J walks the items ds from w1 on -/
structure Goes (K : PySem.W.Frag) (J : L2.It) (w1 : Wd) (ds : List D) : Prop where
  go : ∀ w2, WOk w2 → Ex w1.F w2.F → ∀ i, i < ds.length → J.go i w2.H
  yld : ∀ w2, WOk w2 → Ex w1.F w2.F → ∀ i x H', J.yld i w2.H x H' → i < ds.length → ∃ w3 d, H' = w3.H ∧ WOk w3 ∧ WLe w2 w3 ∧ ds[i]? = some d ∧ Rep K w3.F d x
  stop : ∀ w2, WOk w2 → Ex w1.F w2.F → J.stop ds.length w2.H
theorem goes_list {K : PySem.W.Frag} {w1 : Wd} {a : Addr} {vs : List V} {ds : List D} (h : SqL K w1.F a vs) (r : RepL K w1.F ds vs) : Goes K (Itl K a) w1 ds where
  go := fun w2 k e i hi => ⟨vs, vs[i]'(by rw [← r.length]; exact hi), (e.trans k.fh).sql h, by simp⟩
  yld := fun w2 k e i x H' ⟨e1, e2⟩ hi => by
    have q := e2 vs ((e.trans k.fh).sql h)
    obtain ⟨d, h1, h2⟩ := r.getV q
    exact ⟨w2, d, e1, k, WLe.refl _, h1, h2.mono e⟩
  stop := fun w2 k e => ⟨vs, (e.trans k.fh).sql h, by rw [r.length]; exact Nat.le_refl _⟩
theorem goes_tup {K : PySem.W.Frag} {w1 : Wd} {a : Addr} {vs : List V} {ds : List D} (h : SqT K w1.F a vs) (r : RepL K w1.F ds vs) : Goes K (Itt K a) w1 ds where
  go := fun w2 k e i hi => ⟨vs, vs[i]'(by rw [← r.length]; exact hi), (e.trans k.fh).sqt h, by simp⟩
  yld := fun w2 k e i x H' ⟨e1, e2⟩ hi => by
    have q := e2 vs ((e.trans k.fh).sqt h)
    obtain ⟨d, h1, h2⟩ := r.getV q
    exact ⟨w2, d, e1, k, WLe.refl _, h1, h2.mono e⟩
  stop := fun w2 k e => ⟨vs, (e.trans k.fh).sqt h, by rw [r.length]; exact Nat.le_refl _⟩
theorem rangeD_get {lo : Int} {n i : Nat} (h : i < n) : (rangeD lo n)[i]? = some (.int (lo + i)) := by
  unfold rangeD
  rw [List.getElem?_map, List.getElem?_range h]
  rfl
theorem rangeD_len (lo : Int) (n : Nat) : (rangeD lo n).length = n := by unfold rangeD; rw [List.length_map, List.length_range]
theorem goes_range {K : PySem.W.Frag} {w1 : Wd} {lo : Int} {n : Nat} : Goes K (Itr lo n) w1 (rangeD lo n) where
  go := fun w2 k e i hi => by rw [rangeD_len] at hi; exact hi
  yld := fun w2 k e i x H' ⟨e1, e2⟩ hi => by
    rw [rangeD_len] at hi
    exact ⟨w2, _, e1, k, WLe.refl _, rangeD_get hi, e2⟩
  stop := fun w2 k e => by rw [rangeD_len]; exact Nat.le_refl _
def weI (X : Cx) (tg it : Expr) : TI := fun σ H R => ∃ t, PI X tg it t ∧ t σ H R
theorem pi_we {X : Cx} {tg it : Expr} : PI X tg it (weI X tg it) := ⟨fun pins s σ H R I ⟨t, h, q⟩ => h.run pins s σ H R I q⟩
def OkI (X : Cx) (Wx : WX) (it : Expr) (f : Sl → R (List D)) : Prop := ∀ (tg : Expr) sl σ A w, At X.K sl σ A w → PostR X.K Wx (fun w' ds J => Goes X.K J w' ds) σ w (f sl) (weI X tg it σ w.H)
section
variable {c : Calls} {k : Nat} {ck : Ck} {X : Cx} {Wx : WX} {a b e : Expr} {f g : Sl → R XV} {pos : Pos}
theorem okI_exp (he : OkE X Wx e f) : OkI X Wx e (fun sl => (f sl).bind itF) := by
  intro tg sl σ A w t
  have q := he sl σ A w t
  cases hf : f sl with
  | stuck => simp only [hf]; trivial
  | exc ex => rw [hf] at q; simp only [hf]; exact fun Q qq => ⟨_, pi_list pe_we, q _ qq⟩
  | ok z =>
    rw [hf] at q
    simp only [hf, R.bind_ok]
    unfold itF
    split
    · refine fun Q qq => ⟨_, pi_list pe_we, q _ fun w1 v k1 l1 r1 => ?_⟩
      obtain ⟨a, vs, rfl, e2, e3⟩ := r1.cl_of
      exact ⟨a, rfl, ⟨vs, k1.fh.sql e2⟩, qq w1 _ k1 l1 (goes_list e2 e3)⟩
    · refine fun Q qq => ⟨_, pi_tup pe_we, q _ fun w1 v k1 l1 r1 => ?_⟩
      obtain ⟨a, vs, rfl, e2, e3⟩ := r1.cl_of
      exact ⟨a, rfl, ⟨vs, k1.fh.sqt e2⟩, qq w1 _ k1 l1 (goes_tup e2 e3)⟩
    · trivial
theorem rangeC_get {lo c : Int} {n i : Nat} (h : i < n) : (rangeC lo c n)[i]? = some (.int (lo + i * c)) := by
  unfold rangeC
  rw [List.getElem?_map, List.getElem?_range h]
  rfl
theorem rangeC_len (lo c : Int) (n : Nat) : (rangeC lo c n).length = n := by unfold rangeC; rw [List.length_map, List.length_range]
theorem goes_rangeC {K : PySem.W.Frag} {w1 : Wd} {lo c : Int} {n : Nat} : Goes K (Itc lo c n) w1 (rangeC lo c n) where
  go := fun w2 k e i hi => by rw [rangeC_len] at hi; exact hi
  yld := fun w2 k e i x H' ⟨e1, e2⟩ hi => by
    rw [rangeC_len] at hi
    exact ⟨w2, _, e1, k, WLe.refl _, rangeC_get hi, e2⟩
  stop := fun w2 k e => by rw [rangeC_len]; exact Nat.le_refl _
theorem rangeC_one (lo : Int) (n : Nat) : rangeC lo 1 n = rangeD lo n := by
  unfold rangeC rangeD
  exact List.map_congr_left fun a _ => by rw [Int.mul_one]
theorem okI_rng1 (C : CxOk c k ck X) {p2 p3 : Pos} (hg : glB ck.sc "range" = true) (hf : "range" ∈ ck.free) (hs : notStar a = true) (ha : OkE X Wx a f) : OkI X Wx (.Call (.Name "range" p2) [a] [] p3) (fun sl => (f sl).bind rng1F) := by
  intro tg sl σ A w t
  have P : PI X tg (.Call (.Name "range" p2) [a] [] p3) (iL1 (tCons (weE X a) tNil)) := pi_any1 (glB_ok (by rw [C.sc]; exact hg)) (C.free _ hf) (pa_cons pe_we pa_nil (star_cons hs _ _)) (by rw [star_cons hs]; rfl)
  have q := ha sl σ A w t
  cases hf : f sl with
  | stuck => simp only [hf]; trivial
  | exc ex => rw [hf] at q; simp only [hf]; exact fun Q qq => ⟨_, P, q _ qq⟩
  | ok z =>
    rw [hf] at q
    simp only [hf, R.bind_ok]
    unfold rng1F
    split
    · rename_i j
      refine fun Q qq => ⟨_, P, q _ fun w1 v k1 l1 r1 => ?_⟩
      have ev : v = .int j := r1.cl_of
      subst ev
      refine ⟨j, rfl, qq w1 _ k1 l1 ?_⟩
      rw [Int.sub_zero, ← rangeC_one]
      exact goes_rangeC
    · trivial
theorem okI_rng2 (C : CxOk c k ck X) {p2 p3 : Pos} (hg : glB ck.sc "range" = true) (hfr : "range" ∈ ck.free) (hs : notStar a = true) (hs2 : notStar b = true) (ha : OkE X Wx a f) (hb : OkE X Wx b g) :
    OkI X Wx (.Call (.Name "range" p2) [a, b] [] p3) (fun sl => (f sl).bind fun x => (g sl).bind fun y => rng2F x y) := by
  intro tg sl σ A w t
  have P : PI X tg (.Call (.Name "range" p2) [a, b] [] p3) (iL2 (tCons (weE X a) (tCons (weE X b) tNil))) := pi_any2 (glB_ok (by rw [C.sc]; exact hg)) (C.free _ hfr) (pa_cons pe_we (pa_cons pe_we pa_nil (star_cons hs2 _ _)) (star_cons hs _ _)) (by rw [star_cons hs, star_cons hs2]; rfl) (by rw [star_cons hs2]; rfl)
  have q := ha sl σ A w t
  cases hf : f sl with
  | stuck => simp only [hf]; trivial
  | exc ex => rw [hf] at q; simp only [hf]; exact fun Q qq => ⟨_, P, q _ qq⟩
  | ok z =>
    rw [hf] at q
    simp only [hf, R.bind_ok]
    cases hg' : g sl with
    | stuck => trivial
    | exc ex =>
      refine fun Q qq => ⟨_, P, q _ fun w1 v k1 l1 r1 => ?_⟩
      have q2 := hb sl σ A w1 (t.mono l1 k1)
      rw [hg'] at q2
      exact q2 _ fun w' cls d k' l' => qq w' cls d k' (l1.trans l')
    | ok z2 =>
      show PostR _ _ _ _ _ (rng2F z z2) _
      unfold rng2F
      split
      · rename_i i j
        refine fun Q qq => ⟨_, P, q _ fun w1 v k1 l1 r1 => ?_⟩
        have q2 := hb.at1 (t.mono l1 k1) l1
        rw [hg'] at q2
        refine q2 _ fun w2 u k2 l2 r2 => ?_
        have ev : v = .int i := r1.cl_of
        have eu : u = .int j := r2.cl_of
        subst ev eu
        refine ⟨i, j, rfl, qq w2 _ k2 (l1.trans l2) ?_⟩
        rw [← rangeC_one]
        exact goes_rangeC
      · trivial
theorem okI_rng3 (C : CxOk c k ck X) {p2 p3 : Pos} {h : Sl → R XV} (hg : glB ck.sc "range" = true) (hfr : "range" ∈ ck.free) (hs : notStar a = true) (hs2 : notStar b = true) (hs3 : notStar e = true) (ha : OkE X Wx a f) (hb : OkE X Wx b g) (he : OkE X Wx e h) :
    OkI X Wx (.Call (.Name "range" p2) [a, b, e] [] p3) (fun sl => (f sl).bind fun x => (g sl).bind fun y => (h sl).bind fun z => rng3F x y z) := by
  intro tg sl σ A w t
  have P : PI X tg (.Call (.Name "range" p2) [a, b, e] [] p3) (iL3 (tCons (weE X a) (tCons (weE X b) (tCons (weE X e) tNil)))) := pi_any3 (glB_ok (by rw [C.sc]; exact hg)) (C.free _ hfr) (pa_cons pe_we (pa_cons pe_we (pa_cons pe_we pa_nil (star_cons hs3 _ _)) (star_cons hs2 _ _)) (star_cons hs _ _)) (by rw [star_cons hs]) (by rw [star_cons hs2, star_cons hs3]; rfl)
  have q := ha sl σ A w t
  cases hf : f sl with
  | stuck => simp only [hf]; trivial
  | exc ex => rw [hf] at q; simp only [hf]; exact fun Q qq => ⟨_, P, q _ qq⟩
  | ok z =>
    rw [hf] at q
    simp only [hf, R.bind_ok]
    cases hg' : g sl with
    | stuck => trivial
    | exc ex =>
      refine fun Q qq => ⟨_, P, q _ fun w1 v k1 l1 r1 => ?_⟩
      have q2 := hb sl σ A w1 (t.mono l1 k1)
      rw [hg'] at q2
      exact q2 _ fun w' cls d k' l' => qq w' cls d k' (l1.trans l')
    | ok z2 =>
      simp only [R.bind_ok]
      cases hh' : h sl with
      | stuck => trivial
      | exc ex =>
        refine fun Q qq => ⟨_, P, q _ fun w1 v k1 l1 r1 => ?_⟩
        have q2 := hb.at1 (t.mono l1 k1) l1
        rw [hg'] at q2
        refine q2 _ fun w2 u k2 l2 r2 => ?_
        have q3 := he sl σ A w2 (t.mono (l1.trans l2) k2)
        rw [hh'] at q3
        exact q3 _ fun w' cls d k' l' => qq w' cls d k' (l1.trans (l2.trans l'))
      | ok z3 =>
        show PostR _ _ _ _ _ (rng3F z z2 z3) _
        unfold rng3F
        split
        · rename_i i j d
          split
          · rename_i hd
            refine fun Q qq => ⟨_, P, q _ fun w1 v k1 l1 r1 => ?_⟩
            have q2 := hb.at1 (t.mono l1 k1) l1
            rw [hg'] at q2
            refine q2 _ fun w2 u k2 l2 r2 => ?_
            have q3 := he.at1 (t.mono (l1.trans l2) k2) (l1.trans l2)
            rw [hh'] at q3
            refine q3 _ fun w3 y k3 l3 r3 => ?_
            have ev : v = .int i := r1.cl_of
            have eu : u = .int j := r2.cl_of
            have ey : y = .int d := r3.cl_of
            subst ev eu ey
            exact ⟨i, j, d, rfl, hd.1, PyProof.noPylong_of_log2 hd.2, qq w3 _ k3 (l1.trans (l2.trans l3)) goes_rangeC⟩
          · trivial
        · trivial
/-! ### isinstance of built-in types -/
theorem kit_tab : (["NoneType", "bool", "int", "str", "tuple", "list", "dict"].all fun a => [Ty.int, .bool, .str, .tuple, .list, .dict].all fun t => decide (kitB a t.nm = some (isTy a t))) = true := by decide +kernel
theorem kit_of_ty {a : String} (h : a ∈ ["NoneType", "bool", "int", "str", "tuple", "list", "dict"]) (t : Ty) : kitB a t.nm = some (isTy a t) := by
  have q := List.all_eq_true.mp (List.all_eq_true.mp kit_tab a h) t (by cases t <;> simp)
  exact of_decide_eq_true q
theorem ty_mem {d : D} {a : String} (h : d.ty = some a) : a ∈ ["NoneType", "bool", "int", "str", "tuple", "list", "dict"] := by
  cases d <;> cases h <;> simp
theorem rep_ty {K : PySem.W.Frag} {H : Hp} {d : D} {v : V} {a : String} (r : Rep K H d v) (h : d.ty = some a) : TyX K H v (.type a) := by
  cases d with
  | non => cases h; rw [show v = V.non from r]; exact .base .non
  | bl b => cases h; rw [show v = V.bl b from r]; exact .base (.bl b)
  | int i => cases h; rw [show v = V.int i from r]; exact .base (.int i)
  | str s => cases h; rw [show v = V.str s from r]; exact .base (.str s)
  | tup ds =>
    cases h
    obtain ⟨p, vs, rfl, e2, _⟩ := r
    rcases e2 with (e | ⟨o, e⟩) | ⟨o, _, _, e, cc, _⟩
    · exact .base (.tup e)
    · exact .fTuple e
    · exact .kTuple e cc
  | lst ds =>
    cases h
    obtain ⟨p, vs, rfl, e2, _⟩ := r
    rcases e2 with (e | ⟨o, e⟩) | ⟨o, _, _, e, cc, _⟩
    · exact .base (.lst e)
    · exact .base (.frz e)
    · exact .kList e cc
  | dct ks ds =>
    cases h
    obtain ⟨p, kvs, rfl, e2, _⟩ := r
    rcases e2 with e | ⟨o, e⟩
    · exact .base (.dK e)
    · exact .fDict e
  | ins _ _ _ => cases h
  | exn _ => cases h
theorem ty_boot (t : Ty) : bootBuiltins (Str.ofString t.nm) = some (.type t.nm) := by
  cases t
  · exact boot_int
  · exact boot_bool
  · exact boot_str
  · exact boot_tuple
  · exact boot_list
  · exact boot_dict
theorem ok_isi (C : CxOk c k ck X) {t : Ty} {y : Str} {p2 p3 : Pos} (hg : glB ck.sc "isinstance" = true) (hf : "isinstance" ∈ ck.free) (hy : Str.ofString t.nm = y) (hgy : glB ck.sc y = true) (hny : nameOk y = true) (hfy : t.nm ∈ ck.free) (hs : notStar a = true) (ha : OkE X Wx a f) :
    OkE X Wx (.Call (.Name "isinstance" p2) [a, .Name y p3] [] pos) (fun sl => (f sl).bind (isiF t)) := by
  subst hy
  have T : PE X (.Name (Str.ofString t.nm) p3) (tC (.ty t.nm)) := pe_bltn (glB_ok (by rw [C.sc]; exact hgy)) (C.free _ hfy) (ty_boot t) rfl (nameOk_d hny).2.2 (nameOk_d hny).1
  have P := pe_callB (X := X) (p := p2) (pos := pos) call_isi (glB_ok (by rw [C.sc]; exact hg)) (C.free _ hf) boot_isinstance (pa_cons (pe_we (X := X) (e := a)) (pa_cons T pa_nil) (star_cons hs _ _)) (he := star_cons hs _ _)
  exact ok_op1 ha fun x => ⟨_, fun σ H Q q => ⟨_, P, q⟩, fun w0 w σ v k rx => by
    unfold isiF
    cases hd : x.d with
    | none => trivial
    | some d =>
      simp only
      cases ht : d.ty with
      | none => trivial
      | some s =>
        simp only
        exact PostR.val (u := .bl (isTy s t)) k rfl fun Q qq => ⟨v, .ty t.nm, .type s, .type t.nm, isTy s t, rfl, .ty _, rep_ty (rx.dat k hd) ht, kit_ty (kit_of_ty (ty_mem ht) t), qq⟩⟩
/-! ### comprehensions -/
theorem wipe_len (σ : L2.St) (vs : List Nat) : (wipe σ vs).length = σ.length := wipe_length σ vs
theorem wipe_get {σ : L2.St} : ∀ {vs : List Nat} {i : Nat}, (wipe σ vs)[i]? = if i ∈ vs then (if i < σ.length then some none else none) else σ[i]?
  | [], i => by simp [wipe]
  | v :: vs, i => by
    have ih := wipe_get (σ := σ) (vs := vs) (i := i)
    show ((wipe σ vs).set v none)[i]? = _
    by_cases e : v = i
    · subst e
      rw [List.getElem?_set]
      simp [wipe_len]
    · rw [List.getElem?_set_ne e, ih]
      by_cases h : i ∈ vs
      · simp [h]
      · simp [h, Ne.symm e]
theorem wipe_off {vs : List Nat} {σ σ' : L2.St} (h : Off vs σ σ') : wipe σ' vs = wipe σ vs := by
  apply List.ext_getElem?
  intro i
  rw [wipe_get, wipe_get, h.len]
  by_cases hi : i ∈ vs
  · simp [hi]
  · simp [hi, h.eq i hi]
theorem wipe_wipe {vs : List Nat} {σ : L2.St} : wipe (wipe σ vs) vs = wipe σ vs := wipe_off ⟨wipe_len _ _, fun i hi => by rw [wipe_get, if_neg hi]⟩
theorem At.wipe {K : PySem.W.Frag} {sl : Sl} {σ : L2.St} {A : List Addr} {w : Wd} (t : At K sl σ A w) : ∀ vs : List Nat, ∃ A', At K (wipeS sl vs) (L2.wipe σ vs) A' w ∧ ∀ a ∈ A', a ∈ A
  | [] => ⟨A, t, fun _ h => h⟩
  | v :: vs => by
    obtain ⟨A1, t1, s1⟩ := At.wipe t vs
    obtain ⟨A2, t2, s2⟩ := t1.set (s := .no) (o := none) (C := []) rfl own_nil (fun a h => absurd h (by simp)) v
    exact ⟨A2, t2, fun a ha => s1 a ((s2 a ha).elim id fun z => absurd z (by simp))⟩
/-- a block's contexts -/
abbrev blkX (X : Cx) (scope : Scope) (s : Shared) (H : Hp) (C : Addr) (cl : List (Str × Addr)) (fp : List Addr) : Cx := X.blk s H scope (compEnvC scope cl C X.env) fp
theorem blk_ok (C : CxOk c k ck X) (scope : Scope) (s : Shared) (H : Hp) (Cc : Addr) (cl : List (Str × Addr)) (fp : List Addr) : CxOk c k (ck.blk scope) (blkX X scope s H Cc cl fp) :=
  ⟨C.N, C.nd, by show relS scope X.env.scope = relS scope ck.sc; rw [C.sc], C.calm, C.room, C.fn, C.free, C.gi, C.gs, C.exc, C.xp⟩
theorem lclB_ok {X : Cx} {x : Str} (h : lclB X.env.scope x = true) : X.env.scope.names.lookup x = some .local := by
  unfold lclB at h
  split at h
  · assumption
  · cases h
theorem blk_tg (C : CxOk c k ck X) (scope : Scope) (s : Shared) (H : Hp) (Cc : Addr) (cl : List (Str × Addr)) (fp : List Addr) : TgOk ck.N (lclB (ck.blk scope).sc) (blkX X scope s H Cc cl fp) :=
  ⟨C.N, C.nd, C.calm, fun x hx => by
    have e : (blkX X scope s H Cc cl fp).env.scope = (ck.blk scope).sc := (blk_ok C scope s H Cc cl fp).sc
    rw [← e] at hx
    exact ⟨.inl (lclB_ok hx), .inr (lclB_ok hx)⟩⟩
abbrev noW : WX := fun _ _ _ _ => False
theorem own_ix {N : List Str} {t : Tg} : (ownOf N t).map (·.2) = t.slots := by
  unfold ownOf
  rw [List.map_map]
  exact List.map_id' _
theorem nox_ok {α : Type} {r : R α} {x : α} (h : nox r = .ok x) : r = .ok x := by
  cases r <;> first | exact h | cases h
theorem nox_exc {α : Type} {r : R α} {e : Exn} : nox r ≠ .exc e := by
  cases r <;> simp [nox]
theorem compL_exc {gg : D → Sl → Option Sl} {cnd : Sl → R Bool} {el : Sl → R XV} {sl : Sl} {e : Exn} : ∀ {ds : List D}, compL gg cnd el sl ds ≠ .exc e
  | [] => by simp [compL]
  | d :: ds => by
    unfold compL
    cases gg d sl with
    | none => simp
    | some s1 =>
      simp only
      cases hc : nox (cnd s1) with
      | stuck => simp
      | exc e => exact absurd hc nox_exc
      | ok q =>
        cases q with
        | false => simp only [R.bind_ok]; exact compL_exc
        | true =>
          simp only [R.bind_ok, if_true]
          cases he : nox (el s1) with
          | stuck => simp
          | exc e => exact absurd he nox_exc
          | ok x =>
            cases hi : x.item with
            | none => simp [hi]
            | some m =>
              simp only [R.bind_ok, hi, R.of_some]
              cases hr : compL gg cnd el sl ds with
              | stuck => simp
              | exc e => exact absurd hr compL_exc
              | ok r => simp
/-- the block's parts, at once for every start -/
def WeEB (X : Cx) (scope : Scope) (e : Expr) : TE := fun σ H Q => ∀ s H0 C cl fp, weE (blkX X scope s H0 C cl fp) e σ H Q
def WeGB (X : Cx) (scope : Scope) (tg : Expr) : TG := fun v σ H Q => ∀ s H0 C cl fp, weG (blkX X scope s H0 C cl fp) tg v σ H Q
def weTs (X : Cx) (ifs : List Expr) : TT := fun σ H Q => ∃ t, PTs X ifs t ∧ t σ H Q
theorem pts_we {X : Cx} {ifs : List Expr} : PTs X ifs (weTs X ifs) := ⟨fun pins s σ H Q I ⟨t, h, q⟩ => h.run pins s σ H Q I q⟩
def WeTB (X : Cx) (scope : Scope) (ifs : List Expr) : TT := fun σ H Q => ∀ s H0 C cl fp, weTs (blkX X scope s H0 C cl fp) ifs σ H Q
/-- one turn's state of a list that grows: what has been taken off -/
theorem comp_go (C : CxOk c k ck X) {scope : Scope} {tt : Tg} {tg elt : Expr} {ifs : List Expr} {ff : Sl → R XV} {cc : Sl → R Bool} (ht : chkT ck.N (lclB (ck.blk scope).sc) tt tg = true)
    (he : ∀ s H C cl fp, OkE (blkX X scope s H C cl fp) noW elt ff)
    (hc : ∀ s H C cl fp sl σ A w, At X.K sl σ A w → PostR X.K noW (fun _ x b => x = b) σ w (cc sl) (weTs (blkX X scope s H C cl fp) ifs σ w.H))
    {sl : Sl} {σ : L2.St} {A : List Addr} {w0 w : Wd} (t0 : At X.K sl σ A w0) {J : L2.It} {ds : List Mo.D} (hl : ds.length < sizeLine) (l0 : WLe w0 w) (k0 : WOk w) (G : Goes X.K J w ds) {ms : List MO} (hm : compL (tgo tt) cc ff (wipeS sl tt.slots) ds = .ok ms) {Dd : Addr} (hD : w.H Dd = none)
    {Q : VK} (q : ∀ w' v, WOk w' → WLe w0 w' → XRep X.K (old w0) w' (.nw (.lst ms)) v → Q v w'.H) :
    ∃ W : Nat → Nat → Hp → Prop, (∃ m, W 0 m (upd w.H Dd (.lst []))) ∧ ∀ i m H, W i m H →
      (J.stop i H ∧ Q (.ref Dd) H) ∨ (J.go i H ∧ ∃ Nx : Hp → Prop, (∀ H', Nx H' → ∃ m', m' < m ∧ W (i + 1) m' H') ∧ ∀ x H', J.yld i H x H' → WeGB X scope tg x (wipe σ tt.slots) H' fun σ2 H2 => wipe σ2 tt.slots = wipe σ tt.slots ∧ WeTB X scope ifs σ2 H2 fun b H3 =>
        if b = true then WeEB X scope elt σ2 H3 fun y H4 => ∃ acc, H4 Dd = some (.lst acc) ∧ acc.length < sizeLine ∧ Nx (upd H4 Dd (.lst (acc ++ [y]))) else Nx H3) := by
  -- the word: i items are taken; the new list holds what they gave
  let W : Nat → Nat → Hp → Prop := fun i m H => m = ds.length - i ∧ i ≤ ds.length ∧ ∃ (w2 : Wd) (acc : List V) (Bc : List Addr) (m1 m2 : List MO), H = w2.H ∧ WOk w2 ∧ WLe w0 w2 ∧ Ex w.F w2.F ∧ w2.H Dd = some (.lst acc) ∧ w2.G Dd = none ∧
    ORepL X.K w2.F w2.H m1 acc Bc ∧ Own w2 Bc ∧ (∀ a ∈ Bc, ¬ old w0 a ∧ a ≠ Dd) ∧ acc.length ≤ i ∧ ms = m1 ++ m2 ∧ compL (tgo tt) cc ff (wipeS sl tt.slots) (ds.drop i) = .ok m2
  have h0D : w0.H Dd = none := l0.h.free hD
  refine ⟨W, ⟨ds.length, rfl, Nat.zero_le _, w.own Dd (.lst []), [], [], [], ms, rfl, Wd.own_ok k0 hD, l0.trans (Wd.own_le hD), Ex.refl _, upd_same, k0.gh.free hD, ⟨rfl, rfl⟩, own_nil, fun a h => absurd h (by simp), Nat.le_refl _, rfl, hm⟩, ?_⟩
  rintro i m H ⟨rfl, hi, w2, acc, Bc, m1, m2, rfl, k2, l2, eF, hd, gd, ro, ow, no, hacc, rfl, hcl⟩
  have frzD : ∀ o u, w2.H Dd ≠ some (.frz o u) := fun o u z => by rw [hd] at z; cases z
  rcases Nat.lt_or_ge i ds.length with hlt | hge
  · refine .inr ⟨G.go w2 k2 eF i hlt, fun H' => ∃ m', m' < ds.length - i ∧ W (i + 1) m' H', fun H' z => z, fun x H' hy => ?_⟩
    obtain ⟨w3, d, rfl, k3, l3, hd3, r3⟩ := G.yld w2 k2 eF i x H' hy hlt
    have hdrop : ds.drop i = d :: ds.drop (i + 1) := by
      rw [List.drop_eq_getElem_cons hlt]
      rw [List.getElem?_eq_getElem hlt] at hd3
      cases hd3; rfl
    rw [hdrop] at hcl
    unfold compL at hcl
    obtain ⟨Aw, tw, sw⟩ := (t0.mono (l2.trans l3) k3).wipe tt.slots
    cases hg : tgo tt d (wipeS sl tt.slots) with
    | none => rw [hg] at hcl; cases hcl
    | some s1 =>
      rw [hg] at hcl
      simp only at hcl
      intro s' H0 C' cl fp
      refine ok_tg (blk_tg C scope s' H0 C' cl fp) ht tw r3 hg _ fun σ' A' t4 s4 off => ⟨(wipe_off off).trans wipe_wipe, ?_⟩
      cases hq : cc s1 with
      | stuck => rw [hq] at hcl; cases hcl
      | exc ex => rw [hq] at hcl; cases hcl
      | ok qb =>
        rw [hq] at hcl
        simp only [nox, R.bind_ok] at hcl
        intro s2' H02 C2' cl2 fp2
        have pc := hc s2' H02 C2' cl2 fp2 s1 σ' A' w3 t4
        rw [hq] at pc
        refine pc _ fun w5 b k5 l5 eb => ?_
        subst eb
        have l05 := (l2.trans l3).trans l5
        have keepD : ∀ {w' : Wd}, WLe w2 w' → w'.H Dd = some (.lst acc) ∧ w'.G Dd = none := fun l => ⟨l.h _ _ hd, l.gg Dd (by rw [hd]; simp) gd⟩
        cases qb with
        | false =>
          simp only [Bool.false_eq_true, if_false] at hcl
          have kd := keepD (l3.trans l5)
          exact iteF ⟨_, by omega, rfl, hlt, w5, acc, Bc, m1, m2, rfl, k5, l05, eF.trans ((l3.trans l5).f), kd.1, kd.2, ro.mono (l3.trans l5).f (fun a _ o z => (l3.trans l5).h a o z), ow.mono (l3.trans l5) ro.there, no, by omega, rfl, hcl⟩
        | true =>
          simp only [if_true] at hcl
          cases hel : ff s1 with
          | stuck => rw [hel] at hcl; cases hcl
          | exc ex => rw [hel] at hcl; cases hcl
          | ok z =>
            rw [hel] at hcl
            simp only [nox, R.bind_ok] at hcl
            cases hit : z.item with
            | none => rw [hit] at hcl; cases hcl
            | some mi =>
              rw [hit] at hcl
              simp only [R.of_some, R.bind_ok] at hcl
              cases hrest : compL (tgo tt) cc ff (wipeS sl tt.slots) (ds.drop (i + 1)) with
              | stuck => rw [hrest] at hcl; cases hcl
              | exc ex => rw [hrest] at hcl; cases hcl
              | ok m3 =>
                rw [hrest] at hcl
                simp only [R.bind_ok] at hcl
                cases hcl
                refine iteT ?_
                intro s3' H03 C3' cl3 fp3
                have pe := (he s3' H03 C3' cl3 fp3) s1 σ' A' w5 (t4.mono l5 k5)
                rw [hel] at pe
                refine pe _ fun w6 y k6 l6 r6 => ?_
                have l26 := (l3.trans l5).trans l6
                have kd := keepD l26
                refine ⟨acc, kd.1, by omega, _, by omega, rfl, hlt, ?_⟩
                obtain ⟨B6, x1, x2, x3⟩ := r6
                have ro6 : ORep X.K w6.F w6.H mi y B6 := by
                  cases z with
                  | cl d' => cases hit; exact x1
                  | nw m' => cases hit; exact x1
                  | lk m' => cases hit
                  | tm m' => cases hit
                have no6 : ∀ a ∈ B6, ¬ old w0 a ∧ a ≠ Dd := fun a ha => ⟨fun o => x3 a ha (old_le l05 a o), fun e => x3 a ha (by subst e; exact ex_some (l3.trans l5).h (by rw [hd]; simp))⟩
                have nD : ∀ {w' : Wd} {ms : List MO} {vs : List V} {B : List Addr}, (∀ a ∈ B, a ≠ Dd) → ORepL X.K w'.F w'.H ms vs B → ORepL X.K w'.F (upd w'.H Dd (.lst (acc ++ [y]))) ms vs B := fun hB r => r.mono (Ex.refl _) fun a ha o q => by
                  rw [upd_ne (hB a ha)]; exact q
                have roA : ORepL X.K w6.F w6.H (m1 ++ [mi]) (acc ++ [y]) (Bc ++ B6) := by
                  refine (ro.mono l26.f (fun a _ o z => l26.h a o z)).append ?_
                  exact ⟨y, [], B6, [], rfl, ro6, ⟨rfl, rfl⟩, by simp⟩
                have owA : ∀ a ∈ Bc ++ B6, w6.G a = none ∧ ∀ o u, w6.H a ≠ some (.frz o u) := fun a ha => by
                  rcases List.mem_append.mp ha with z | z
                  · exact (ow.mono l26 ro.there).no a z
                  · exact x2.no a z
                have noA : ∀ a ∈ Bc ++ B6, ¬ old w0 a ∧ a ≠ Dd := fun a ha => by
                  rcases List.mem_append.mp ha with z | z
                  · exact no a z
                  · exact no6 a z
                have k7 : WOk ⟨w6.F, w6.G, upd w6.H Dd (.lst (acc ++ [y]))⟩ := ⟨k6.fg, k6.gh.mut kd.2⟩
                have l7 : WLe w0 ⟨w6.F, w6.G, upd w6.H Dd (.lst (acc ++ [y]))⟩ := ⟨(l05.trans l6).f, (l05.trans l6).g, fun a o q => by
                  show upd w6.H Dd _ a = some o
                  rw [upd_ne (by rintro rfl; rw [h0D] at q; cases q)]
                  exact (l05.trans l6).h a o q, (l05.trans l6).ff, (l05.trans l6).gg⟩
                refine ⟨⟨w6.F, w6.G, upd w6.H Dd (.lst (acc ++ [y]))⟩, acc ++ [y], Bc ++ B6, m1 ++ [mi], m3, rfl, k7, l7, eF.trans l26.f, upd_same, kd.2, nD (fun a ha => (noA a ha).2) roA, ⟨?_, fun a ha => ⟨(owA a ha).1, fun o u q => ?_⟩⟩, noA, by rw [List.length_append]; simp; omega, by rw [List.append_assoc]; rfl, hrest⟩
                · rw [List.nodup_append]
                  exact ⟨ow.nd, x2.nd, fun a h1 b h2 e => by
                    subst e
                    exact x3 a h2 (ex_some (l3.trans l5).h (ro.there a h1))⟩
                · have q' : upd w6.H Dd (.lst (acc ++ [y])) a = some (.frz o u) := q
                  rw [upd_ne (noA a ha).2] at q'
                  exact (owA a ha).2 o u q'
  · have e : i = ds.length := Nat.le_antisymm hi hge
    subst e
    refine .inl ⟨G.stop w2 k2 eF, ?_⟩
    rw [List.drop_length] at hcl
    unfold compL at hcl
    cases hcl
    rw [List.append_nil] at q
    refine q w2 (.ref Dd) k2 l2 ⟨Dd :: Bc, ⟨Dd, acc, Bc, rfl, .inl hd, ro, rfl⟩, ⟨List.nodup_cons.mpr ⟨fun z => (no Dd z).2 rfl, ow.nd⟩, fun a ha => ?_⟩, fun a ha => ?_⟩
    · rcases List.mem_cons.mp ha with z | z
      · subst z; exact ⟨gd, frzD⟩
      · exact ow.no a z
    · rcases List.mem_cons.mp ha with z | z
      · subst z; exact fun o => o h0D
      · exact (no a z).1
theorem ok_comp (C : CxOk c k ck X) {scope : Scope} {tt : Tg} {tg it elt : Expr} {ifs : List Expr} {ff : Sl → R XV} {cc : Sl → R Bool} {r : Sl → R (List Mo.D)} (hs : notSet it = true) (ht : chkT ck.N (lclB (ck.blk scope).sc) tt tg = true) (hbk : blkC ck.N ck.sc scope (ownOf ck.N tt) = true)
    (hi : OkI X Wx it r) (he : ∀ s H C cl fp, OkE (blkX X scope s H C cl fp) noW elt ff)
    (hc : ∀ s H C cl fp sl σ A w, At X.K sl σ A w → PostR X.K noW (fun _ x b => x = b) σ w (cc sl) (weTs (blkX X scope s H C cl fp) ifs σ w.H)) :
    OkE X Wx (.ListComp elt [⟨tg, it, ifs, 0⟩] scope pos) (fun sl => (r sl).bind (compF (tgo tt) cc ff (wipeS sl tt.slots))) := by
  have P : PE X (.ListComp elt [⟨tg, it, ifs, 0⟩] scope pos) (tLc (weI X tg it) (WeGB X scope tg) (WeTB X scope ifs) (WeEB X scope elt) ((ownOf ck.N tt).map (·.2))) :=
    pe_lc C.calm C.nd pi_we (blkOk_by (by rw [C.N, C.sc]; exact hbk)) (fun s H Cc cl fp => ⟨fun pins s' σ H' v u Q I rr h => (pg_we (X := blkX X scope s H Cc cl fp)).run pins s' σ H' v u Q I rr (h s H Cc cl fp)⟩)
      (fun s H Cc cl fp => ⟨fun pins s' σ H' Q I h => (pts_we (X := blkX X scope s H Cc cl fp)).run pins s' σ H' Q I (h s H Cc cl fp)⟩)
      (fun s H Cc cl fp => ⟨fun pins s' σ H' Q I h => (pe_we (X := blkX X scope s H Cc cl fp)).run pins s' σ H' Q I (h s H Cc cl fp)⟩)
      (fun x => by cases it <;> first | rfl | (cases hs; done))
  rw [own_ix] at P
  intro sl σ A w t
  have q := hi tg sl σ A w t
  cases hr : r sl with
  | stuck => simp only [hr]; trivial
  | exc ex => rw [hr] at q; simp only [hr]; exact fun Q qq => ⟨_, P, q _ qq⟩
  | ok ds =>
    rw [hr] at q
    simp only [hr, R.bind_ok]
    unfold compF
    split
    · rename_i hl
      cases hm : compL (tgo tt) cc ff (wipeS sl tt.slots) ds with
      | stuck => trivial
      | exc ex => exact absurd hm compL_exc
      | ok ms =>
        exact fun Q qq => ⟨_, P, q _ fun w1 J k1 l1 G Dd hD => comp_go C ht he hc t hl l1 k1 G hm hD qq⟩
    · trivial
end
end Mo
namespace Mo
open PySem PySem.Spec PyProof.Rows L2
/-! ### isinstance of an error that is kept -/
def rIsX (K : PySem.W.Frag) : List V → Hp → VK → Prop := fun xs H Q => ∃ (a C : Addr) (c : V) (u : Value) (b : Bool), xs = [.ref a, c] ∧ H a = some (ExH (.ref C) a) ∧ ExcC K C ∧ ClsV c u ∧ PySem.W.kitOne K (.ref C) u = some b ∧ Q (.bl b) H
def rIsXT (K : PySem.W.Frag) : List V → Hp → VK → Prop := fun xs H Q => ∃ (a C tp : Addr) (cs : List V) (us : List Value) (b : Bool), xs = [.ref a, .ref tp] ∧ H a = some (ExH (.ref C) a) ∧ H tp = some (.tup cs) ∧ ExcC K C ∧ Paired ClsV cs us ∧ PySem.W.kitAny K (.ref C) us = some b ∧ Q (.bl b) H
theorem inst_at {X : Cx} {pins : List (Addr × Obj)} {σ : L2.St} {H : Hp} {s : Shared} {a C : Addr} (I : Inv X pins σ H s) (h : H a = some (ExH (.ref C) a)) : ∃ oe, PySem.W.InstAt s.heap a oe C none := by
  obtain ⟨⟨oe, vs, g, z, dd⟩, _⟩ := (show ObjOk X.prog X.w H s.heap a (ExH (.ref C) a) from I.hok a _ h)
  obtain ⟨oc, od, oda, osl⟩ := oe
  obtain ⟨h1, h2⟩ := z
  dsimp only at h1 h2 dd
  subst h1 h2 dd
  exact ⟨_, g, rfl, rfl, trivial⟩
section
variable {X : Cx}
theorem call_isX : CallR X (.builtin "isinstance") (rIsX X.K) := by
  intro pins s σ H xs us Q I r h
  obtain ⟨a, C, c, u, b, rfl, ha, E, k, e, q⟩ := h
  obtain ⟨u1, u2, rfl, r1, r2⟩ := vals2 r
  cases (show u1 = Value.ref a from r1)
  have e2 := k.eq r2
  subst e2
  obtain ⟨oe, J⟩ := inst_at I ha
  exact PySem.W.kia_one (PySem.W.handS_kitx_exc E.hg E.hk E.hs E.hd E.ha E.hn E.ht E.hm) I.kIn J e (fun z => nomatch z) fun tk => ⟨.bl b, H, I.tok tk, rfl, q⟩
theorem call_isXT : CallR X (.builtin "isinstance") (rIsXT X.K) := by
  intro pins s σ H xs us Q I r h
  obtain ⟨a, C, tp, cs, ws, b, rfl, ha, hT, E, k, e, q⟩ := h
  obtain ⟨u1, u2, rfl, r1, r2⟩ := vals2 r
  cases (show u1 = Value.ref a from r1)
  cases (show u2 = Value.ref tp from r2)
  obtain ⟨oe, J⟩ := inst_at I ha
  obtain ⟨_, its, rv, o, h1, h2, n, h3⟩ := (show ObjOk X.prog X.w H s.heap tp (.tup cs) from I.hok tp _ hT)
  have e3 := ClsV.all k rv
  subst e3
  obtain ⟨oc, od, dt, sl⟩ := o
  simp only at h2 h3
  subst h2 h3
  exact PySem.W.kia_tup (PySem.W.handS_kitx_exc E.hg E.hk E.hs E.hd E.ha E.hn E.ht E.hm) I.kIn J h1 e (fun z => nomatch z) fun tk => ⟨.bl b, H, I.tok tk, rfl, q⟩
end
/-- a class as a value -/
def clsV (K : PySem.W.Frag) (c : String) : V := if c = "ValueError" then .ty "ValueError" else .ref (He.ga K (Str.ofString c))
def clsU (K : PySem.W.Frag) (c : String) : Value := if c = "ValueError" then .type "ValueError" else .ref (He.ga K (Str.ofString c))
theorem clsV_ok (K : PySem.W.Frag) (c : String) : ClsV (clsV K c) (clsU K c) := by
  unfold clsV clsU
  split
  · exact .ty _
  · exact .own _
theorem boot_ve : bootBuiltins (Str.ofString "ValueError") = some (.type "ValueError") := by rfl
section
variable {c : Calls} {k : Nat} {ck : Ck} {X : Cx} {Wx : WX} {a : Expr} {f : Sl → R XV} {pos : Pos}
theorem pe_cls {d y : String} {x : Str} {p : Pos} (h : XpOk X.K X.mg d y) (hx : Str.ofString y = x) (hg : Gl X x) (hn : nameOk x = true) : PE X (.Name x p) (tC (clsV X.K y)) := by
  subst hx
  have q := h.nm
  unfold clsV
  by_cases hy : y = "ValueError"
  · subst hy
    rw [if_pos rfl] at q ⊢
    exact pe_bltn hg q boot_ve rfl (nameOk_d hn).2.2 (nameOk_d hn).1
  · rw [if_neg hy] at q ⊢
    exact pe_glob hg q rfl (nameOk_d hn).1
theorem isx_rep {K : PySem.W.Frag} {O : Addr → Prop} {w : Wd} {x : XV} {v : V} {d : String} (kk : WOk w) (r : XRep K O w x v) (h : x.d = some (.exn d)) : ∃ a, v = .ref a ∧ w.H a = some (ExH (.ref (He.ga K (Str.ofString d))) a) := by
  obtain ⟨a, e1, e2⟩ := r.dat kk h
  exact ⟨a, e1, e2⟩
theorem ok_isx (C : CxOk c k ck X) {ds : List String} {cl : String} {y : Str} {p2 p3 : Pos} (hg : glB ck.sc "isinstance" = true) (hf : "isinstance" ∈ ck.free) (hy : Str.ofString cl = y) (hgy : glB ck.sc y = true) (hny : nameOk y = true) (hd : ∀ d ∈ ds, (d, cl) ∈ ck.xp) (hne : ∃ d, d ∈ ds) (hs : notStar a = true) (ha : OkE X Wx a f) :
    OkE X Wx (.Call (.Name "isinstance" p2) [a, .Name y p3] [] pos) (fun sl => (f sl).bind (isxF ds [cl])) := by
  obtain ⟨d0, hd0⟩ := hne
  have T : PE X (.Name y p3) (tC (clsV X.K cl)) := pe_cls (C.xp _ _ (hd d0 hd0)) hy (glB_ok (by rw [C.sc]; exact hgy)) hny
  have P := pe_callB (X := X) (p := p2) (pos := pos) call_isX (glB_ok (by rw [C.sc]; exact hg)) (C.free _ hf) boot_isinstance (pa_cons (pe_we (X := X) (e := a)) (pa_cons T pa_nil) (star_cons hs _ _)) (he := star_cons hs _ _)
  exact ok_op1 ha fun x => ⟨_, fun σ H Q q => ⟨_, P, q⟩, fun w0 w σ v kk rx => by
    unfold isxF
    cases hx : x.d with
    | none => trivial
    | some dd =>
      cases dd with
      | exn d =>
        simp only
        split
        · rename_i hc
          have hdd : d ∈ ds := by simpa using hc
          have F := C.xp _ _ (hd d hdd)
          obtain ⟨a', rfl, e2⟩ := isx_rep kk rx hx
          refine PostR.val (u := .bl _) kk rfl fun Q qq => ⟨a', _, clsV X.K cl, clsU X.K cl, exnIs d cl, rfl, e2, F.ex, clsV_ok _ _, F.ki, ?_⟩
          simpa using qq
        · trivial
      | _ => trivial⟩
theorem kitAny_of {K : PySem.W.Frag} {D : Addr} {d : String} : ∀ {cs : List String}, (∀ c ∈ cs, PySem.W.kitOne K (.ref D) (clsU K c) = some (exnIs d c)) → PySem.W.kitAny K (.ref D) (cs.map (clsU K)) = some (cs.any (exnIs d))
  | [], _ => rfl
  | c :: cs, h => by
    have h1 := h c List.mem_cons_self
    have h2 := kitAny_of (cs := cs) fun c hc => h c (List.mem_cons_of_mem _ hc)
    show (match PySem.W.kitOne K (.ref D) (clsU K c) with | some true => some true | some false => PySem.W.kitAny K (.ref D) (cs.map (clsU K)) | none => none) = _
    rw [h1, List.any_cons]
    cases exnIs d c with
    | true => rfl
    | false => exact h2
theorem paired_cls (K : PySem.W.Frag) : ∀ cs : List String, Paired ClsV (cs.map (clsV K)) (cs.map (clsU K))
  | [] => .nil
  | c :: cs => .cons (clsV_ok K c) (paired_cls K cs)
def tCs : List V → TA
  | [] => tNil
  | v :: vs => tCons (tC v) (tCs vs)
theorem tCs_iff {σ : L2.St} {H : Hp} : ∀ {vs : List V} {Q : List V → Hp → Prop}, Q vs H → tCs vs σ H Q
  | [], Q, q => q
  | v :: vs, Q, q => by
    show tCs vs σ H fun r H2 => Q (v :: r) H2
    exact tCs_iff q
theorem pa_cls (C : CxOk c k ck X) {d : String} : ∀ {cs : List String} {ys : List Expr}, clsNames ck.sc cs ys = true → (∀ c ∈ cs, (d, c) ∈ ck.xp) → PA X ys (tCs (cs.map (clsV X.K)))
  | [], ys, h, _ => by
    unfold clsNames at h
    cases ys with
    | nil => exact pa_nil
    | cons _ _ => cases h
  | c :: cs, ys, h, hd => by
    unfold clsNames at h
    split at h
    · simp only [Bool.and_eq_true, decide_eq_true_eq] at h
      exact pa_cons (pe_cls (C.xp _ _ (hd c List.mem_cons_self)) h.1.1.1 (glB_ok (by rw [C.sc]; exact h.1.1.2)) h.1.2) (pa_cls C h.2 fun c hc => hd c (List.mem_cons_of_mem _ hc))
    · cases h
theorem ok_isxT (C : CxOk c k ck X) {ds cs : List String} {ys : List Expr} {n : Nat} {p2 p3 : Pos} (hg : glB ck.sc "isinstance" = true) (hf : "isinstance" ∈ ck.free) (hc : clsNames ck.sc cs ys = true) (hd : ∀ d ∈ ds, ∀ c ∈ cs, (d, c) ∈ ck.xp) (hne : ∃ d, d ∈ ds) (hce : ∃ c, c ∈ cs) (hl : cs.length ≤ 100) (hs : notStar a = true) (ha : OkE X Wx a f) :
    OkE X Wx (.Call (.Name "isinstance" p2) [a, .Tuple ys n p3] [] pos) (fun sl => (f sl).bind (isxF ds cs)) := by
  obtain ⟨d0, hd0⟩ := hne
  have T : PE X (.Tuple ys n p3) _ := pe_tup (pa_cls C hc (hd d0 hd0))
  have P := pe_callB (X := X) (p := p2) (pos := pos) call_isXT (glB_ok (by rw [C.sc]; exact hg)) (C.free _ hf) boot_isinstance (pa_cons (pe_we (X := X) (e := a)) (pa_cons T pa_nil) (star_cons hs _ _)) (he := star_cons hs _ _)
  intro sl σ A w t
  refine PostR.bind (body := fun (v : V) H1 (Q : VK) => tTup (tCs (cs.map (clsV X.K))) σ H1 fun y H2 => rIsXT X.K [v, y] H2 Q) (ha sl σ A w t) (fun Q q => ⟨_, P, q⟩) fun x w1 v hx0 kk l1 rx => ?_
  unfold isxF
  cases hx : x.d with
  | none => trivial
  | some dd =>
    cases dd with
    | exn d =>
      simp only
      split
      · rename_i hcc
        have hdd : d ∈ ds := by simpa using hcc
        obtain ⟨a', rfl, e2⟩ := isx_rep kk rx hx
        refine fun Q qq => tCs_iff ⟨small (by simpa using Nat.le_trans hl (by decide)), fun p np => ?_⟩
        refine ⟨a', He.ga X.K (Str.ofString d), p, cs.map (clsV X.K), cs.map (clsU X.K), cs.any (exnIs d), rfl, ?_, upd_same, ?_, paired_cls X.K cs, kitAny_of fun c hcs => (C.xp _ _ (hd d hdd c hcs)).ki, ?_⟩
        · rw [upd_ne (fun z => by rw [z, np] at e2; cases e2)]; exact e2
        · obtain ⟨c0, hc0⟩ := hce
          exact (C.xp _ _ (hd d hdd c0 hc0)).ex
        · exact qq (w1.add p (.tup (cs.map (clsV X.K)))) (.bl (cs.any (exnIs d))) (Wd.add_ok kk) (Wd.add_le kk np) (XRep.cl rfl)
      · trivial
    | _ => trivial
end
end Mo
namespace Mo
open PySem PySem.Spec PyProof.Rows L2
structure Good (c : Calls) (k : Nat) (E0 : E) : Prop where
  e : ∀ {X : Cx} {ck : Ck} {Wx : WX}, CxOk c k ck X → Takes X Wx → ∀ {ex : Expr}, chkE ck E0 ex = true → OkE X Wx ex (evE c E0)
  t : ∀ {X : Cx} {ck : Ck} {Wx : WX}, CxOk c k ck X → Takes X Wx → ∀ {ex : Expr}, chkE ck E0 ex = true → tOk E0 = true → OkT X Wx ex (evE c E0)
  b : ∀ {X : Cx} {ck : Ck} {Wx : WX}, CxOk c k ck X → Takes X Wx → ∀ {op : BoolOp} {xs : List Expr} {pos : Pos}, chkB ck op E0 xs = true → OkE X Wx (.BoolOp op xs pos) (evE c E0)
  w : ∀ {X : Cx} {ck : Ck} {Wx : WX}, CxOk c k ck X → Takes X Wx → ∀ {op : BoolOp} {xs : List Expr} {pos : Pos}, chkB ck op E0 xs = true → tOk E0 = true → OkW X Wx (.BoolOp op xs pos) (evE c E0)
/-- where no row of and, or begins -/
theorem Good.of {c : Calls} {k : Nat} {e : E} (h1 : ∀ {X : Cx} {ck : Ck} {Wx : WX}, CxOk c k ck X → Takes X Wx → ∀ {ex : Expr}, chkE ck e ex = true → OkE X Wx ex (evE c e))
    (h2 : ∀ {X : Cx} {ck : Ck} {Wx : WX}, CxOk c k ck X → Takes X Wx → ∀ {ex : Expr}, chkE ck e ex = true → tOk e = true → OkT X Wx ex (evE c e)) (h3 : ∀ ck op xs, chkB ck op e xs = false) : Good c k e :=
  ⟨h1, h2, fun {X ck Wx} _ _ {op xs pos} h => (by rw [h3] at h; cases h), fun {X ck Wx} _ _ {op xs pos} h => (by rw [h3] at h; cases h)⟩
/-- .. a test by its value -/
theorem Good.plain {c : Calls} {k : Nat} {e : E} (h1 : ∀ {X : Cx} {ck : Ck} {Wx : WX}, CxOk c k ck X → Takes X Wx → ∀ {ex : Expr}, chkE ck e ex = true → plainT ex = true ∧ OkE X Wx ex (evE c e)) (h3 : ∀ ck op xs, chkB ck op e xs = false) : Good c k e :=
  Good.of (fun {X ck Wx} C tk {ex} h => (h1 C tk h).2) (fun {X ck Wx} C tk {ex} h _ => okT_val (h1 C tk h).1 (h1 C tk h).2) h3
structure GoodA (c : Calls) (k : Nat) (es : Es) : Prop where
  a : ∀ {X : Cx} {ck : Ck} {Wx : WX}, CxOk c k ck X → Takes X Wx → ∀ {xs : List Expr}, chkEs ck es xs = true → OkA X Wx xs (evEs c es)
theorem chkB_no {ck : Ck} {op : BoolOp} {e : E} {xs : List Expr} (h1 : ∀ a b, e ≠ .and a b) (h2 : ∀ a b, e ≠ .or a b) : chkB ck op e xs = false := by
  cases e <;> first | (unfold chkB; rfl) | exact absurd rfl (h1 _ _) | exact absurd rfl (h2 _ _)
section
variable {c : Calls} {k : Nat}
theorem good_and {a b : E} (ga : Good c k a) (gb : Good c k b) : Good c k (.and a b) := by
  have tailE : ∀ {X : Cx} {ck : Ck} {Wx : WX}, CxOk c k ck X → Takes X Wx → ∀ {r : Expr} {rs : List Expr} {pos : Pos}, (match rs with | [] => chkE ck b r | _ => chkB ck .And b (r :: rs)) = true → OkE X Wx (.BoolOp .And (r :: rs) pos) (evE c b) := fun {X ck Wx} C tk {r rs pos} h => by
    cases rs with
    | nil => exact ok_one (gb.e C tk h)
    | cons r' rs => exact gb.b C tk h
  have tailW : ∀ {X : Cx} {ck : Ck} {Wx : WX}, CxOk c k ck X → Takes X Wx → ∀ {r : Expr} {rs : List Expr} {pos : Pos}, (match rs with | [] => chkE ck b r | _ => chkB ck .And b (r :: rs)) = true → tOk b = true → OkW X Wx (.BoolOp .And (r :: rs) pos) (evE c b) := fun {X ck Wx} C tk {r rs pos} h ht => by
    cases rs with
    | nil => exact okW_and1 (gb.t C tk h ht)
    | cons r' rs => exact gb.w C tk h ht
  have tt : ∀ {p q : Bool}, (p && q) = true → p = true ∧ q = true := fun {p q} h => by simpa using h
  refine ⟨fun {X ck Wx} C tk {ex} h => ?_, fun {X ck Wx} C tk {ex} h ht => ?_, fun {X ck Wx} C tk {op xs pos} h => ?_, fun {X ck Wx} C tk {op xs pos} h ht => ?_⟩
  · unfold chkE at h
    split at h
    · simp only [Bool.and_eq_true] at h
      exact ok_and (ga.e C tk h.1) (tailE C tk h.2)
    · cases h
  · unfold chkE at h
    split at h
    · simp only [Bool.and_eq_true] at h
      exact okT_W (okW_and (ga.t C tk h.1 (tt ht).1) (tailW C tk h.2 (tt ht).2))
    · cases h
  · unfold chkB at h
    split at h
    · simp only [Bool.and_eq_true, decide_eq_true_eq] at h
      obtain ⟨⟨h0, h1⟩, h2⟩ := h
      subst h0
      exact ok_and (ga.e C tk h1) (tailE C tk h2)
    · cases h
  · unfold chkB at h
    split at h
    · simp only [Bool.and_eq_true, decide_eq_true_eq] at h
      obtain ⟨⟨h0, h1⟩, h2⟩ := h
      subst h0
      exact okW_and (ga.t C tk h1 (tt ht).1) (tailW C tk h2 (tt ht).2)
    · cases h
theorem good_or {a b : E} (ga : Good c k a) (gb : Good c k b) : Good c k (.or a b) := by
  have tailE : ∀ {X : Cx} {ck : Ck} {Wx : WX}, CxOk c k ck X → Takes X Wx → ∀ {r : Expr} {rs : List Expr} {pos : Pos}, (match rs with | [] => chkE ck b r | _ => chkB ck .Or b (r :: rs)) = true → OkE X Wx (.BoolOp .Or (r :: rs) pos) (evE c b) := fun {X ck Wx} C tk {r rs pos} h => by
    cases rs with
    | nil => exact ok_one (gb.e C tk h)
    | cons r' rs => exact gb.b C tk h
  have tailW : ∀ {X : Cx} {ck : Ck} {Wx : WX}, CxOk c k ck X → Takes X Wx → ∀ {r : Expr} {rs : List Expr} {pos : Pos}, (match rs with | [] => chkE ck b r | _ => chkB ck .Or b (r :: rs)) = true → tOk b = true → OkW X Wx (.BoolOp .Or (r :: rs) pos) (evE c b) := fun {X ck Wx} C tk {r rs pos} h ht => by
    cases rs with
    | nil => exact okW_or1 (gb.t C tk h ht)
    | cons r' rs => exact gb.w C tk h ht
  have tt : ∀ {p q : Bool}, (p && q) = true → p = true ∧ q = true := fun {p q} h => by simpa using h
  refine ⟨fun {X ck Wx} C tk {ex} h => ?_, fun {X ck Wx} C tk {ex} h ht => ?_, fun {X ck Wx} C tk {op xs pos} h => ?_, fun {X ck Wx} C tk {op xs pos} h ht => ?_⟩
  · unfold chkE at h
    split at h
    · simp only [Bool.and_eq_true] at h
      exact ok_or (ga.e C tk h.1) (tailE C tk h.2)
    · cases h
  · unfold chkE at h
    split at h
    · simp only [Bool.and_eq_true] at h
      exact okT_W (okW_or (ga.t C tk h.1 (tt ht).1) (tailW C tk h.2 (tt ht).2))
    · cases h
  · unfold chkB at h
    split at h
    · simp only [Bool.and_eq_true, decide_eq_true_eq] at h
      obtain ⟨⟨h0, h1⟩, h2⟩ := h
      subst h0
      exact ok_or (ga.e C tk h1) (tailE C tk h2)
    · cases h
  · unfold chkB at h
    split at h
    · simp only [Bool.and_eq_true, decide_eq_true_eq] at h
      obtain ⟨⟨h0, h1⟩, h2⟩ := h
      subst h0
      exact okW_or (ga.t C tk h1 (tt ht).1) (tailW C tk h2 (tt ht).2)
    · cases h
end
structure GoodI (c : Calls) (k : Nat) (it : It) : Prop where
  i : ∀ {X : Cx} {ck : Ck} {Wx : WX}, CxOk c k ck X → Takes X Wx → ∀ {ex : Expr}, chkIt ck it ex = true → OkI X Wx ex (evIt c it)
structure GoodC (c : Calls) (k : Nat) (cs : Es) : Prop where
  c : ∀ {X : Cx} {ck : Ck}, CxOk c k ck X → Takes X noW → ∀ {ifs : List Expr}, chkCnd ck cs ifs = true → ∀ sl σ A w, At X.K sl σ A w → PostR X.K noW (fun _ x b => x = b) σ w (evCnd c cs sl) (weTs X ifs σ w.H)
mutual
theorem goodE (c : Calls) (k : Nat) : ∀ e : E, Good c k e
  | .var i => .plain (fun {X ck Wx} C tk {ex} h => by
      unfold chkE at h
      split at h
      · simp only [Bool.and_eq_true, decide_eq_true_eq] at h
        exact ⟨rfl, ok_var C h.1.1 h.1.2 h.2⟩
      · cases h) fun _ _ _ => chkB_no (by simp) (by simp)
  | .int i => .plain (fun {X ck Wx} C tk {ex} h => by
      unfold chkE at h
      split at h
      · simp only [decide_eq_true_eq] at h
        subst h
        exact ⟨rfl, ok_const pe_int fun _ => rfl⟩
      · cases h) fun _ _ _ => chkB_no (by simp) (by simp)
  | .bl b => .plain (fun {X ck Wx} C tk {ex} h => by
      unfold chkE at h
      split at h
      · have h' := eq_of_beq h
        subst h'
        exact ⟨rfl, ok_const pe_bl fun _ => rfl⟩
      · cases h) fun _ _ _ => chkB_no (by simp) (by simp)
  | .non => .plain (fun {X ck Wx} C tk {ex} h => by
      unfold chkE at h
      split at h
      · exact ⟨rfl, ok_const pe_non fun _ => rfl⟩
      · cases h) fun _ _ _ => chkB_no (by simp) (by simp)
  | .str s => .plain (fun {X ck Wx} C tk {ex} h => by
      unfold chkE at h
      split at h
      · simp only [decide_eq_true_eq] at h
        subst h
        exact ⟨rfl, ok_const pe_str fun _ => rfl⟩
      · cases h) fun _ _ _ => chkB_no (by simp) (by simp)
  | .gi x i => .plain (fun {X ck Wx} C tk {ex} h => by
      unfold chkE at h
      split at h
      · simp only [Bool.and_eq_true, decide_eq_true_eq, List.contains_iff_mem] at h
        obtain ⟨⟨⟨h1, h2⟩, h3⟩, h4⟩ := h
        subst h1
        obtain ⟨t, ht⟩ := C.gi x i h4
        exact ⟨rfl, ok_const (pe_glob (v := .int i) (glB_ok (by rw [C.sc]; exact h2)) ht ⟨t, rfl⟩ (nameOk_d h3).1) fun _ => rfl⟩
      · cases h) fun _ _ _ => chkB_no (by simp) (by simp)
  | .gs x s => .plain (fun {X ck Wx} C tk {ex} h => by
      unfold chkE at h
      split at h
      · simp only [Bool.and_eq_true, decide_eq_true_eq, List.contains_iff_mem] at h
        obtain ⟨⟨⟨h1, h2⟩, h3⟩, h4⟩ := h
        subst h1
        obtain ⟨t, ht⟩ := C.gs x s h4
        exact ⟨rfl, ok_const (pe_glob (v := .str s) (glB_ok (by rw [C.sc]; exact h2)) ht ⟨t, rfl⟩ (nameOk_d h3).1) fun _ => rfl⟩
      · cases h) fun _ _ _ => chkB_no (by simp) (by simp)
  | .bin o a b => .plain (fun {X ck Wx} C tk {ex} h => by
      unfold chkE at h
      split at h
      · simp only [Bool.and_eq_true] at h
        exact ⟨rfl, ok_bin h.1.1 ((goodE c k a).e C tk h.1.2) ((goodE c k b).e C tk h.2)⟩
      · cases h) fun _ _ _ => chkB_no (by simp) (by simp)
  | .neg a => .plain (fun {X ck Wx} C tk {ex} h => by
      unfold chkE at h
      split at h
      · exact ⟨rfl, ok_neg ((goodE c k a).e C tk h)⟩
      · cases h) fun _ _ _ => chkB_no (by simp) (by simp)
  | .cmp o a b => .of (fun {X ck Wx} C tk {ex} h => by
      unfold chkE at h
      split at h
      · simp only [Bool.and_eq_true] at h
        exact ok_cmp C h.1.1.1 h.2 ((goodE c k a).e C tk h.1.1.2) ((goodE c k b).e C tk h.1.2)
      · cases h) (fun {X ck Wx} C tk {ex} h _ => by
      unfold chkE at h
      split at h
      · simp only [Bool.and_eq_true] at h
        exact okT_cmp C h.1.1.1 h.2 ((goodE c k a).e C tk h.1.1.2) ((goodE c k b).e C tk h.1.2)
      · cases h) fun _ _ _ => chkB_no (by simp) (by simp)
  | .isN a => .of (fun {X ck Wx} C tk {ex} h => by
      unfold chkE at h
      split at h
      · exact ok_isN ((goodE c k a).e C tk h)
      · cases h) (fun {X ck Wx} C tk {ex} h _ => by
      unfold chkE at h
      split at h
      · exact okT_isN ((goodE c k a).e C tk h)
      · cases h) fun _ _ _ => chkB_no (by simp) (by simp)
  | .notN a => .of (fun {X ck Wx} C tk {ex} h => by
      unfold chkE at h
      split at h
      · exact ok_notN ((goodE c k a).e C tk h)
      · cases h) (fun {X ck Wx} C tk {ex} h _ => by
      unfold chkE at h
      split at h
      · exact okT_notN ((goodE c k a).e C tk h)
      · cases h) fun _ _ _ => chkB_no (by simp) (by simp)
  | .chn o o' a b e => .of (fun {X ck Wx} C tk {ex} h => by
      unfold chkE at h
      split at h
      · simp only [Bool.and_eq_true] at h
        exact ok_chn C h.1.1.1.1.1 h.1.1.1.1.2 h.2 ((goodE c k a).e C tk h.1.1.1.2) ((goodE c k b).e C tk h.1.1.2) ((goodE c k e).e C tk h.1.2)
      · cases h) (fun {X ck Wx} C tk {ex} h _ => by
      unfold chkE at h
      split at h
      · simp only [Bool.and_eq_true] at h
        exact okT_chn C h.1.1.1.1.1 h.1.1.1.1.2 h.2 ((goodE c k a).e C tk h.1.1.1.2) ((goodE c k b).e C tk h.1.1.2) ((goodE c k e).e C tk h.1.2)
      · cases h) fun _ _ _ => chkB_no (by simp) (by simp)
  | .and a b => good_and (goodE c k a) (goodE c k b)
  | .or a b => good_or (goodE c k a) (goodE c k b)
  | .not a => .of (fun {X ck Wx} C tk {ex} h => by
      unfold chkE at h
      split at h
      · exact ok_not ((goodE c k a).e C tk h)
      · cases h) (fun {X ck Wx} C tk {ex} h ht => by
      unfold chkE at h
      split at h
      · exact okT_not ((goodE c k a).t C tk h ht)
      · cases h) fun _ _ _ => chkB_no (by simp) (by simp)
  | .ife t a b => .of (fun {X ck Wx} C tk {ex} h => by
      unfold chkE at h
      split at h
      · simp only [Bool.and_eq_true] at h
        exact ok_ife ((goodE c k t).t C tk h.1.1.1 h.2) ((goodE c k a).e C tk h.1.1.2) ((goodE c k b).e C tk h.1.2)
      · cases h) (fun {X ck Wx} C tk {ex} h ht => by cases ht) fun _ _ _ => chkB_no (by simp) (by simp)
  | .tup es => .plain (fun {X ck Wx} C tk {ex} h => by
      unfold chkE at h
      split at h
      · exact ⟨rfl, ok_tup ((goodEs c k es).a C tk h)⟩
      · cases h) fun _ _ _ => chkB_no (by simp) (by simp)
  | .lst es => .plain (fun {X ck Wx} C tk {ex} h => by
      unfold chkE at h
      split at h
      · exact ⟨rfl, ok_lst ((goodEs c k es).a C tk h)⟩
      · cases h) fun _ _ _ => chkB_no (by simp) (by simp)
  | .sub a i => .plain (fun {X ck Wx} C tk {ex} h => by
      unfold chkE at h
      split at h
      · simp only [Bool.and_eq_true] at h
        exact ⟨rfl, ok_sub h.2 ((goodE c k a).e C tk h.1.1) ((goodE c k i).e C tk h.1.2)⟩
      · cases h) fun _ _ _ => chkB_no (by simp) (by simp)
  | .call f es => .plain (fun {X ck Wx} C tk {ex} h => by
      unfold chkE at h
      split at h
      · simp only [Bool.and_eq_true, decide_eq_true_eq, List.contains_iff_mem] at h
        obtain ⟨⟨⟨⟨h1, h2⟩, h3⟩, h4⟩, h5⟩ := h
        have hA := (goodEs c k es).a C tk h5
        cases es with
        | nil => unfold chkEs at h5; cases h5
        | cons e es =>
          have h5' := h5
          unfold chkEs at h5
          simp only [Bool.and_eq_true] at h5
          exact ⟨rfl, ok_call C tk h1 h2 h3 h4 h5.2 (fun _ => plain_args h5.1.2) hA⟩
      · cases h) fun _ _ _ => chkB_no (by simp) (by simp)
  | .blt b es => .plain (fun {X ck Wx} C tk {ex} h => by
      unfold chkE at h
      split at h
      · simp only [Bool.and_eq_true, decide_eq_true_eq, List.contains_iff_mem] at h
        obtain ⟨⟨⟨⟨h1, h2⟩, h3⟩, h4⟩, h5⟩ := h
        have hA := (goodEs c k es).a C tk h5
        cases es with
        | nil => unfold chkEs at h5; cases h5
        | cons e es =>
          have h5' := h5
          unfold chkEs at h5
          simp only [Bool.and_eq_true] at h5
          exact ⟨rfl, ok_blt C h1 h2 h3 h4 h5.2 (fun _ => plain_args h5.1.2) hA⟩
      · cases h) fun _ _ _ => chkB_no (by simp) (by simp)
  | .fz a => .of (fun {X ck Wx} C tk {ex} h => by
      unfold chkE at h
      exact ok_fz ((goodE c k a).e C tk h)) (fun {X ck Wx} C tk {ex} h ht => by cases ht) fun _ _ _ => chkB_no (by simp) (by simp)
  | .isi t a => .plain (fun {X ck Wx} C tk {ex} h => by
      unfold chkE at h
      split at h
      · simp only [Bool.and_eq_true, decide_eq_true_eq, List.contains_iff_mem] at h
        obtain ⟨⟨⟨⟨⟨⟨⟨⟨h1, h2⟩, h3⟩, h4⟩, h5⟩, h6⟩, h7⟩, h8⟩, h9⟩ := h
        subst h1
        exact ⟨rfl, ok_isi C h2 h3 h4 h5 h6 h7 h8 ((goodE c k a).e C tk h9)⟩
      · cases h) fun _ _ _ => chkB_no (by simp) (by simp)
  | .isx ds cs a => .plain (fun {X ck Wx} C tk {ex} h => by
      unfold chkE at h
      split at h
      · simp only [Bool.and_eq_true, decide_eq_true_eq, List.contains_iff_mem, List.all_eq_true] at h
        obtain ⟨⟨⟨⟨⟨⟨⟨⟨⟨h1, h2⟩, h3⟩, h4⟩, h5⟩, h6⟩, h7⟩, h8⟩, h9⟩, h10⟩ := h
        subst h1
        match cs, h4, h7 with
        | [cl], h4, h7 =>
          have h4' : Str.ofString cl = _ := List.singleton_inj.mp h4
          refine ⟨rfl, ok_isx C h2 h3 h4' h5 h6 (fun d hd => h7 d hd cl (by simp)) ?_ h8 ((goodE c k a).e C tk h9)⟩
          cases ds with
          | nil => cases h10
          | cons d _ => exact ⟨d, by simp⟩
        | [], h4, _ => cases h4
        | _ :: _ :: _, h4, _ => cases h4
      · simp only [Bool.and_eq_true, decide_eq_true_eq, List.contains_iff_mem, List.all_eq_true] at h
        obtain ⟨⟨⟨⟨⟨⟨⟨⟨⟨h1, h2⟩, h3⟩, h4⟩, h5⟩, h6⟩, h7⟩, h8⟩, h9⟩, h10⟩ := h
        subst h1
        refine ⟨rfl, ok_isxT C h2 h3 h4 (fun d hd y hy => h5 d hd y hy) ?_ ?_ h8 h6 ((goodE c k a).e C tk h7)⟩
        · cases ds with
          | nil => cases h9
          | cons d _ => exact ⟨d, by simp⟩
        · cases cs with
          | nil => cases h10
          | cons d _ => exact ⟨d, by simp⟩
      · cases h) fun _ _ _ => chkB_no (by simp) (by simp)
  | .comp elt t it cs => .of (fun {X ck Wx} C tk {ex} h => by
      unfold chkE at h
      split at h
      · simp only [Bool.and_eq_true] at h
        obtain ⟨⟨⟨⟨⟨h1, h2⟩, h3⟩, h4⟩, h5⟩, h6⟩ := h
        exact ok_comp C h2 h4 h3 ((goodIt c k it).i C tk h1) (fun s H Cc cl fp => (goodE c k elt).e (blk_ok C _ s H Cc cl fp) takes0 h5)
          (fun s H Cc cl fp sl σ A w t => (goodCnd c k cs).c (blk_ok C _ s H Cc cl fp) takes0 h6 sl σ A w t)
      · cases h) (fun {X ck Wx} C tk {ex} h ht => by cases ht) fun _ _ _ => chkB_no (by simp) (by simp)
theorem goodEs (c : Calls) (k : Nat) : ∀ es : Es, GoodA c k es
  | .nil => ⟨fun {X ck Wx} C tk {xs} h => by
    unfold chkEs at h
    cases xs with
    | nil => exact okA_nil
    | cons _ _ => cases h⟩
  | .cons e es => ⟨fun {X ck Wx} C tk {xs} h => by
    unfold chkEs at h
    cases xs with
    | nil => cases h
    | cons x xs =>
      simp only [Bool.and_eq_true] at h
      exact okA_cons h.2 ((goodE c k e).e C tk h.1.1) ((goodEs c k es).a C tk h.1.2)⟩
theorem goodIt (c : Calls) (k : Nat) : ∀ it : It, GoodI c k it
  | .exp e => ⟨fun {X ck Wx} C tk {ex} h => by
    unfold chkIt at h
    exact okI_exp ((goodE c k e).e C tk h)⟩
  | .rng1 a => ⟨fun {X ck Wx} C tk {ex} h => by
    unfold chkIt at h
    split at h
    · simp only [Bool.and_eq_true, decide_eq_true_eq, List.contains_iff_mem] at h
      obtain ⟨⟨⟨⟨g1, g2⟩, g3⟩, g4⟩, g5⟩ := h
      subst g1
      exact okI_rng1 C g2 g3 g5 ((goodE c k a).e C tk g4)
    · cases h⟩
  | .rng2 a b => ⟨fun {X ck Wx} C tk {ex} h => by
    unfold chkIt at h
    split at h
    · simp only [Bool.and_eq_true, decide_eq_true_eq, List.contains_iff_mem] at h
      obtain ⟨⟨⟨⟨⟨⟨g1, g2⟩, g3⟩, g4⟩, g5⟩, g6⟩, g7⟩ := h
      subst g1
      exact okI_rng2 C g2 g3 g6 g7 ((goodE c k a).e C tk g4) ((goodE c k b).e C tk g5)
    · cases h⟩
  | .rng3 a b d => ⟨fun {X ck Wx} C tk {ex} h => by
    unfold chkIt at h
    split at h
    · simp only [Bool.and_eq_true, decide_eq_true_eq, List.contains_iff_mem] at h
      obtain ⟨⟨⟨⟨⟨⟨⟨⟨g1, g2⟩, g3⟩, g4⟩, g5⟩, g8⟩, g6⟩, g7⟩, g9⟩ := h
      subst g1
      exact okI_rng3 C g2 g3 g6 g7 g9 ((goodE c k a).e C tk g4) ((goodE c k b).e C tk g5) ((goodE c k d).e C tk g8)
    · cases h⟩
theorem goodCnd (c : Calls) (k : Nat) : ∀ cs : Es, GoodC c k cs
  | .nil => ⟨fun {X ck} C tk {ifs} h sl σ A w t => by
    unfold chkCnd at h
    cases ifs with
    | cons _ _ => cases h
    | nil => exact fun Q q => ⟨_, pts_nil, q w true t.ok (WLe.refl _) rfl⟩⟩
  | .cons e es => ⟨fun {X ck} C tk {ifs} h sl σ A w t => by
    unfold chkCnd at h
    split at h
    · simp only [Bool.and_eq_true] at h
      exact ((goodE c k e).t C tk h.1.1 h.1.2 sl σ A w t).imp (fun Q ⟨tt, p1, p2⟩ => ⟨_, pts_one p1, p2⟩) fun _ _ _ _ r => r
    · cases h⟩
end
end Mo
namespace Mo
open PySem PySem.Spec PyProof.Rows L2
/-! ### statements: the places -/
def weS (X : Cx) (st : Stmt) : TS := fun D σ H => ∃ t, PS X st t ∧ t D σ H
theorem ps_we {X : Cx} {st : Stmt} : PS X st (weS X st) := ⟨fun pins s σ H D I ⟨t, h, q⟩ => h.run pins s σ H D I q⟩
def weSs (X : Cx) (st : List Stmt) : TS := fun D σ H => ∃ t, PSs X st t ∧ t D σ H
theorem pss_we {X : Cx} {st : List Stmt} : PSs X st (weSs X st) := ⟨fun pins s σ H D I ⟨t, h, q⟩ => h.run pins s σ H D I q⟩
structure AtS (K : PySem.W.Frag) (B : Addr → Prop) (sl : Sl) (σ : L2.St) (A : List Addr) (w : Wd) : Prop where
  at_ : At K sl σ A w
  nb : ∀ a ∈ A, ¬ B a
  bg : ∀ a, B a → w.G a ≠ none
structure WLeS (B : Addr → Prop) (w w' : Wd) : Prop where
  f : Ex w.F w'.F
  g : Ex w.G w'.G
  ff : ∀ a, B a → w.F a = none → w'.F a = none
theorem WLeS.refl (B : Addr → Prop) (w : Wd) : WLeS B w w := ⟨.refl _, .refl _, fun _ _ h => h⟩
theorem WLeS.trans {B : Addr → Prop} {w w1 w2 : Wd} (a : WLeS B w w1) (b : WLeS B w1 w2) : WLeS B w w2 := ⟨a.f.trans b.f, a.g.trans b.g, fun x h q => b.ff x h (a.ff x h q)⟩
theorem AtS.oldB {K : PySem.W.Frag} {B : Addr → Prop} {sl : Sl} {σ : L2.St} {A : List Addr} {w : Wd} (h : AtS K B sl σ A w) : ∀ a, B a → old w a := fun a b => ex_some h.at_.ok.gh (h.bg a b)
theorem WLe.s {K : PySem.W.Frag} {B : Addr → Prop} {sl : Sl} {σ : L2.St} {A : List Addr} {w w' : Wd} (l : WLe w w') (h : AtS K B sl σ A w) : WLeS B w w' := ⟨l.f, l.g, fun a b q => l.ff a (h.oldB a b) q⟩
theorem AtS.mono {K : PySem.W.Frag} {B : Addr → Prop} {sl : Sl} {σ : L2.St} {A : List Addr} {w w' : Wd} (h : AtS K B sl σ A w) (l : WLe w w') (k : WOk w') : AtS K B sl σ A w' := ⟨h.at_.mono l k, h.nb, fun a b => ex_some l.g (h.bg a b)⟩
def PostS (K : PySem.W.Frag) (Wx : WX) (B : Addr → Prop) (w : Wd) (o : RO) (T : Ends → Prop) : Prop := match o with
  | none => True
  | some (.nx sl) => ∀ D : Ends, (∀ w' σ A, AtS K B sl σ A w' → WLeS B w w' → D.nx σ w'.H) → T D
  | some (.bk sl) => ∀ D : Ends, (∀ w' σ A, AtS K B sl σ A w' → WLeS B w w' → D.bk σ w'.H) → T D
  | some (.ct sl) => ∀ D : Ends, (∀ w' σ A, AtS K B sl σ A w' → WLeS B w w' → D.ct σ w'.H) → T D
  | some (.rt x) => ∀ D : Ends, (∀ w' v, WOk w' → WLeS B w w' → (∀ a, B a → w'.G a ≠ none) → XRep K B w' x v → D.rt v w'.H) → T D
  | some (.ex e sl) => ∀ D : Ends, (∀ w' σ A cls d, AtS K B sl σ A w' → WLeS B w w' → ExnR K w'.H e cls d → Wx cls d σ w'.H) → T D
def OkS (X : Cx) (Wx : WX) (st : Stmt) (f : Sl → RO) : Prop := ∀ B sl σ A w, AtS X.K B sl σ A w → PostS X.K Wx B w (f sl) (fun D => weS X st D σ w.H)
def OkSs (X : Cx) (Wx : WX) (st : List Stmt) (f : Sl → RO) : Prop := ∀ B sl σ A w, AtS X.K B sl σ A w → PostS X.K Wx B w (f sl) (fun D => weSs X st D σ w.H)
section
variable {X : Cx} {Wx : WX} {K : PySem.W.Frag} {B : Addr → Prop} {sl : Sl} {σ : L2.St} {A : List Addr} {w : Wd} {e : Expr} {f : Sl → R XV} {g h : Sl → RO}
theorem PostS.imp {o : RO} {T T' : Ends → Prop} (h : PostS K Wx B w o T) (hT : ∀ D, T D → T' D) : PostS K Wx B w o T' := by
  cases o with
  | none => trivial
  | some o => cases o <;> exact fun D q => hT D (h D q)
/-- from a later place -/
theorem PostS.from {o : RO} {T : Ends → Prop} {w0 : Wd} (l : WLeS B w0 w) (h : PostS K Wx B w o T) : PostS K Wx B w0 o T := by
  cases o with
  | none => trivial
  | some o =>
    cases o with
    | nx sl => exact fun D q => h D fun w' σ A a l' => q w' σ A a (l.trans l')
    | bk sl => exact fun D q => h D fun w' σ A a l' => q w' σ A a (l.trans l')
    | ct sl => exact fun D q => h D fun w' σ A a l' => q w' σ A a (l.trans l')
    | rt x => exact fun D q => h D fun w' v k l' bg r => q w' v k (l.trans l') bg r
    | ex e sl => exact fun D q => h D fun w' σ A cls d a l' r => q w' σ A cls d a (l.trans l') r
/-- an expression, then what comes of its value -/
theorem PostR.out {α β : Type} {rep : Wd → α → β → Prop} {r : R α} {T : (β → Hp → Prop) → Prop} {T' : Ends → Prop} {F : α → RO} {body : Ends → β → Hp → Prop} (t : AtS K B sl σ A w)
    (h : PostR K Wx rep σ w r T) (hT : ∀ D, T (fun v H1 => body D v H1) → T' D)
    (hF : ∀ x w1 v, r = .ok x → AtS K B sl σ A w1 → WLe w w1 → rep w1 x v → PostS K Wx B w1 (F x) (fun D => body D v w1.H)) : PostS K Wx B w (r.out sl F) T' := by
  cases r with
  | stuck => trivial
  | exc e => exact fun D q => hT D (h _ fun w1 cls d k l er => q w1 σ A cls d (t.mono l k) (l.s t) er)
  | ok x =>
    show PostS K Wx B w (F x) T'
    have hF' := fun w1 v k l r => (hF x w1 v rfl (t.mono l k) l r).from (l.s t)
    cases hx : F x with
    | none => trivial
    | some o =>
      rw [hx] at hF'
      cases o with
      | nx sl => exact fun D q => hT D (h _ fun w1 v k l r => hF' w1 v k l r D q)
      | bk sl => exact fun D q => hT D (h _ fun w1 v k l r => hF' w1 v k l r D q)
      | ct sl => exact fun D q => hT D (h _ fun w1 v k l r => hF' w1 v k l r D q)
      | rt x => exact fun D q => hT D (h _ fun w1 v k l r => hF' w1 v k l r D q)
      | ex e sl => exact fun D q => hT D (h _ fun w1 v k l r => hF' w1 v k l r D q)
/-! ### a slot is stored -/
theorem AtS.set (t : AtS K B sl σ A w) {s : SV} {o : Option V} {C : List Addr} (h : SvR K w s o C) (hc : Own w C) (hn : ∀ a ∈ C, a ∉ A ∧ ¬ B a) (i : Nat) : ∃ A', AtS K B (sl.set i s) (σ.set i o) A' w := by
  obtain ⟨A', h1, h2, h3⟩ := SlR.set h i t.at_.sl t.at_.ow.nd hc.nd fun a ha => (hn a ha).1
  refine ⟨A', ⟨t.at_.ok, h1, h2, fun a ha => ?_⟩, fun a ha => ?_, t.bg⟩
  · rcases h3 a ha with q | q
    · exact t.at_.ow.no a q
    · exact hc.no a q
  · rcases h3 a ha with q | q
    · exact t.nb a q
    · exact (hn a q).2
theorem AtS.setCl (t : AtS K B sl σ A w) {d : D} {v : V} (h : Rep K w.F d v) (i : Nat) : ∃ A', AtS K B (sl.set i (.cl d)) (σ.set i (some v)) A' w :=
  t.set (s := .cl d) (C := []) ⟨v, rfl, h, rfl⟩ own_nil (fun a h => absurd h (by simp)) i
/-- a value that is kept -/
theorem AtS.keep {w0 : Wd} (t0 : AtS K B sl σ A w0) (t : AtS K B sl σ A w) {x : XV} {s : SV} {v : V} (r : XRep K (old w0) w x v) (hx : x.keep = some s) (i : Nat) : ∃ A', AtS K B (sl.set i s) (σ.set i (some v)) A' w := by
  obtain ⟨C, r1, r2, r3⟩ := r
  cases x with
  | cl d => cases hx; exact t.setCl r1.1 i
  | lk m => cases hx; obtain ⟨⟨C', o⟩, q⟩ := r1; exact t.set (s := .lk m) (C := []) ⟨v, C', rfl, o, rfl⟩ own_nil (fun a h => absurd h (by simp)) i
  | nw m => cases hx; exact t.set (s := .ow m) (C := C) ⟨v, rfl, r1⟩ r2 (fun a ha => ⟨fun z => r3 a ha (t0.at_.sl.there a z), fun z => r3 a ha (t0.oldB a z)⟩) i
  | tm m => cases hx
end
/-! ### the context for statements -/
structure SxOk (c : Calls) (k : Nat) (ck : Ck) (X : Cx) : Prop where
  x : CxOk c k ck X
  fn : ∀ x, X.fn x = true
  po : PassesOwn (model X.prog X.w) X.A X.env X.xe
  kind : X.env.scope.kind = .function
  stk : X.stack = X.env :: X.outer
  fr : X.env.frame = some X.env.locals
theorem locB_ok {X : Cx} {x : Str} (h : locB X.env.scope x = true) : L2.Loc X.env.scope x := by
  unfold locB at h
  unfold L2.Loc
  split at h <;> first | exact .inl (by assumption) | exact .inr (by assumption) | cases h
def notComp (e : Expr) : Bool := match e with
  | .ListComp _ _ _ _ => false
  | .SetComp _ _ _ _ => false
  | .DictComp _ _ _ _ _ => false
  | _ => true
theorem swaps_no {e : Expr} (h : notComp e = true) (t : Option Expr) (n : Nat) (env : Env) : swapsWith e t n env = pure false := by
  cases e <;> first | rfl | (cases h; done)
/-- a value that is put into several names: no display, or one of constants -/
def notTup (e : Expr) : Bool := match e with
  | .Tuple _ _ _ => false
  | _ => true
section
variable {c : Calls} {k : Nat} {ck : Ck} {X : Cx} {Wx : WX} {e a b : Expr} {f g : Sl → R XV} {pos pos' : Pos}
theorem ok_asg (C : SxOk c k ck X) {i : Nat} {x : Str} (hi : ck.N[i]? = some x) (hx : locB ck.sc x = true) (hn : notComp e = true) (he : OkE X Wx e f) :
    OkS X Wx (.Assign [.Name x pos'] e pos) (fun sl => (f sl).out sl fun z => match z.keep with | some s => some (.nx (sl.set i s)) | none => none) := by
  intro B sl σ A w t
  refine PostR.out (body := fun D v H1 => D.nx (σ.set i (some v)) H1) t (he sl σ A w t.at_) (fun D q => ⟨_, ps_set C.x.nd (by rw [C.x.N]; exact hi) (locB_ok (by rw [C.x.sc]; exact hx)) pe_we (swaps_no hn _ _ _) (.inl (C.fn _)), q⟩) fun z w1 v hz t1 l1 r1 => ?_
  cases hk : z.keep with
  | none => trivial
  | some s =>
    obtain ⟨A', t2⟩ := t.keep t1 r1 hk i
    exact fun D q => q w1 _ A' t2 (WLeS.refl _ _)
theorem SxOk.tg (C : SxOk c k ck X) : TgOk ck.N (locB ck.sc) X := ⟨C.x.N, C.x.nd, C.x.calm, fun x hx => ⟨locB_ok (by rw [C.x.sc]; exact hx), .inl (C.fn x)⟩⟩
/-- targets, between statements -/
theorem ok_tgS (C : SxOk c k ck X) {t : Tg} {x : Expr} (h : chkT ck.N (locB ck.sc) t x = true) {B : Addr → Prop} {sl sl' : Sl} {σ : L2.St} {A : List Addr} {w : Wd} {d : D} {v : V} (at0 : AtS X.K B sl σ A w) (r : Rep X.K w.F d v) (e : tgo t d sl = some sl') (Q : L2.St → Hp → Prop) (q : ∀ σ' A', AtS X.K B sl' σ' A' w → Q σ' w.H) : weG X x v σ w.H Q :=
  ok_tg C.tg h at0.at_ r e Q fun σ' A' t2 s2 _ => q σ' A' ⟨t2, fun a ha => at0.nb a (s2 a ha), at0.bg⟩
/-- no stores exchanged -/
def plainRhs (tg e : Expr) : Bool := match tg, e with
  | .Tuple _ _ _, .Tuple vs _ _ => vs.all (foldedForSure 8)
  | .List _ _, _ => false
  | _, _ => true
theorem swapped_none {tg e : Expr} (h : plainRhs tg e = true) (env : Env) : swappedStores [tg] e env = pure none := by
  by_cases ht : ∃ ts k p, tg = .Tuple ts k p
  · obtain ⟨ts, k, p, rfl⟩ := ht
    by_cases he : ∃ vs k p, e = .Tuple vs k p
    · obtain ⟨vs, k', p', rfl⟩ := he
      have h' : vs.all (foldedForSure 8) = true := h
      unfold swappedStores
      simp only [h']
      split
      · rfl
      · split
        · rfl
        · split
          · rfl
          · rfl
    · cases e <;> first | rfl | exact absurd ⟨_, _, _, rfl⟩ he
  · cases tg <;> first | rfl | exact absurd ⟨_, _, _, rfl⟩ ht | (cases h; done)
theorem ok_unp (C : SxOk c k ck X) {t : Tg} {x : Expr} (ht : chkT ck.N (locB ck.sc) t x = true) (hn : notComp e = true) (hw : ∀ env, swappedStores [x] e env = pure none) (he : OkE X Wx e f) :
    OkS X Wx (.Assign [x] e pos) (fun sl => (f sl).out sl fun z => match z with | .cl d => (tgo t d sl).map .nx | _ => none) := by
  intro B sl σ A w at0
  have h1 : (assignEach [x] X.env).map (·.2) = [assign x X.env] := by rw [assign_cons (chkT_star ht)]; rfl
  refine PostR.out (body := fun D v H1 => weG X x v σ H1 D.nx) at0 (he sl σ A w at0.at_) (fun D q => ⟨_, ps_asg pe_we pg_we (swaps_no hn _ _ _) (hw _) h1, q⟩) fun z w1 v hz t1 l1 r1 => ?_
  cases z with
  | cl d =>
    cases hg : tgo t d sl with
    | none => simp only [hg]; trivial
    | some sl' =>
      simp only [hg]
      exact fun D q => ok_tgS C ht t1 r1.cl_of hg _ fun σ' A' t2 => q w1 σ' A' t2 (WLeS.refl _ _)
  | _ => trivial
/-- a, b = x, y by way of the stack -/
def parB (k : Ck) (x y : Str) (px py : Pos) (a b : Expr) : Bool :=
  decide (k.sc.names.lookup x = some .local) && decide (k.sc.names.lookup y = some .local) && decide (x ≠ y) && (py.line == px.line) && notStar a && notStar b && !([a, b].all (foldedForSure 8)) && !([a, b].all (constantsAlone 8))
theorem swapped_par {k : Ck} {x y : Str} {px py pt pt2 : Pos} {kt k2 : Nat} {a b : Expr} (h : parB k x y px py a b = true) {env : Env} (hs : env.scope = k.sc) (hk : env.scope.kind = .function) :
    swappedStores [.Tuple [.Name x px, .Name y py] kt pt] (.Tuple [a, b] k2 pt2) env = pure (some [x, y]) := by
  unfold parB at h
  simp only [Bool.and_eq_true, decide_eq_true_eq, Bool.not_eq_true'] at h
  obtain ⟨⟨⟨⟨⟨⟨⟨h1, h2⟩, h3⟩, h4⟩, h5⟩, h6⟩, h7⟩, h8⟩ := h
  have e1 : env.kindOf x = some .local := by show env.scope.names.lookup x = _; rw [hs]; exact h1
  have e2 : env.kindOf y = some .local := by show env.scope.names.lookup y = _; rw [hs]; exact h2
  have bk : env.blockKind = .function := by unfold Env.blockKind; rw [hk]; rfl
  have nd : ([x, y] : List Str).eraseDups.length = 2 := by
    simp [List.eraseDups_cons, Ne.symm h3]
  unfold swappedStores
  simp only [bk, e1, e2, h4, nd, h7, h8, List.length_cons, List.length_nil, List.filterMap_cons, List.filterMap_nil, List.head?_cons, Option.map_some, Option.getD_some, Expr.pos]
  have b1 : ((some NameKind.local : Option NameKind) == some NameKind.local) = true := rfl
  have b3 : (px.line == px.line) = true := beq_self_eq_true _
  simp only [b1, b3, Bool.and_self, if_true, nd, List.length_cons, List.length_nil]
  refine (if_neg ?_).trans ((if_neg ?_).trans ((if_neg ?_).trans ?_))
  · intro z; cases z
  · intro z
    simp only [List.any_cons, List.any_nil, Bool.or_false, Bool.or_eq_true] at z
    rcases z with z | z
    · cases a <;> first | (cases z; done) | (cases h5; done)
    · cases b <;> first | (cases z; done) | (cases h6; done)
  · intro z; cases z
  · rfl
end
end Mo
namespace Mo
open PySem PySem.Spec PyProof.Rows L2
section
variable {c : Calls} {k : Nat} {ck : Ck} {X : Cx} {Wx : WX} {e a b ix : Expr} {f g : Sl → R XV} {pos pos' : Pos}
theorem ok_par (C : SxOk c k ck X) {i j : Nat} {x y : Str} {px py pt pt2 : Pos} {kt k2 : Nat} (hi : ck.N[i]? = some x) (hj : ck.N[j]? = some y) (hb : parB ck x y px py a b = true) (ha : OkE X Wx a f) (hg : OkE X Wx b g) :
    OkS X Wx (.Assign [.Tuple [.Name x px, .Name y py] kt pt] (.Tuple [a, b] k2 pt2) pos) (fun sl => (f sl).out sl fun x => (g sl).out sl fun y => match x, y with
      | .cl d, .cl e => some (.nx ((sl.set i (.cl d)).set j (.cl e)))
      | _, _ => none) := by
  have hb' := hb
  unfold parB at hb'
  simp only [Bool.and_eq_true, decide_eq_true_eq, Bool.not_eq_true'] at hb'
  obtain ⟨⟨⟨⟨⟨⟨⟨h1, h2⟩, h3⟩, h4⟩, h5⟩, h6⟩, h7⟩, h8⟩ := hb'
  have hij : i ≠ j := fun z => by
    subst z
    rw [hi] at hj
    exact h3 (Option.some.inj hj)
  have P : PA X [a, b] (tCons (weE X a) (tCons (weE X b) tNil)) := pa_cons pe_we (pa_cons pe_we pa_nil (star_cons h6 _ _)) (star_cons h5 _ _)
  have Q0 := ps_par (pos := pos) (kt := kt) (k2 := k2) (pt := pt) (pt2 := pt2) C.x.calm C.x.nd (by rw [C.x.N]; exact hi) (by rw [C.x.N]; exact hj) hij (by rw [C.x.sc]; exact h1) (by rw [C.x.sc]; exact h2) P (swapped_par hb C.x.sc C.kind)
  intro B sl σ A w t
  refine PostR.out (body := fun D v H1 => weE X b σ H1 fun u H2 => ∃ v' w', [v, u] = [v', w'] ∧ D.nx ((σ.set i (some v')).set j (some w')) H2) t (ha sl σ A w t.at_) (fun D q => ⟨_, Q0, q⟩) fun z w1 v hz t1 l1 r1 => ?_
  refine PostR.out (body := fun D u H2 => ∃ v' w', [v, u] = [v', w'] ∧ D.nx ((σ.set i (some v')).set j (some w')) H2) t1 (hg sl σ A w1 t1.at_) (fun D q => q) fun z' w2 u hz' t2 l2 r2 => ?_
  cases z with
  | cl d =>
    cases z' with
    | cl d' =>
      obtain ⟨A3, t3⟩ := t2.setCl (r1.mono l2).cl_of i
      obtain ⟨A4, t4⟩ := t3.setCl r2.cl_of j
      exact fun D q => ⟨v, u, rfl, q w2 _ A4 t4 (WLeS.refl _ _)⟩
    | _ => trivial
  | _ => trivial
/-! ### an own object is changed -/
/-- the slots behind a change of what slot i owns -/
theorem SlR.upd {K : PySem.W.Frag} {w w2 : Wd} (hF : Ex w.F w2.F) (hG : Ex w.G w2.G) : ∀ {sl : Sl} {σ : L2.St} {A : List Addr} {i : Nat} {m : MO}, SlR K w sl σ A → sl[i]? = some (.ow m) → A.Nodup →
    ∃ v B, σ[i]? = some (some v) ∧ ORep K w.F w.H m v B ∧ (∀ a ∈ B, a ∈ A) ∧ ∀ m' B', ORep K w2.F w2.H m' v B' → B'.Nodup → (∀ a ∈ A, a ∉ B → ∀ o, w.H a = some o → w2.H a = some o) → (∀ a ∈ B', a ∈ B ∨ a ∉ A) →
      ∃ A', SlR K w2 (sl.set i (.ow m')) σ A' ∧ A'.Nodup ∧ ∀ a ∈ A', a ∈ A ∨ a ∈ B'
  | [], _, _, _, _, _, h, _ => by simp at h
  | s :: r, _, _, 0, m, ⟨o, σ', A1, A2, e1, e2, e3, e4⟩, h, nd => by
    simp at h; subst h
    subst e1 e4
    obtain ⟨v, rfl, o⟩ := e2
    have nd' := List.nodup_append.mp nd
    refine ⟨v, A1, rfl, o, fun a ha => List.mem_append_left _ ha, fun m' B' o' n' hk hd => ?_⟩
    have rest : SlR K w2 r σ' A2 := by
      have go : ∀ {sl : Sl} {σ : L2.St} {A : List Addr}, SlR K w sl σ A → (∀ a ∈ A, ∀ o, w.H a = some o → w2.H a = some o) → SlR K w2 sl σ A := by
        intro sl
        induction sl with
        | nil => exact fun h _ => h
        | cons s r ih =>
          rintro σ A ⟨o, σ', A1, A2, e1, e2, e3, e4⟩ hk
          subst e4
          refine ⟨o, σ', A1, A2, e1, ?_, ih e3 (fun a ha => hk a (List.mem_append_right _ ha)), rfl⟩
          cases s with
          | no => exact e2
          | cl d => obtain ⟨v, e1, e2, e3⟩ := e2; exact ⟨v, e1, e2.mono hF, e3⟩
          | lk m => obtain ⟨v, B, e1, e2, e3⟩ := e2; exact ⟨v, B, e1, e2.mono hF (fun a _ o q => hG a o q), e3⟩
          | ow m => obtain ⟨v, e1, e2⟩ := e2; exact ⟨v, e1, e2.mono hF (fun a ha o q => hk a (List.mem_append_left _ ha) o q)⟩
      exact go e3 fun a ha o q => hk a (List.mem_append_right _ ha) (fun z => nd'.2.2 a z a ha rfl) o q
    refine ⟨B' ++ A2, ⟨some v, σ', B', A2, rfl, ⟨v, rfl, o'⟩, rest, rfl⟩, ?_, fun a ha => ?_⟩
    · rw [List.nodup_append]
      refine ⟨n', nd'.2.1, fun a ha b hb => ?_⟩
      rintro rfl
      rcases hd a ha with z | z
      · exact nd'.2.2 a z a hb rfl
      · exact z (List.mem_append_right _ hb)
    · rcases List.mem_append.mp ha with z | z
      · exact .inr z
      · exact .inl (List.mem_append_right _ z)
  | s :: r, _, _, i + 1, m, ⟨o, σ', A1, A2, e1, e2, e3, e4⟩, h, nd => by
    subst e1 e4
    have nd' := List.nodup_append.mp nd
    obtain ⟨v, B, h1, h2, h3, h4⟩ := SlR.upd hF hG (i := i) e3 (by simpa using h) nd'.2.1
    refine ⟨v, B, by simpa using h1, h2, fun a ha => List.mem_append_right _ (h3 a ha), fun m' B' o' n' hk hd => ?_⟩
    obtain ⟨A', p1, p2, p3⟩ := h4 m' B' o' n' (fun a ha => hk a (List.mem_append_right _ ha)) (fun a ha => (hd a ha).imp id fun z q => z (List.mem_append_right _ q))
    have hs : SvR K w2 s o A1 := by
      cases s with
      | no => exact e2
      | cl d => obtain ⟨v, e1, e2, e3⟩ := e2; exact ⟨v, e1, e2.mono hF, e3⟩
      | lk m => obtain ⟨v, B, e1, e2, e3⟩ := e2; exact ⟨v, B, e1, e2.mono hF (fun a _ o q => hG a o q), e3⟩
      | ow m => obtain ⟨v, e1, e2⟩ := e2; exact ⟨v, e1, e2.mono hF (fun a ha o q => hk a (List.mem_append_left _ ha) (fun z => nd'.2.2 a ha a (h3 a z) rfl) o q)⟩
    refine ⟨A1 ++ A', ⟨o, σ', A1, A', rfl, hs, p1, rfl⟩, ?_, fun a ha => ?_⟩
    · rw [List.nodup_append]
      refine ⟨nd'.1, p2, fun a ha b hb => ?_⟩
      rintro rfl
      rcases p3 a hb with z | z
      · exact nd'.2.2 a ha a z rfl
      · rcases hd a z with y | y
        · exact nd'.2.2 a ha a (h3 a y) rfl
        · exact y (List.mem_append_left _ ha)
    · rcases List.mem_append.mp ha with z | z
      · exact .inl (List.mem_append_left _ z)
      · rcases p3 a z with y | y
        · exact .inl (List.mem_append_right _ y)
        · exact .inr y
/-- the place behind a change of the object at p -/
def Wd.put (w : Wd) (p : Addr) (o : HO) : Wd := ⟨w.F, w.G, upd w.H p o⟩
theorem Wd.put_ok {w : Wd} (k : WOk w) {p : Addr} {o : HO} (n : w.G p = none) : WOk (w.put p o) := ⟨k.fg, k.gh.mut n⟩
theorem own_put {w : Wd} {p : Addr} {o : HO} {A : List Addr} (h : ∀ a ∈ A, w.G a = none ∧ ∀ o u, w.H a ≠ some (.frz o u)) (hf : ∀ o' u, o ≠ .frz o' u) : ∀ a ∈ A, (w.put p o).G a = none ∧ ∀ o' u, (w.put p o).H a ≠ some (.frz o' u) := fun a ha => by
  refine ⟨(h a ha).1, fun o' u q => ?_⟩
  have q' : upd w.H p o a = some (.frz o' u) := q
  by_cases e : a = p
  · subst e; rw [upd_same] at q'; exact hf o' u (Option.some.inj q')
  · rw [upd_ne e] at q'; exact (h a ha).2 o' u q'
theorem rd_own {w : Wd} {a : Addr} {u : HO} (h : Rd w.H a u) (n : ∀ o u, w.H a ≠ some (.frz o u)) : w.H a = some u := by
  rcases h with h | ⟨o, h⟩
  · exact h
  · exact absurd h (n _ _)
/-- slot i's list is changed: its items told anew -/
theorem AtS.chg {K : PySem.W.Frag} {B : Addr → Prop} {sl : Sl} {σ : L2.St} {A : List Addr} {w : Wd} (t : AtS K B sl σ A w) {i : Nat} {ms : List MO} (hi : sl[i]? = some (.ow (.lst ms))) :
    ∃ p vs C, σ[i]? = some (some (.ref p)) ∧ w.H p = some (.lst vs) ∧ w.G p = none ∧ ORepL K w.F w.H ms vs C ∧ (∀ a ∈ C, a ∈ A ∧ a ≠ p) ∧ C.Nodup ∧
      ∀ ms' vs' C', ORepL K w.F w.H ms' vs' C' → C'.Nodup → (∀ a ∈ C', a ∈ C ∨ (a ∉ A ∧ ¬ B a ∧ w.G a = none ∧ ∀ o u, w.H a ≠ some (.frz o u))) → ∃ A', AtS K B (sl.set i (.ow (.lst ms'))) σ A' (w.put p (.lst vs')) ∧ WLeS B w (w.put p (.lst vs')) := by
  obtain ⟨v, B0, h1, h2, h3, _⟩ := SlR.upd (w2 := w) (.refl _) (.refl _) t.at_.sl hi t.at_.ow.nd
  obtain ⟨p, vs, C, rfl, rd, ro, rfl⟩ := h2
  have pA : p ∈ A := h3 p List.mem_cons_self
  have hp := rd_own rd (t.at_.ow.no p pA).2
  have gp := (t.at_.ow.no p pA).1
  obtain ⟨v', B1, g1, g2, g3, g4⟩ := SlR.upd (w := w) (w2 := w) (.refl _) (.refl _) t.at_.sl hi t.at_.ow.nd
  -- what slot i owns is told without doubt: its own part is free of doubles
  have ndB : (p :: C).Nodup := by
    have key : ∀ {sl : Sl} {σ : L2.St} {A : List Addr} {i : Nat} {m : MO}, SlR K w sl σ A → sl[i]? = some (.ow m) → A.Nodup → ∃ v B, σ[i]? = some (some v) ∧ ORep K w.F w.H m v B ∧ B.Nodup := by
      intro sl
      induction sl with
      | nil => intro σ A i m _ h; simp at h
      | cons s r ih =>
        rintro σ A i m ⟨o, σ', A1, A2, e1, e2, e3, e4⟩ h nd
        subst e1 e4
        have nd' := List.nodup_append.mp nd
        cases i with
        | zero =>
          simp at h; subst h
          obtain ⟨v, rfl, o⟩ := e2
          exact ⟨v, A1, rfl, o, nd'.1⟩
        | succ i =>
          obtain ⟨v, B, q1, q2, q3⟩ := ih e3 (by simpa using h) nd'.2.1
          exact ⟨v, B, by simpa using q1, q2, q3⟩
    obtain ⟨v2, B2, q1, q2, q3⟩ := key t.at_.sl hi t.at_.ow.nd
    rw [h1] at q1
    cases q1
    obtain ⟨p2, vs2, C2, e1, rd2, ro2, rfl⟩ := q2
    cases e1
    have hp2 := rd_own rd2 (t.at_.ow.no p pA).2
    rw [hp] at hp2
    cases hp2
    have same : C = C2 := ORepL.addrs ro ro2
    rw [same]
    exact q3
  have ndC := List.nodup_cons.mp ndB
  refine ⟨p, vs, C, h1, hp, gp, ro, fun a ha => ⟨h3 a (List.mem_cons_of_mem _ ha), fun z => ndC.1 (z ▸ ha)⟩, ndC.2, fun ms' vs' C' ro' nd' hC' => ?_⟩
  have pC' : p ∉ C' := fun z => by
    rcases hC' p z with y | y
    · exact ndC.1 y
    · exact y.1 pA
  obtain ⟨v3, B3, k1, k2, k3, k4⟩ := SlR.upd (w := w) (w2 := w.put p (.lst vs')) (.refl _) (.refl _) t.at_.sl hi t.at_.ow.nd
  rw [h1] at k1
  cases k1
  obtain ⟨p3, vs3, C3, e1, rd3, ro3, rfl⟩ := k2
  cases e1
  have hp3 := rd_own rd3 (t.at_.ow.no p pA).2
  rw [hp] at hp3
  cases hp3
  have same : C = C3 := ORepL.addrs ro ro3
  subst same
  obtain ⟨A', p1, p2, p4⟩ := k4 (.lst ms') (p :: C') ⟨p, vs', C', rfl, .inl upd_same, ro'.mono (.refl _) (fun a ha o q => by
      show upd w.H p (.lst vs') a = some o
      rw [upd_ne (by rintro rfl; exact pC' ha)]; exact q), rfl⟩ (List.nodup_cons.mpr ⟨pC', nd'⟩) (fun a ha hb o q => by
      show upd w.H p (.lst vs') a = some o
      rw [upd_ne (by rintro rfl; exact hb List.mem_cons_self)]; exact q) (fun a ha => by
      rcases List.mem_cons.mp ha with z | z
      · subst z; exact .inl List.mem_cons_self
      · rcases hC' a z with y | y
        · exact .inl (List.mem_cons_of_mem _ y)
        · exact .inr y.1)
  have noA : ∀ a ∈ A', w.G a = none ∧ ∀ o u, w.H a ≠ some (.frz o u) := fun a ha => by
    rcases p4 a ha with z | z
    · exact t.at_.ow.no a z
    · rcases List.mem_cons.mp z with y | y
      · subst y; exact t.at_.ow.no a pA
      · rcases hC' a y with x | x
        · exact t.at_.ow.no a (h3 a (List.mem_cons_of_mem _ x))
        · exact x.2.2
  refine ⟨A', ⟨⟨Wd.put_ok t.at_.ok gp, p1, p2, own_put noA (by intro _ _ z; cases z)⟩, fun a ha => ?_, t.bg⟩, ⟨.refl _, .refl _, fun _ _ h => h⟩⟩
  rcases p4 a ha with z | z
  · exact t.nb a z
  · rcases List.mem_cons.mp z with y | y
    · subst y; exact t.nb a pA
    · rcases hC' a y with x | x
      · exact t.nb a (h3 a (List.mem_cons_of_mem _ x))
      · exact x.2.1
/-! ### xs.append(e), xs[i] = e -/
theorem pe_slot (C : CxOk c k ck X) {i : Nat} {x : Str} (hN : ck.N[i]? = some x) (hv : visB ck.sc x = true) (hn : nameOk x = true) : PE X (.Name x pos) (tVar i) :=
  pe_var (by rw [C.N]; exact hN) (visB_ok (by rw [C.sc]; exact hv)) (nameOk_d hn).1 (nameOk_d hn).2.1
theorem ORepL.set {K : PySem.W.Frag} {F H : Hp} {d : D} {v : V} (h : Rep K F d v) : ∀ {ms : List MO} {vs : List V} {C : List Addr} {j : Nat} {d0 : D}, ORepL K F H ms vs C → ms[j]? = some (.cl d0) → ORepL K F H (ms.set j (.cl d)) (vs.set j v) C
  | [], _, _, _, _, _, q => by simp at q
  | _ :: _, _, _, 0, _, ⟨w, r, A1, A2, e1, e2, e3, e4⟩, q => by
    simp at q; subst q
    obtain ⟨_, z⟩ := e2
    exact ⟨v, r, A1, A2, by rw [e1]; rfl, ⟨h, z⟩, e3, e4⟩
  | _ :: _, _, _, j + 1, _, ⟨w, r, A1, A2, e1, e2, e3, e4⟩, q => ⟨w, r.set j v, A1, A2, by rw [e1]; rfl, e2, ORepL.set h (j := j) e3 (by simpa using q), e4⟩
theorem ok_app (C : SxOk c k ck X) {i : Nat} {x at0 : Str} {p2 apos cpos : Pos} (hN : ck.N[i]? = some x) (hv : visB ck.sc x = true) (hn : nameOk x = true) (hat : at0 = "append") (hs : notStar e = true) (hl : (apos.endLine == cpos.line) = true) (he : OkE X Wx e f) :
    OkS X Wx (.Expr (.Call (.Attribute (.Name x p2) at0 apos) [e] [] cpos) pos) (fun sl => match sl[i]? with
      | some (.ow (.lst ms)) => (f sl).out sl (appF sl i ms)
      | _ => none) := by
  subst hat
  intro B sl σ A w t
  cases hi : sl[i]? with
  | none => simp only [hi]; trivial
  | some s =>
    cases s with
    | ow m =>
      cases m with
      | lst ms =>
        simp only [hi]
        have P : PE X (.Call (.Attribute (.Name x p2) "append" apos) [e] [] cpos) _ := pe_bm (T := "list") PySem.F.plainAttrs_list PySem.F.slot_list_append PySem.F.type_list_append mt_append (pe_slot C.x hN hv hn) (pa_cons pe_we pa_nil (star_cons hs _ _)) rfl
          (by rw [star_cons hs]; rfl) hl (star_cons hs _ _) rfl
        obtain ⟨p, vs, Cc, h1, h2, h3, h4, h5, h6, _⟩ := t.chg hi
        refine PostR.out (body := fun D y H1 => rAppend (.ref p) [y] H1 fun _ H2 => D.nx σ H2) t (he sl σ A w t.at_) (fun D q => ⟨_, ps_expr P, .ref p, h1, .inl ⟨rfl, vs, SqL.of h2⟩, q⟩) fun z w1 v hz t1 l1 r1 => ?_
        obtain ⟨p1, vs1, C1, g1, g2, g3, g4, g5, g6, g7⟩ := t1.chg hi
        rw [h1] at g1
        cases g1
        have fin : ∀ (m' : MO) (C2 : List Addr), ORep X.K w1.F w1.H m' v C2 → C2.Nodup → (∀ a ∈ C2, a ∉ A ∧ ¬ B a ∧ w1.G a = none ∧ ∀ o u, w1.H a ≠ some (.frz o u)) → ms.length < sizeLine →
            PostS X.K Wx B w1 (some (.nx (sl.set i (.ow (.lst (ms ++ [m'])))))) (fun D => rAppend (.ref p) [v] w1.H fun _ H2 => D.nx σ H2) := fun m' C2 o nd no hlen D q => by
          obtain ⟨A', t2, l2⟩ := g7 (ms ++ [m']) (vs1 ++ [v]) (C1 ++ C2) (g4.append ⟨v, [], C2, [], rfl, o, ⟨rfl, rfl⟩, by simp⟩) (by
            rw [List.nodup_append]
            exact ⟨g6, nd, fun a ha b hb z => by subst z; exact (no a hb).1 (g5 a ha).1⟩) (fun a ha => by
            rcases List.mem_append.mp ha with z | z
            · exact .inl z
            · exact .inr (no a z))
          exact ⟨p, vs1, v, rfl, rfl, g2, by rw [← g4.length]; exact hlen, q _ σ A' t2 l2⟩
        cases z with
        | cl d =>
          unfold appF
          by_cases hl : ms.length < sizeLine
          · simp only [hl, if_true]
            exact fin (.cl d) [] ⟨r1.cl_of, rfl⟩ List.nodup_nil (fun a h => absurd h (by simp)) hl
          · simp only [hl, if_false]; trivial
        | nw m =>
          unfold appF
          by_cases hl : ms.length < sizeLine
          · simp only [hl, if_true]
            obtain ⟨C2, r2, r3, r4⟩ := r1
            exact fin m C2 r2 r3.nd (fun a ha => ⟨fun z => r4 a ha (t.at_.sl.there a z), fun z => r4 a ha (t.oldB a z), r3.no a ha⟩) hl
          · simp only [hl, if_false]; trivial
        | lk m => trivial
        | tm m => trivial
      | _ => simp only [hi]; trivial
    | _ => simp only [hi]; trivial
theorem ok_sti (C : SxOk c k ck X) {i : Nat} {x : Str} {p2 p3 : Pos} (hN : ck.N[i]? = some x) (hv : visB ck.sc x = true) (hn : nameOk x = true) (hx : plainIx ix = true) (hc : notComp e = true) (hw : plainRhs (.Subscript (.Name x p2) ix p3) e = true) (he : OkE X Wx e f) (hk : OkE X Wx ix g) :
    OkS X Wx (.Assign [.Subscript (.Name x p2) ix p3] e pos) (fun sl => match sl[i]? with
      | some (.ow (.lst ms)) => (f sl).out sl fun x => (g sl).out sl fun y => stiF sl i ms x y
      | _ => none) := by
  intro B sl σ A w t
  cases hi : sl[i]? with
  | none => simp only [hi]; trivial
  | some s =>
    cases s with
    | ow m =>
      cases m with
      | lst ms =>
        simp only [hi]
        have P : PG X (.Subscript (.Name x p2) ix p3) _ := pg_sub (pe_slot C.x hN hv hn) pe_we set_list (by
          intro v
          cases ix <;> first | rfl | (cases hx; done))
        have S := ps_asg (pos := pos) (pe_we (X := X) (e := e)) P (show swapsWithSole [.Subscript (.Name x p2) ix p3] e pos.line X.env = pure false from swaps_no hc (some (.Subscript (.Name x p2) ix p3)) pos.line X.env) (swapped_none hw _) rfl
        obtain ⟨p, vs, Cc, h1, h2, h3, h4, h5, h6, _⟩ := t.chg hi
        refine PostR.out (body := fun D v H1 => ∃ u, σ[i]? = some (some u) ∧ weE X ix σ H1 fun y H2 => rSetL u y v H2 fun H3 => D.nx σ H3) t (he sl σ A w t.at_) (fun D q => ⟨_, S, q⟩) fun z w1 v hz t1 l1 r1 => ?_
        refine PostR.out (body := fun D y H2 => rSetL (.ref p) y v H2 fun H3 => D.nx σ H3) t1 (hk sl σ A w1 t1.at_) (fun D q => ⟨.ref p, h1, q⟩) fun z2 w2 y hz2 t2 l2 r2 => ?_
        unfold stiF
        cases z2 with
        | cl d2 =>
          cases d2 with
          | int n =>
            cases z with
            | cl d =>
              simp only
              cases hj : ixN ms.length n with
              | none => trivial
              | some j =>
                simp only
                cases hm : ms[j]? with
                | none => trivial
                | some m0 =>
                  cases m0 with
                  | cl d0 =>
                    obtain ⟨p1, vs1, C1, g1, g2, g3, g4, g5, g6, g7⟩ := t2.chg hi
                    rw [h1] at g1
                    cases g1
                    have rv := (r1.mono l2).cl_of
                    obtain ⟨A', t3, l3⟩ := g7 (ms.set j (.cl d)) (vs1.set j v) C1 (ORepL.set rv g4 hm) g6 (fun a ha => .inl ha)
                    exact fun D q => ⟨p, vs1, n, j, rfl, r2.cl_of, g2, by rw [← g4.length]; exact hj, q _ σ A' t3 l3⟩
                  | _ => trivial
            | _ => trivial
          | _ => trivial
        | _ => trivial
      | _ => simp only [hi]; trivial
    | _ => simp only [hi]; trivial
end
end Mo
namespace Mo
open PySem PySem.Spec PyProof.Rows L2
section
variable {c : Calls} {k : Nat} {ck : Ck} {X : Cx} {Wx : WX} {e a b ix : Expr} {f g : Sl → R XV} {h h' : Sl → RO} {pos pos' : Pos} {xs ys : List Stmt} {st : Stmt}
/-! ### blocks -/
theorem okSs_nil : OkSs X Wx [] (fun sl => some (.nx sl)) := fun B sl σ A w t D q => ⟨_, pss_nil, q w σ A t (WLeS.refl _ _)⟩
theorem okSs_cons (h1 : OkS X Wx st h) (h2 : OkSs X Wx xs h') : OkSs X Wx (st :: xs) (fun sl => seqO (h sl) h') := by
  intro B sl σ A w t
  have q1 := h1 B sl σ A w t
  show PostS _ _ _ _ (seqO (h sl) h') _
  cases ho : h sl with
  | none => trivial
  | some o =>
    rw [ho] at q1
    cases o with
    | nx s1 =>
      show PostS _ _ _ _ (h' s1) _
      have q2 := fun w1 σ1 A1 (t1 : AtS X.K B s1 σ1 A1 w1) (l1 : WLeS B w w1) => (h2 B s1 σ1 A1 w1 t1).from l1
      have go : ∀ D : Ends, (∀ w1 σ1 A1, AtS X.K B s1 σ1 A1 w1 → WLeS B w w1 → weSs X xs D σ1 w1.H) → weSs X (st :: xs) D σ w.H := fun D q =>
        ⟨_, pss_cons ps_we pss_we, q1 { D with nx := weSs X xs D } q⟩
      cases ho2 : h' s1 with
      | none => trivial
      | some o2 =>
        rw [ho2] at q2
        cases o2 <;> exact fun D q => go D fun w1 σ1 A1 t1 l1 => q2 w1 σ1 A1 t1 l1 D q
    | bk s1 => exact fun D q => ⟨_, pss_cons ps_we pss_we, q1 { D with nx := weSs X xs D } q⟩
    | ct s1 => exact fun D q => ⟨_, pss_cons ps_we pss_we, q1 { D with nx := weSs X xs D } q⟩
    | rt x => exact fun D q => ⟨_, pss_cons ps_we pss_we, q1 { D with nx := weSs X xs D } q⟩
    | ex ex s1 => exact fun D q => ⟨_, pss_cons ps_we pss_we, q1 { D with nx := weSs X xs D } q⟩
/-- what slot i owns stands for ever: no text of its own -/
theorem okSs_frz {i : Nat} (h2 : OkSs X Wx xs h') : OkSs X Wx xs (fun sl => seqO (frzF sl i) h') := by
  intro B sl σ A w t
  show PostS _ _ _ _ (seqO (frzF sl i) h') _
  unfold frzF
  cases hi : sl[i]? with
  | none => trivial
  | some s =>
    cases s with
    | ow m =>
      show PostS _ _ _ _ (h' (sl.set i (.cl m.toD))) _
      -- the slot's part
      have key : ∀ {sl : Sl} {σ : L2.St} {A : List Addr} {i : Nat}, SlR X.K w sl σ A → sl[i]? = some (.ow m) → A.Nodup → ∃ v C, σ[i]? = some (some v) ∧ ORep X.K w.F w.H m v C ∧ (∀ a ∈ C, a ∈ A) ∧ (Ex w.F (w.frz C).F → Ex w.G (w.frz C).G → Rep X.K (w.frz C).F m.toD v → ∃ A', SlR X.K (w.frz C) (sl.set i (.cl m.toD)) σ A' ∧ A'.Nodup ∧ ∀ a ∈ A', a ∈ A ∧ a ∉ C) := by
        intro sl
        induction sl with
        | nil => intro σ A i _ h; simp at h
        | cons s r ih =>
          rintro σ A i ⟨o, σ', A1, A2, e1, e2, e3, e4⟩ h nd
          subst e1 e4
          have nd' := List.nodup_append.mp nd
          have keep : ∀ {C : List Addr} {s : SV} {o : Option V} {A1 : List Addr}, SvR X.K w s o A1 → Ex w.F (w.frz C).F → Ex w.G (w.frz C).G → SvR X.K (w.frz C) s o A1 := fun {C s o A1} e2 eF eG => by
            cases s with
            | no => exact e2
            | cl d => obtain ⟨v, e1, e2, e3⟩ := e2; exact ⟨v, e1, e2.mono eF, e3⟩
            | lk m => obtain ⟨v, B, e1, e2, e3⟩ := e2; exact ⟨v, B, e1, e2.mono eF (fun a _ o q => eG a o q), e3⟩
            | ow m => obtain ⟨v, e1, e2⟩ := e2; exact ⟨v, e1, e2.mono eF (fun a _ o q => q)⟩
          cases i with
          | zero =>
            simp at h; subst h
            obtain ⟨v, rfl, o⟩ := e2
            refine ⟨v, A1, rfl, o, fun a ha => List.mem_append_left _ ha, fun eF eG rr => ⟨A2, ⟨some v, σ', [], A2, rfl, ⟨v, rfl, rr, rfl⟩, ?_, rfl⟩, nd'.2.1, fun a ha => ⟨List.mem_append_right _ ha, fun z => nd'.2.2 a z a ha rfl⟩⟩⟩
            have go : ∀ {sl : Sl} {σ : L2.St} {A : List Addr}, SlR X.K w sl σ A → SlR X.K (w.frz A1) sl σ A := by
              intro sl
              induction sl with
              | nil => exact fun h => h
              | cons s r ih =>
                rintro σ A ⟨o, σ', B1, B2, e1, e2, e3, e4⟩
                exact ⟨o, σ', B1, B2, e1, keep e2 eF eG, ih e3, e4⟩
            exact go e3
          | succ i =>
            obtain ⟨v, C, q1, q2, q3, q4⟩ := ih e3 (by simpa using h) nd'.2.1
            refine ⟨v, C, by simpa using q1, q2, fun a ha => List.mem_append_right _ (q3 a ha), fun eF eG rr => ?_⟩
            obtain ⟨A', p1, p2, p3⟩ := q4 eF eG rr
            refine ⟨A1 ++ A', ⟨o, σ', A1, A', rfl, keep e2 eF eG, p1, rfl⟩, ?_, fun a ha => ?_⟩
            · rw [List.nodup_append]
              exact ⟨nd'.1, p2, fun a ha b hb z => by subst z; exact nd'.2.2 a ha a (p3 a hb).1 rfl⟩
            · rcases List.mem_append.mp ha with z | z
              · exact ⟨List.mem_append_left _ z, fun y => nd'.2.2 a z a (q3 a y) rfl⟩
              · exact ⟨List.mem_append_right _ (p3 a z).1, (p3 a z).2⟩
      obtain ⟨v, C, q1, q2, q3, q4⟩ := key t.at_.sl hi t.at_.ow.nd
      have no : ∀ a ∈ C, w.G a = none := fun a ha => (t.at_.ow.no a (q3 a ha)).1
      have eF := Wd.frz_f t.at_.ok no
      have eG := Wd.frz_g t.at_.ok no
      obtain ⟨A', p1, p2, p3⟩ := q4 eF eG (ORep.rep eF q2 fun a ha o z => Wd.frz_at ha z)
      have t2 : AtS X.K B (sl.set i (.cl m.toD)) σ A' (w.frz C) := ⟨⟨Wd.frz_ok t.at_.ok C, p1, p2, fun a ha => ⟨Wd.frz_no (p3 a ha).2 (t.at_.ow.no a (p3 a ha).1).1, (t.at_.ow.no a (p3 a ha).1).2⟩⟩, fun a ha => t.nb a (p3 a ha).1, fun a b => ex_some eG (t.bg a b)⟩
      exact (h2 B _ σ A' (w.frz C) t2).from ⟨eF, eG, fun a ba q => Wd.frz_noF (fun z => t.nb a (q3 a z) ba) q⟩
    | _ => trivial
theorem ok_pas : OkS X Wx (.Pass pos) (fun sl => some (.nx sl)) := fun B sl σ A w t D q => ⟨_, ps_pass, q w σ A t (WLeS.refl _ _)⟩
theorem ok_brk : OkS X Wx (.Break pos) (fun sl => some (.bk sl)) := fun B sl σ A w t D q => ⟨_, ps_break, q w σ A t (WLeS.refl _ _)⟩
theorem ok_cnt : OkS X Wx (.Continue pos) (fun sl => some (.ct sl)) := fun B sl σ A w t D q => ⟨_, ps_continue, q w σ A t (WLeS.refl _ _)⟩
theorem ok_retn : OkS X Wx (.Return none pos) (fun _ => some (.rt (.cl .non))) := fun B sl σ A w t D q => ⟨_, ps_retN, q w .non t.at_.ok (WLeS.refl _ _) t.bg (XRep.cl rfl)⟩
theorem ok_ret (he : OkE X Wx e f) : OkS X Wx (.Return (some e) pos) (fun sl => (f sl).out sl retF) := by
  intro B sl σ A w t
  refine PostR.out (body := fun D v H1 => D.rt v H1) t (he sl σ A w t.at_) (fun D q => ⟨_, ps_ret pe_we, q⟩) fun z w1 v hz t1 l1 r1 => ?_
  cases z with
  | cl d => exact fun D q => q w1 v t1.at_.ok (WLeS.refl _ _) t1.bg (r1.weak t.oldB)
  | nw m => exact fun D q => q w1 v t1.at_.ok (WLeS.refl _ _) t1.bg (r1.weak t.oldB)
  | _ => trivial
theorem ok_mv (C : SxOk c k ck X) {i : Nat} {x : Str} {p2 : Pos} (hN : ck.N[i]? = some x) (hv : visB ck.sc x = true) (hn : nameOk x = true) : OkS X Wx (.Return (some (.Name x p2)) pos) (fun sl => match sl[i]? with
    | some (.ow m) => some (.rt (.nw m))
    | _ => none) := by
  intro B sl σ A w t
  cases hi : sl[i]? with
  | none => simp only [hi]; trivial
  | some s =>
    cases s with
    | ow m =>
      simp only [hi]
      have key : ∀ {sl : Sl} {σ : L2.St} {A : List Addr} {i : Nat}, SlR X.K w sl σ A → sl[i]? = some (.ow m) → A.Nodup → ∃ v C, σ[i]? = some (some v) ∧ ORep X.K w.F w.H m v C ∧ (∀ a ∈ C, a ∈ A) ∧ C.Nodup := by
        intro sl
        induction sl with
        | nil => intro σ A i _ h; simp at h
        | cons s r ih =>
          rintro σ A i ⟨o, σ', A1, A2, e1, e2, e3, e4⟩ h nd
          subst e1 e4
          have nd' := List.nodup_append.mp nd
          cases i with
          | zero =>
            simp at h; subst h
            obtain ⟨v, rfl, o⟩ := e2
            exact ⟨v, A1, rfl, o, fun a ha => List.mem_append_left _ ha, nd'.1⟩
          | succ i =>
            obtain ⟨v, C, q1, q2, q3, q4⟩ := ih e3 (by simpa using h) nd'.2.1
            exact ⟨v, C, by simpa using q1, q2, fun a ha => List.mem_append_right _ (q3 a ha), q4⟩
      obtain ⟨v, C', q1, q2, q3, q4⟩ := key t.at_.sl hi t.at_.ow.nd
      exact fun D q => ⟨_, ps_ret (pe_slot C.x hN hv hn), v, q1, q w v t.at_.ok (WLeS.refl _ _) t.bg ⟨C', q2, ⟨q4, fun a ha => t.at_.ow.no a (q3 a ha)⟩, fun a ha => t.nb a (q3 a ha)⟩⟩
    | _ => simp only [hi]; trivial
/-! ### if -/
theorem out_tst {sl : Sl} (r : R XV) (F : Bool → RO) : (r.out sl fun x => match x.b with | some q => F q | none => none) = (tst r).out sl F := by
  cases r with
  | stuck => rfl
  | exc e => rfl
  | ok x =>
    show (match x.b with | some q => F q | none => none) = (R.of x.b).out sl F
    cases x.b <;> rfl
theorem ok_ifs (hc : OkT X Wx e f) (ha : OkSs X Wx xs h) (hb : OkSs X Wx ys h') : OkS X Wx (.If e xs ys pos) (fun sl => (tst (f sl)).out sl fun q => if q then h sl else h' sl) := by
  intro B sl σ A w t
  refine PostR.out (body := fun D q H1 => if q = true then weSs X xs D σ H1 else weSs X ys D σ H1) t (hc sl σ A w t.at_) (fun D q => ⟨_, ps_if pt_we pss_we pss_we, q⟩) fun q w1 v hz t1 l1 r1 => ?_
  subst r1
  cases q with
  | true => exact (ha B sl σ A w1 t1).imp fun D q => iteT q
  | false => exact (hb B sl σ A w1 t1).imp fun D q => iteF q
/-! ### while -/
/-- what a loop's turn leaves -/
def turnF (r : RO) (go : Sl → RO) : RO := match r with
  | some (.nx s') => go s'
  | some (.ct s') => go s'
  | some (.bk s') => some (.nx s')
  | r => r
/-- what is wanted of a whole loop -/
def Want (K : PySem.W.Frag) (Wx : WX) (B : Addr → Prop) (w0 : Wd) (o : Out) (D : Ends) : Prop := match o with
  | .nx sl => ∀ w' σ A, AtS K B sl σ A w' → WLeS B w0 w' → D.nx σ w'.H
  | .bk sl => ∀ w' σ A, AtS K B sl σ A w' → WLeS B w0 w' → D.bk σ w'.H
  | .ct sl => ∀ w' σ A, AtS K B sl σ A w' → WLeS B w0 w' → D.ct σ w'.H
  | .rt x => ∀ w' v, WOk w' → WLeS B w0 w' → (∀ a, B a → w'.G a ≠ none) → XRep K B w' x v → D.rt v w'.H
  | .ex e sl => ∀ w' σ A cls d, AtS K B sl σ A w' → WLeS B w0 w' → ExnR K w'.H e cls d → Wx cls d σ w'.H
theorem PostS.of {K : PySem.W.Frag} {B : Addr → Prop} {w : Wd} {r : RO} {T : Ends → Prop} (hh : ∀ o, r = some o → ∀ D, Want K Wx B w o D → T D) : PostS K Wx B w r T := by
  cases r with
  | none => trivial
  | some o => cases o <;> exact fun D q => hh _ rfl D q
theorem PostS.get {K : PySem.W.Frag} {B : Addr → Prop} {w : Wd} {r : RO} {T : Ends → Prop} (p : PostS K Wx B w r T) {o : Out} (hr : r = some o) {D : Ends} (q : Want K Wx B w o D) : T D := by
  subst hr
  cases o <;> exact p D q
theorem Want.from {K : PySem.W.Frag} {B : Addr → Prop} {w0 w : Wd} {o : Out} {D : Ends} (l : WLeS B w0 w) (h : Want K Wx B w0 o D) : Want K Wx B w o D := by
  cases o with
  | nx sl => exact fun w' σ A t l' => h w' σ A t (l.trans l')
  | bk sl => exact fun w' σ A t l' => h w' σ A t (l.trans l')
  | ct sl => exact fun w' σ A t l' => h w' σ A t (l.trans l')
  | rt x => exact fun w' v k l' bg r => h w' v k (l.trans l') bg r
  | ex e sl => exact fun w' σ A cls d t l' r => h w' σ A cls d t (l.trans l') r
/-- a turn: from what is wanted of the loop to what the body is to reach; N: the next turn's word -/
theorem turn_body {B : Addr → Prop} {sl : Sl} {σ : L2.St} {A : List Addr} {w w0 : Wd} {D : Ends} {N : L2.St → Hp → Prop} {go : Sl → RO} {o : Out} (hb : OkSs X Wx xs h) (t : AtS X.K B sl σ A w) (l : WLeS B w0 w) (hW : Want X.K Wx B w0 o D)
    (ho : turnF (h sl) go = some o) (hN : ∀ s' w' σ' A', AtS X.K B s' σ' A' w' → WLeS B w0 w' → go s' = some o → N σ' w'.H) : weSs X xs { D with nx := N, ct := N, bk := D.nx } σ w.H := by
  have p := hb B sl σ A w t
  cases hr : h sl with
  | none => rw [hr] at ho; cases ho
  | some o1 =>
    rw [hr] at ho
    cases o1 with
    | nx s' => exact p.get hr fun w' σ' A' t' l' => hN s' w' σ' A' t' (l.trans l') ho
    | ct s' => exact p.get hr fun w' σ' A' t' l' => hN s' w' σ' A' t' (l.trans l') ho
    | bk s' =>
      cases ho
      exact p.get hr fun w' σ' A' t' l' => hW w' σ' A' t' (l.trans l')
    | rt x =>
      cases ho
      exact p.get hr fun w' v k' l' bg r => hW w' v k' (l.trans l') bg r
    | ex e s' =>
      cases ho
      exact p.get hr fun w' σ' A' cls d t' l' r => hW w' σ' A' cls d t' (l.trans l') r
theorem loopN_tst (t : Sl → R XV) (bb : Sl → RO) (n : Nat) (sl : Sl) : loopN t bb (n + 1) sl = (tst (t sl)).out sl fun q => if q then turnF (bb sl) (loopN t bb n) else some (.nx sl) := by
  rw [← out_tst (t sl)]
  show ((t sl).out sl fun x => _) = _
  congr 1
  funext x
  cases x.b with
  | none => rfl
  | some q => cases q <;> rfl
theorem ok_whl (C : SxOk c k ck X) (hc : OkT X Wx e f) (hb : OkSs X Wx xs h) : OkS X Wx (.While e xs [] pos) (fun sl => whl f h sl) := by
  intro B sl0 σ0 A0 w0 t0
  refine PostS.of fun o ho D hW => ?_
  obtain ⟨n, hn⟩ := whl_some ho
  refine ⟨_, ps_while C.po pt_we pss_we, fun m σ H => ∃ sl A w, H = w.H ∧ AtS X.K B sl σ A w ∧ WLeS B w0 w ∧ loopN f h m sl = some o, ⟨n, sl0, A0, w0, rfl, t0, WLeS.refl _ _, hn⟩, ?_⟩
  rintro m σ H ⟨sl, A, w, rfl, t, l, hm⟩
  cases m with
  | zero => cases hm
  | succ m =>
    rw [loopN_tst] at hm
    have q := hc sl σ A w t.at_
    cases hf : tst (f sl) with
    | stuck => rw [hf] at hm; cases hm
    | exc ex =>
      rw [hf] at hm q
      cases hm
      exact q _ fun w' cls d k' l' er => hW w' σ A cls d (t.mono l' k') (l.trans (l'.s t)) er
    | ok b =>
      rw [hf] at hm q
      have hm' : (if b then turnF (h sl) (loopN f h m) else some (.nx sl)) = some o := hm
      refine q _ fun w' b' k' l' rb => ?_
      subst rb
      have t' := t.mono l' k'
      have l2 := l.trans (l'.s t)
      cases b with
      | false => cases hm'; exact iteF (hW w' σ A t' l2)
      | true =>
        refine iteT ⟨fun σ' H' => ∃ sl A w, H' = w.H ∧ AtS X.K B sl σ' A w ∧ WLeS B w0 w ∧ loopN f h m sl = some o, fun σ' H' z => ⟨m, Nat.lt_succ_self m, z⟩, ?_⟩
        exact turn_body hb t' l2 hW hm' fun s' w2 σ' A' t2 l3 hg => ⟨s', A', w2, rfl, t2, l3, hg⟩
/-! ### for -/
theorem forL_turn (gg : Mo.D → Sl → Option Sl) (bb : Sl → RO) (d : Mo.D) (ds : List Mo.D) (sl : Sl) : forL gg bb (d :: ds) sl = match gg d sl with
    | none => none
    | some s1 => turnF (bb s1) (forL gg bb ds) := by
  unfold forL
  cases gg d sl with
  | none => rfl
  | some s1 => cases hb : bb s1 with
    | none => rfl
    | some o => cases o <;> rfl
/-- a loop over items: the places, turn by turn -/
def ForP (X : Cx) (B : Addr → Prop) (w0 : Wd) (gg : Mo.D → Sl → Option Sl) (bb : Sl → RO) (ds : List Mo.D) (o : Out) (i : Nat) : L2.St → Hp → Prop := fun σ H => ∃ sl A w, H = w.H ∧ AtS X.K B sl σ A w ∧ WLeS B w0 w ∧ forL gg bb (ds.drop i) sl = some o
theorem folded_no {e : Expr} (h : notSet e = true) (env : Env) (x : Value) : foldedSetIterable e env x = pure x := by
  cases e <;> first | rfl | (cases h; done)
theorem ok_for (C : SxOk c k ck X) {tt : Tg} {x it : Expr} {r : Sl → R (List Mo.D)} (hs : notSet it = true) (hi : OkI X Wx it r) (ht : chkT ck.N (locB ck.sc) tt x = true) (hb : OkSs X Wx xs h) :
    OkS X Wx (.For x it xs [] pos) (fun sl => (r sl).out sl fun ds => forL (tgo tt) h ds sl) := by
  intro B sl0 σ0 A0 w0 t0
  refine PostS.of fun o ho D hW => ?_
  replace ho : (r sl0).out sl0 (fun ds => forL (tgo tt) h ds sl0) = some o := ho
  have q := hi x sl0 σ0 A0 w0 t0.at_
  cases hr : r sl0 with
  | stuck => rw [hr] at ho; cases ho
  | exc ex =>
    rw [hr] at ho q
    cases ho
    exact ⟨_, ps_for C.po C.x.calm pi_we pg_we pss_we (folded_no hs _), q _ fun w1 cls d k1 l1 er => hW w1 σ0 A0 cls d (t0.mono l1 k1) (l1.s t0) er⟩
  | ok ds =>
    rw [hr] at ho q
    have ho' : forL (tgo tt) h ds sl0 = some o := ho
    refine ⟨_, ps_for C.po C.x.calm pi_we pg_we pss_we (folded_no hs _), q _ fun w1 J k1 l1 G => ?_⟩
    have hW1 := hW.from (l1.s t0)
    refine ⟨fun i m σ H => m = ds.length - i ∧ i ≤ ds.length ∧ ForP X B w1 (tgo tt) h ds o i σ H, ⟨ds.length, rfl, Nat.zero_le _, sl0, A0, w1, rfl, t0.mono l1 k1, WLeS.refl _ _, ho'⟩, ?_⟩
    rintro i m σ H ⟨rfl, hil, sl, A, w, rfl, t, l, hf⟩
    rcases Nat.lt_or_ge i ds.length with hlt | hge
    · refine .inr ⟨G.go w t.at_.ok l.f i hlt, ForP X B w1 (tgo tt) h ds o (i + 1), fun σ' H' p => ⟨ds.length - (i + 1), by omega, rfl, hlt, p⟩, fun y H' hy => ?_⟩
      obtain ⟨w3, d, rfl, k3, l3, hd, r3⟩ := G.yld w t.at_.ok l.f i y H' hy hlt
      have hdrop : ds.drop i = d :: ds.drop (i + 1) := by
        rw [List.drop_eq_getElem_cons hlt]
        rw [List.getElem?_eq_getElem hlt] at hd
        cases hd; rfl
      rw [hdrop, forL_turn] at hf
      cases hg : tgo tt d sl with
      | none => rw [hg] at hf; cases hf
      | some s1 =>
        rw [hg] at hf
        have t3 := t.mono l3 k3
        have l13 := l.trans (l3.s t)
        refine ok_tgS C ht t3 r3 hg _ fun σ' A' t4 => ?_
        exact turn_body hb t4 l13 hW1 hf fun s' w5 σ5 A5 t5 l5 hg5 => ⟨s', A5, w5, rfl, t5, l5, hg5⟩
    · have e : i = ds.length := Nat.le_antisymm hil hge
      subst e
      rw [List.drop_length] at hf
      cases hf
      exact .inl ⟨G.stop w t.at_.ok l.f, hW1 w σ A t l⟩
/-! ### raise -/
theorem ok_rse (C : SxOk c k ck X) (tk : Takes X Wx) {x : Str} {m : Str} {j : Nat} {p2 p3 p4 : Pos} {nm : String} (hx : Str.ofString nm = x) (hg : glB ck.sc x = true) (hn : nameOk x = true)
    (hm : X.mg x = some (.ref (He.ga X.K x))) (h1 : PySem.W.excIn X.K (He.ga X.K x) He.veBase "ValueError.__new__" = true) (h2 : PySem.W.keepIn X.K (.ref (He.ga X.K x)) = true) (h3 : PySem.W.subIn X.K (.ref (He.ga X.K x)) (.type "BaseException") = some true) (h4 : PySem.W.typeIn X.K (.ref (He.ga X.K x)) = some (.type "type")) :
    OkS X Wx (.Raise (some (.Call (.Name x p2) [.Constant (.str m) j p3] [] p4)) none pos) (fun sl => some (.ex ⟨nm, []⟩ sl)) := by
  subst hx
  intro B sl σ A w t D q
  refine ⟨_, ps_raise C.x.calm tk (pmk_own PySem.F.excBase_ValueError h1 hm h2 (raises_own h3 h4) (glB_ok (by rw [C.x.sc]; exact hg)) (nameOk_d hn).1), ?_⟩
  exact q w σ A _ none t (WLeS.refl _ _) ⟨rfl, rfl, rfl⟩
end
end Mo
namespace Mo
open PySem PySem.Spec PyProof.Rows L2
/-! ### an exception that is caught and kept -/
section
variable {X : Cx} {pins : List (Addr × Obj)} {σ : L2.St} {H : Hp} {sI s4 : Shared} {a : Addr} {cls : Value}
/-- what is caught is held as a thing of its class -/
theorem track (J : Inv X pins σ H sI) (J4 : Inv X pins σ H s4) (ha : sI.heap.get? a = none) {oe : Obj} {vs : Array Value} (e : s4.heap.get? a = some oe) (z : Zc cls none oe) (dd : oe.data = .fields vs) (na : H a = none) (nL : a ≠ X.env.locals) : Inv X pins σ (upd H a (ExH cls a)) s4 := by
  have off : ∀ b, (∃ o, sI.heap.get? b = some o) → b ≠ a := fun b ⟨o, q⟩ w => by rw [w, ha] at q; cases q
  have offH : ∀ b o, H b = some o → b ≠ a := fun b o q w => by rw [w, na] at q; cases q
  have new : ObjOk X.prog X.w (upd H a (ExH cls a)) s4.heap a (ExH cls a) := ⟨⟨oe, vs, e, z, dd⟩, ⟨oe, e⟩, fun _ _ ⟨o, v, q, r⟩ k => ⟨o, v, k o q, r⟩⟩
  exact {
    ok := J4.ok
    os := J4.os
    bare := J4.bare
    base := {
      keep := J4.base.keep
      slot := J4.base.slot
      free := fun b o q n x => by rw [upd_ne (off b (J.base.there b o q x))]; exact J4.base.free b o q n x
      there := J4.base.there
      tups := fun b xs q => by have w := J4.base.tups b xs q; rw [upd_ne (offH b _ w)]; exact w
      frzs := fun b o u q => by have w := J4.base.frzs b o u q; rw [upd_ne (offH b _ w)]; exact w
      tbls := fun b ps q => by obtain ⟨m, w⟩ := J4.base.tbls b ps q; exact ⟨m, by rw [upd_ne (offH b _ w)]; exact w⟩ }
    loc := J4.loc
    cell := J4.cell
    free := by rw [upd_ne (Ne.symm nL)]; exact J4.free
    freeC := fun x c q => by
      obtain ⟨v, o, w, _⟩ := J.cell x c q
      rw [upd_ne (off c ⟨o, w⟩)]
      exact J4.freeC x c q
    pin := fun p hp => by
      obtain ⟨p1, p2, p3⟩ := J4.pin p hp
      exact ⟨p1, by rw [upd_ne (off p.1 ⟨_, (J.pin p hp).1⟩)]; exact p2, p3⟩
    hok := J4.hok.laidN (fun _ _ w => w) na new
    len := J4.len }
/-- into the suite, and out of it, with nothing pinned -/
theorem toSuite (I : Inv X pins σ H s4) (a : Addr) : Inv (X.suite a (X.pn ++ pins)) [] σ H s4 :=
  { ok := I.ok.suite _ _, os := I.os, bare := I.bare, base := I.base, loc := I.loc, cell := I.cell, free := I.free, freeC := I.freeC, pin := fun p hp => I.pin p (by rw [List.append_nil] at hp; exact hp), hok := I.hok, len := I.len }
theorem ofSuite {pn' : List (Addr × Obj)} (I : Inv (X.suite a (X.pn ++ pins)) pn' σ H s4) (ok : X.Ok) : Inv X pins σ H s4 :=
  { ok := ok, os := I.os, bare := I.bare, base := I.base, loc := I.loc, cell := I.cell, free := I.free, freeC := I.freeC, pin := fun p hp => I.pin p (List.mem_append_left _ hp), hok := I.hok, len := I.len }
end
/-- slot i goes -/
def endsX (i : Nat) (D : Ends) : Ends := { nx := fun σ' H' => D.nx (σ'.set i none) H', rt := D.rt, bk := fun σ' H' => D.bk (σ'.set i none) H', ct := fun σ' H' => D.ct (σ'.set i none) H' }
/-- what the clause wishes of an exception of the body, which is kept -/
def wKeep (K : PySem.W.Frag) (c : Value) (i : Nat) (ts : Addr → TS) (Wout : WX) (D : Ends) : WX := fun cls d σ H =>
  ∃ b, PySem.W.exmOne K cls c = some b ∧ (b = true → d = none ∧ ∀ a, H a = none → ts a (endsX i D) (σ.set i (some (.ref a))) (upd H a (ExH cls a))) ∧ (b = false → Wout cls d σ H)
section
variable {X : Cx} {x n : Str} {c : Value} {i : Nat} {body suite : List Stmt} {b₀ : Stmt} {np pos pos' : Pos} {tb : WX → TS} {ts : Addr → TS} {Wout : WX}
theorem ps_try_keep (hs : X.stack = X.env :: X.outer) (hf : X.env.frame = some X.env.locals) (hN : X.N.Nodup) (hi : X.N[i]? = some n) (hln : X.env.kindOf n = some .local) (hc : Names X x c) (tk : Takes X Wout)
    (hb : ∀ (W : WX) (pn : List (Addr × Obj)) (xe : Value → Shared → Prop), Takes (X.tr pn xe) W → PassesOwn (model X.prog X.w) X.A X.env xe → PSs (X.tr pn xe) body (tb W))
    (hsu : ∀ (a : Addr) (pn : List (Addr × Obj)), PSs (X.suite a pn) (b₀ :: suite) (ts a)) :
    PS X (.Try body [.ExceptHandler (some (.Name x np)) (some n) (b₀ :: suite) pos'] [] [] pos) (fun D σ H => tb (wKeep X.K c i ts Wout D) D σ H) := by
  constructor
  intro pins s σ H D I h
  have ok := I.ok
  have stk : X.A.frames = some (X.env :: X.outer) := by rw [← hs]; exact ok.frames
  apply wpAny_Try_except
  -- the body
  refine wpAny_mono ((hb (wKeep X.K c i ts Wout D) (X.pn ++ pins) _ (fun u s' caught => ?hdl) PassesOwn.looking).run [] s σ H D (I.toTry _) h) (fun f s1 done => ?thru) (fun e s1 he => he)
  case thru =>
    cases f with
    | ret u =>
      obtain ⟨v, σ', H', J', r, q⟩ := done
      exact ⟨v, σ', H', J'.ofTry ok, r, q⟩
    | brk => obtain ⟨σ', H', J', q⟩ := done; exact ⟨σ', H', J'.ofTry ok, q⟩
    | cont => obtain ⟨σ', H', J', q⟩ := done; exact ⟨σ', H', J'.ofTry ok, q⟩
    | next => obtain ⟨σ', H', J', q⟩ := done; exact wpAny_execs_nil ⟨σ', H', J'.ofTry ok, q⟩
  case hdl =>
    obtain ⟨a, B, sI, pins', σ', H', cls, d, rfl, J', old, up, sky, na, os, ag, b, hb1, yes, no⟩ := caught
    have J := J'.ofTry ok
    rw [hs] at sky
    refine Sky.land Zc.steady stk hf sky fun h3 fl up3 => ?_
    -- the exception is no frame, and was not there
    obtain ⟨o3, v3, q3, z3, d3⟩ := fl.there
    have noFrame : a ∉ frs (X.env :: X.outer) := fun m => by
      obtain ⟨_, o, w1, w2⟩ := fl.2.2.1.mem m
      rw [q3] at w1
      cases w1
      exact w2 _ d3
    have notL : a ≠ X.env.locals := fun w => noFrame (List.mem_filterMap.mpr ⟨X.env, List.mem_cons_self, by rw [hf, w]⟩)
    have notIn : sI.heap.get? a = none := by
      cases w : sI.heap.get? a with
      | none => rfl
      | some o =>
        have := old a o w (by rw [hs]; exact noFrame)
        rw [fl.2.1] at this
        cases this
    have J3 : Inv X pins σ' H' { s' with heap := h3 } := J.landed old fl.1 (up.trans up3) os ag
    refine wpAny_handleBy_cons (codeAny_handlers_test ?_) (by intro w; cases w)
    have says := PySem.W.exm_one (M := model X.prog X.w) J3.kIn (fun A Q E s k q => wpAny_typeOf_ref (k _ _ q3) (by rw [z3.1]; exact q)) hb1
    have look : ∀ {Q E : Value → Shared → Prop}, Q c { s' with heap := h3 } → wpAny (model X.prog X.w) (X.A.mark (some (.ref a))) (eval (.Name x np) X.env) Q E { s' with heap := h3 } := fun q => by
      rcases hc with ⟨g1, g2, g3 | ⟨g3, g4, g5⟩⟩
      · exact ld_glob (toSuite J3 a) g1 g3 q g2
      · exact ld_blt (toSuite J3 a) g1 g3 g4 q g5 g2
    refine look (says.here ?_)
    cases b with
    | false =>
      -- not this clause's
      apply wpAny_handleBy_nil
      obtain ⟨_, _, _, oe, vs, T, oT, ts', e1, _, e2, e3, _⟩ := id fl
      have fly : wpAny (model X.prog X.w) X.A (setFlight (.ref a) X.env.frame) (fun _ s4 => wpAny (model X.prog X.w) X.A (throw (.ref a) : Sem Flow) (SP X pins D) X.xe s4) X.xe { s' with heap := h3 } := by
        rw [hf]
        exact HandSPX.setFlight_upZ fl fun h4 held up4 => wpAny_throw (tk _ _ ⟨a, B, sI, pins, σ', H', cls, d, rfl, J, old, (up.trans up3).trans up4, .inr (.inr (by rw [hs]; exact held)), na, os, ag, no rfl⟩)
      unfold PySem.passOn
      refine wpAny_bind (wpAny_field e1 e2 e3 ?_)
      have nn : ¬ ((Value.ref T == Value.none) = true) := by simp
      rw [if_neg nn]
      first
        | exact wpAny_bind (wpAny_pure (wpAny_bind fly))
        | exact wpAny_bind fly
    | true =>
      obtain ⟨dn, go⟩ := yes rfl
      subst dn
      apply codeAny_handlers_suite_as
      refine HandSPX.lands_againZ fl fun h4 fl4 up4 => ?_
      obtain ⟨o4, v4, q4, z4, d4⟩ := fl4.there
      have J4 : Inv X pins σ' H' { s' with heap := h4 } := J.landed old fl4.1 ((up.trans up3).trans up4) os ag
      have J5 := track J J4 notIn (a := a) q4 z4 d4 na notL
      refine store_ok (X := X.suite a (X.pn ++ pins)) (toSuite J5 a) hN hi (v := .ref a) (.inl hln) rfl (fun s5 S5 => ?_) (.inr hln)
      have out : ∀ {σ6 : L2.St} {H6 : Hp} {s6 : Shared} {Q : Shared → Prop}, Inv (X.suite a (X.pn ++ pins)) [] σ6 H6 s6 → (∀ s7, Inv X pins (σ6.set i none) H6 s7 → Q s7) →
          wpAny (model X.prog X.w) X.A (do bindName X.env n .none; unbindBehindTheSuite X.env n pos') (fun _ s7 => Q s7) X.xe s6 := fun S6 q => gone_ok (ofSuite S6 ok) hN hi hln q
      refine wpAny_mono ((hsu a (X.pn ++ pins)).run [] s5 _ _ _ S5 (go a na)) (fun f s6 done => ?_) (fun _ _ w => False.elim w)
      cases f with
      | ret u =>
        obtain ⟨v6, σ6, H6, S6, r6, q6⟩ := done
        exact out S6 fun s7 J7 => ⟨_, _, _, J7, r6, q6⟩
      | brk => obtain ⟨σ6, H6, S6, q6⟩ := done; exact out S6 fun s7 J7 => ⟨_, _, J7, q6⟩
      | cont => obtain ⟨σ6, H6, S6, q6⟩ := done; exact out S6 fun s7 J7 => ⟨_, _, J7, q6⟩
      | next => obtain ⟨σ6, H6, S6, q6⟩ := done; exact out S6 fun s7 J7 => ⟨_, _, J7, q6⟩
end
/-! ### try .. except X as e: y = e -/
def bodyW (X : Cx) (body : List Stmt) (W : WX) : TS := fun D σ H => ∀ (pn : List (Addr × Obj)) (xe : Value → Shared → Prop), Takes (X.tr pn xe) W → PassesOwn (model X.prog X.w) X.A X.env xe → weSs (X.tr pn xe) body D σ H
section
variable {c : Calls} {k : Nat} {ck : Ck} {X : Cx} {Wx : WX} {h : Sl → RO} {body : List Stmt}
theorem SxOk.tr (C : SxOk c k ck X) {pn : List (Addr × Obj)} {xe : Value → Shared → Prop} (po : PassesOwn (model X.prog X.w) X.A X.env xe) : SxOk c k ck (X.tr pn xe) :=
  ⟨⟨C.x.N, C.x.nd, C.x.sc, C.x.calm, C.x.room, C.x.fn, C.x.free, C.x.gi, C.x.gs, C.x.exc, C.x.xp⟩, C.fn, po, C.kind, C.stk, C.fr⟩
theorem ok_tryk (C : SxOk c k ck X) (tk : Takes X Wx) {ds : List String} {cl : String} {i j : Nat} {x n y : Str} {np py pn0 ap hp pos : Pos} (hN : ck.N[i]? = some n) (hln : lclB ck.sc n = true) (hnn : nameOk n = true) (hj : ck.N[j]? = some y) (hy : locB ck.sc y = true)
    (hcl : Str.ofString cl = x) (hg : glB ck.sc x = true) (hnx : nameOk x = true) (hxp : ∀ d ∈ ds, (d, cl) ∈ ck.xp) (hcv : cl ≠ "ValueError") (hne : ∃ d, d ∈ ds) (hb : ∀ {X' : Cx} {Wx' : WX}, SxOk c k ck X' → Takes X' Wx' → OkSs X' Wx' body h) :
    OkS X Wx (.Try body [.ExceptHandler (some (.Name x np)) (some n) [.Assign [.Name y py] (.Name n pn0) ap] hp] [] [] pos) (fun sl => catchF ds cl i j (h sl)) := by
  subst hcl
  obtain ⟨d0, hd0⟩ := hne
  have F0 := C.x.xp _ _ (hxp d0 hd0)
  have mg0 := F0.nm
  rw [if_neg hcv] at mg0
  have hloc : X.env.scope.names.lookup n = some .local := lclB_ok (by rw [C.x.sc]; exact hln)
  have vis : Vis X.env.scope n := by
    refine visB_ok ?_
    unfold visB
    rw [hloc]
  have suite : ∀ (a : Addr) (pn : List (Addr × Obj)), PSs (X.suite a pn) [.Assign [.Name y py] (.Name n pn0) ap] _ := fun a pn =>
    pss_cons (ps_set (X := X.suite a pn) C.x.nd (by show X.N[j]? = some y; rw [C.x.N]; exact hj) (locB_ok (X := X.suite a pn) (by show locB X.env.scope y = true; rw [C.x.sc]; exact hy)) (pe_var (X := X.suite a pn) (i := i) (by show X.N[i]? = some n; rw [C.x.N]; exact hN) vis (nameOk_d hnn).1 (nameOk_d hnn).2.1) (swaps_no rfl _ _ _) (.inl (C.fn y))) pss_nil
  have P := fun (Wo : WX) (tk : Takes X Wo) => ps_try_keep (X := X) (x := Str.ofString cl) (n := n) (c := .ref (He.ga X.K (Str.ofString cl))) (i := i) (body := body) (tb := bodyW X body) (np := np) (pos := pos) (pos' := hp) (Wout := Wo) C.stk C.fr C.x.nd (by rw [C.x.N]; exact hN) hloc ⟨glB_ok (by rw [C.x.sc]; exact hg), (nameOk_d hnx).1, .inl mg0⟩ tk
    (fun W pn xe t p => ⟨fun pins s σ H D I q => pss_we.run pins s σ H D I (q pn xe t p)⟩) suite
  intro B sl σ A w t
  -- what the body does, under any wish
  have body_ := fun (W : WX) (pn : List (Addr × Obj)) (xe : Value → Shared → Prop) (t' : Takes (X.tr pn xe) W) (po : PassesOwn (model X.prog X.w) X.A X.env xe) => hb (C.tr po (pn := pn)) t' B sl σ A w t
  cases hr : h sl with
  | none => simp only [catchF, hr]; trivial
  | some o =>
    cases o with
    | nx s1 => simp only [catchF, hr]; exact fun D q => ⟨_, P Wx tk, fun pn xe t' po => (body_ _ pn xe t' po).get hr q⟩
    | rt x1 => simp only [catchF, hr]; exact fun D q => ⟨_, P Wx tk, fun pn xe t' po => (body_ _ pn xe t' po).get hr q⟩
    | bk s1 => simp only [catchF, hr]; exact fun D q => ⟨_, P Wx tk, fun pn xe t' po => (body_ _ pn xe t' po).get hr q⟩
    | ct s1 => simp only [catchF, hr]; exact fun D q => ⟨_, P Wx tk, fun pn xe t' po => (body_ _ pn xe t' po).get hr q⟩
    | ex e s1 =>
      simp only [catchF, hr]
      split
      · rename_i hc
        simp only [Bool.and_eq_true] at hc
        have hdd : e.c ∈ ds := by simpa using hc.1
        have F := C.x.xp _ _ (hxp _ hdd)
        have xm := F.xm
        rw [if_neg hcv] at xm
        cases hb2 : exnIs e.c cl with
        | true =>
          rw [hb2] at xm
          simp only [if_true]
          refine fun D q => ⟨_, P Wx tk, fun pn xe t' po => (body_ _ pn xe t' po).get hr fun w' σ' A' cls d t2 l er => ?_⟩
          obtain ⟨rfl, e2, rfl⟩ := er
          refine ⟨true, xm, fun _ => ⟨rfl, fun a na => ?_⟩, fun z => by cases z⟩
          have k3 := Wd.add_ok (p := a) (o := ExH (.ref (He.ga X.K (Str.ofString e.c))) a) t2.at_.ok
          have l3 := Wd.add_le (o := ExH (.ref (He.ga X.K (Str.ofString e.c))) a) t2.at_.ok na
          have t3 := t2.mono l3 k3
          have rp : Rep X.K (w'.add a (ExH (.ref (He.ga X.K (Str.ofString e.c))) a)).F (.exn e.c) (.ref a) := ⟨a, rfl, upd_same⟩
          obtain ⟨A4, t4⟩ := t3.setCl rp i
          obtain ⟨A5, t5⟩ := t4.setCl rp j
          obtain ⟨A6, t6⟩ := t5.set (s := .no) (o := none) (C := []) rfl own_nil (fun a h => absurd h (by simp)) i
          have li : i < σ'.length := by
            rw [t2.at_.sl.length]
            exact of_decide_eq_true hc.2.2
          exact ⟨.ref a, by rw [List.getElem?_set_self li], q _ _ _ t6 (l.trans (l3.s t2))⟩
        | false =>
          rw [hb2] at xm
          simp only [Bool.false_eq_true, if_false]
          refine fun D q => ⟨_, P Wx tk, fun pn xe t' po => (body_ _ pn xe t' po).get hr fun w' σ' A' cls d t2 l er => ?_⟩
          have er' := er
          obtain ⟨rfl, e2, rfl⟩ := er
          exact ⟨false, xm, fun z => (by cases z), fun _ => q _ _ _ _ _ t2 l er'⟩
      · trivial
end
end Mo
namespace Mo
open PySem PySem.Spec PyProof.Rows L2
/-! ### the check of statements -/
def S.isFrz : S → Bool
  | .frz _ => true
  | _ => false
mutual
def chkS (k : Ck) : S → Stmt → Bool
  | .asg i e, st => match st with
    | .Assign [.Name x _] v _ => decide (k.N[i]? = some x) && locB k.sc x && notComp v && chkE k e v
    | _ => false
  | .unp t e, st => match st with
    | .Assign [tg] v _ => chkT k.N (locB k.sc) t tg && notComp v && plainRhs tg v && chkE k e v
    | _ => false
  | .par i j a b, st => match st with
    | .Assign [.Tuple [.Name x px, .Name y py] _ _] (.Tuple [l, r] _ _) _ => decide (k.N[i]? = some x) && decide (k.N[j]? = some y) && parB k x y px py l r && chkE k a l && chkE k b r
    | _ => false
  | .app i e, st => match st with
    | .Expr (.Call (.Attribute (.Name x _) at0 apos) [v] [] cpos) _ => decide (k.N[i]? = some x) && visB k.sc x && nameOk x && decide (at0 = "append") && notStar v && (apos.endLine == cpos.line) && chkE k e v
    | _ => false
  | .sti i j e, st => match st with
    | .Assign [.Subscript (.Name x _) ix _] v _ => decide (k.N[i]? = some x) && visB k.sc x && nameOk x && plainIx ix && notComp v && chkE k e v && chkE k j ix
    | _ => false
  | .ifs t a b, st => match st with
    | .If c xs ys _ => chkE k t c && tOk t && chkSs k a xs && chkSs k b ys
    | _ => false
  | .whl t b, st => match st with
    | .While c xs [] _ => chkE k t c && tOk t && chkSs k b xs
    | _ => false
  | .for_ t it b, st => match st with
    | .For tg iter xs [] _ => chkT k.N (locB k.sc) t tg && chkIt k it iter && notSet iter && chkSs k b xs
    | _ => false
  | .ret e, st => match st with
    | .Return (some v) _ => chkE k e v
    | _ => false
  | .retn, st => match st with
    | .Return none _ => true
    | _ => false
  | .mv i, st => match st with
    | .Return (some (.Name x _)) _ => decide (k.N[i]? = some x) && visB k.sc x && nameOk x
    | _ => false
  | .brk, st => match st with
    | .Break _ => true
    | _ => false
  | .cnt, st => match st with
    | .Continue _ => true
    | _ => false
  | .pas, st => match st with
    | .Pass _ => true
    | _ => false
  | .rse x, st => match st with
    | .Raise (some (.Call (.Name y _) [.Constant (.str _) _ _] [] _)) none _ => decide (Str.ofString x = y) && glB k.sc y && nameOk y && k.excs.contains x
    | _ => false
  | .tryk ds cl i j b, st => match st with
    | .Try xs [.ExceptHandler (some (.Name x _)) (some n) [.Assign [.Name y _] (.Name n2 _) _] _] [] [] _ => decide (k.N[i]? = some n) && lclB k.sc n && nameOk n && decide (k.N[j]? = some y) && locB k.sc y && decide (n2 = n) && decide (Str.ofString cl = x) && glB k.sc x && nameOk x && (ds.all fun d => k.xp.contains (d, cl)) && decide (cl ≠ "ValueError") && (match ds with | [] => false | _ => true) && chkSs k b xs
    | _ => false
  | .frz _, _ => false
def chkSs (k : Ck) : Ss → List Stmt → Bool
  | .nil, xs => xs.isEmpty
  | .cons s ss, xs => if s.isFrz then chkSs k ss xs else match xs with
    | x :: xs => chkS k s x && chkSs k ss xs
    | [] => false
end
structure GoodS (c : Calls) (k : Nat) (s : S) : Prop where
  ok : ∀ {X : Cx} {ck : Ck} {Wx : WX}, SxOk c k ck X → Takes X Wx → ∀ {st : Stmt}, chkS ck s st = true → OkS X Wx st (evS c s)
structure GoodSs (c : Calls) (k : Nat) (ss : Ss) : Prop where
  ok : ∀ {X : Cx} {ck : Ck} {Wx : WX}, SxOk c k ck X → Takes X Wx → ∀ {xs : List Stmt}, chkSs ck ss xs = true → OkSs X Wx xs (evSs c ss)
theorem isFrz_eq {s : S} (h : s.isFrz = true) : ∃ i, s = .frz i := by
  cases s <;> first | exact ⟨_, rfl⟩ | cases h
mutual
theorem goodS (c : Calls) (k : Nat) : ∀ s : S, GoodS c k s
  | .asg i e => ⟨fun {X ck Wx} C tk {st} h => by
    unfold chkS at h
    split at h
    · simp only [Bool.and_eq_true, decide_eq_true_eq] at h
      exact ok_asg C h.1.1.1 h.1.1.2 h.1.2 ((goodE c k e).e C.x tk h.2)
    · cases h⟩
  | .unp t e => ⟨fun {X ck Wx} C tk {st} h => by
    unfold chkS at h
    split at h
    · simp only [Bool.and_eq_true, decide_eq_true_eq] at h
      exact ok_unp C h.1.1.1 h.1.1.2 (swapped_none h.1.2) ((goodE c k e).e C.x tk h.2)
    · cases h⟩
  | .par i j a b => ⟨fun {X ck Wx} C tk {st} h => by
    unfold chkS at h
    split at h
    · simp only [Bool.and_eq_true, decide_eq_true_eq] at h
      exact ok_par C h.1.1.1.1 h.1.1.1.2 h.1.1.2 ((goodE c k a).e C.x tk h.1.2) ((goodE c k b).e C.x tk h.2)
    · cases h⟩
  | .app i e => ⟨fun {X ck Wx} C tk {st} h => by
    unfold chkS at h
    split at h
    · simp only [Bool.and_eq_true, decide_eq_true_eq] at h
      obtain ⟨⟨⟨⟨⟨⟨h1, h2⟩, h3⟩, h4⟩, h5⟩, h6⟩, h7⟩ := h
      exact ok_app C h1 h2 h3 h4 h5 h6 ((goodE c k e).e C.x tk h7)
    · cases h⟩
  | .sti i j e => ⟨fun {X ck Wx} C tk {st} h => by
    unfold chkS at h
    split at h
    · simp only [Bool.and_eq_true, decide_eq_true_eq] at h
      obtain ⟨⟨⟨⟨⟨⟨h1, h2⟩, h3⟩, h4⟩, h5⟩, h6⟩, h7⟩ := h
      exact ok_sti C h1 h2 h3 h4 h5 rfl ((goodE c k e).e C.x tk h6) ((goodE c k j).e C.x tk h7)
    · cases h⟩
  | .ifs t a b => ⟨fun {X ck Wx} C tk {st} h => by
    unfold chkS at h
    split at h
    · simp only [Bool.and_eq_true] at h
      exact ok_ifs ((goodE c k t).t C.x tk h.1.1.1 h.1.1.2) ((goodSs c k a).ok C tk h.1.2) ((goodSs c k b).ok C tk h.2)
    · cases h⟩
  | .whl t b => ⟨fun {X ck Wx} C tk {st} h => by
    unfold chkS at h
    split at h
    · simp only [Bool.and_eq_true] at h
      exact ok_whl C ((goodE c k t).t C.x tk h.1.1 h.1.2) ((goodSs c k b).ok C tk h.2)
    · cases h⟩
  | .for_ t it b => ⟨fun {X ck Wx} C tk {st} h => by
    unfold chkS at h
    split at h
    · simp only [Bool.and_eq_true] at h
      obtain ⟨⟨⟨h1, h2⟩, h3⟩, h4⟩ := h
      exact ok_for C h3 ((goodIt c k it).i C.x tk h2) h1 ((goodSs c k b).ok C tk h4)
    · cases h⟩
  | .ret e => ⟨fun {X ck Wx} C tk {st} h => by
    unfold chkS at h
    split at h
    · exact ok_ret ((goodE c k e).e C.x tk h)
    · cases h⟩
  | .retn => ⟨fun {X ck Wx} C tk {st} h => by
    unfold chkS at h
    split at h
    · exact ok_retn
    · cases h⟩
  | .mv i => ⟨fun {X ck Wx} C tk {st} h => by
    unfold chkS at h
    split at h
    · simp only [Bool.and_eq_true, decide_eq_true_eq] at h
      exact ok_mv C h.1.1 h.1.2 h.2
    · cases h⟩
  | .brk => ⟨fun {X ck Wx} C tk {st} h => by
    unfold chkS at h
    split at h
    · exact ok_brk
    · cases h⟩
  | .cnt => ⟨fun {X ck Wx} C tk {st} h => by
    unfold chkS at h
    split at h
    · exact ok_cnt
    · cases h⟩
  | .pas => ⟨fun {X ck Wx} C tk {st} h => by
    unfold chkS at h
    split at h
    · exact ok_pas
    · cases h⟩
  | .rse x => ⟨fun {X ck Wx} C tk {st} h => by
    unfold chkS at h
    split at h
    · simp only [Bool.and_eq_true, decide_eq_true_eq, List.contains_iff_mem] at h
      obtain ⟨⟨⟨h1, h2⟩, h3⟩, h4⟩ := h
      subst h1
      obtain ⟨g1, g2, g3, g4, g5⟩ := C.x.exc x h4
      exact ok_rse C tk rfl h2 h3 g1 g2 g3 g4 g5
    · cases h⟩
  | .tryk ds cl i j b => ⟨fun {X ck Wx} C tk {st} h => by
    unfold chkS at h
    split at h
    · simp only [Bool.and_eq_true, decide_eq_true_eq, List.contains_iff_mem, List.all_eq_true] at h
      obtain ⟨⟨⟨⟨⟨⟨⟨⟨⟨⟨⟨⟨h1, h2⟩, h3⟩, h4⟩, h5⟩, h6⟩, h7⟩, h8⟩, h9⟩, h10⟩, h11⟩, h12⟩, h13⟩ := h
      subst h6
      refine ok_tryk C tk h1 h2 h3 h4 h5 h7 h8 h9 h10 h11 ?_ fun C' tk' => (goodSs c k b).ok C' tk' h13
      cases ds with
      | nil => cases h12
      | cons d _ => exact ⟨d, by simp⟩
    · cases h⟩
  | .frz i => ⟨fun {X ck Wx} C tk {st} h => by unfold chkS at h; cases h⟩
theorem goodSs (c : Calls) (k : Nat) : ∀ ss : Ss, GoodSs c k ss
  | .nil => ⟨fun {X ck Wx} C tk {xs} h => by
    unfold chkSs at h
    cases xs with
    | nil => exact okSs_nil
    | cons _ _ => cases h⟩
  | .cons s ss => ⟨fun {X ck Wx} C tk {xs} h => by
    unfold chkSs at h
    split at h
    · rename_i hf
      obtain ⟨i, rfl⟩ := isFrz_eq hf
      exact okSs_frz ((goodSs c k ss).ok C tk h)
    · split at h
      · simp only [Bool.and_eq_true] at h
        exact okSs_cons ((goodS c k s).ok C tk h.1) ((goodSs c k ss).ok C tk h.2)
      · cases h⟩
end
/-! ### defs -/
theorem slR_start {K : PySem.W.Frag} {F H : Hp} (e : Ex F H) (n : Nat) : ∀ {ss : List SV} {vs : List V}, ArgsR K F H ss vs → SlR K ⟨F, H, H⟩ (ss ++ List.replicate n .no) (vs.map some ++ List.replicate n none) []
  | [], vs, h => by
    have q : vs = [] := h
    subst q
    induction n with
    | zero => exact ⟨rfl, rfl⟩
    | succ n ih => exact ⟨none, _, [], [], rfl, rfl, ih, rfl⟩
  | s :: ss, _, ⟨v, r, e1, e2, e3⟩ => by
    subst e1
    refine ⟨some v, _, [], [], rfl, ?_, slR_start e n e3, rfl⟩
    cases s with
    | no => exact e2.elim
    | cl d => exact ⟨v, rfl, e2, rfl⟩
    | lk m => obtain ⟨B, o⟩ := e2; exact ⟨v, B, rfl, o, rfl⟩
    | ow m => exact e2.elim
theorem args_len {K : PySem.W.Frag} {F H : Hp} : ∀ {ss : List SV} {vs : List V}, ArgsR K F H ss vs → ss.length = vs.length
  | [], vs, h => by
    have q : vs = [] := h
    subst q; rfl
  | s :: ss, _, ⟨v, r, e1, e2, e3⟩ => by rw [e1]; simp [args_len e3]
theorem evF_len {c : Calls} {np n : Nat} {body : Ss} {ss : List SV} (h : evF c np n body ss ≠ .stuck) : ss.length = np := by
  unfold evF at h
  split at h
  · assumption
  · exact absurd rfl h
theorem RetP.ns {K : PySem.W.Frag} {F H : Hp} {r : R XV} {Q : VK} {E : XK} (h : RetP K F H r Q E) : r ≠ .stuck := by
  cases r with
  | stuck => exact h.elim
  | _ => exact fun z => by cases z
theorem fn_ok {c : Calls} {k : Nat} {ck : Ck} {P : Program} {wl : World} {K : PySem.W.Frag} {mg : Str → Option Value} {base : Heap} {x qual : Str} {params : Arguments} {body : List Stmt} {scope : Scope} {fa : Addr} {fd : FuncData} {ps : List Str} {ss : Ss}
    (F : FunD K x qual params body scope [] [] fa fd) (S : FnScope ck.N ps scope) (hsc : scope = ck.sc) (hck : chkSs ck ss body = true)
    (hfn : ∀ f, f ∈ ck.fns → ∃ (fa : Addr) (fd : FuncData) (ps : List Str), mg (Str.ofString f) = some (.ref fa) ∧ PySem.W.keepIn K (.ref fa) = true ∧ Binds K fd ps [] ∧ FnOk P wl K mg base (L2.CX P wl) k fa fd ps (spR K (c f)))
    (hfree : ∀ x, x ∈ ck.free → mg (Str.ofString x) = none) (hgi : ∀ x i, (x, i) ∈ ck.gi → ∃ t, mg (Str.ofString x) = some (.int i t)) (hgs : ∀ x s, (x, s) ∈ ck.gs → ∃ t, mg (Str.ofString x) = some (.str s t))
    (hexc : ∀ x, x ∈ ck.excs → mg (Str.ofString x) = some (.ref (He.ga K (Str.ofString x))) ∧ PySem.W.excIn K (He.ga K (Str.ofString x)) He.veBase "ValueError.__new__" = true ∧ PySem.W.keepIn K (.ref (He.ga K (Str.ofString x))) = true ∧
      PySem.W.subIn K (.ref (He.ga K (Str.ofString x))) (.type "BaseException") = some true ∧ PySem.W.typeIn K (.ref (He.ga K (Str.ofString x))) = some (.type "type"))
    (hxp : ∀ d y, (d, y) ∈ ck.xp → XpOk K mg d y) :
    FnOk P wl K mg base (L2.CX P wl) (k + 1) fa fd ps (spR K (evF c ps.length ck.N.length ss)) := by
  have len : ∀ vs H Q E, spR K (evF c ps.length ck.N.length ss) vs H Q E → vs.length = ps.length := fun vs H Q E ⟨as, F0, e, ha, hr⟩ => by
    rw [← args_len ha]
    exact evF_len hr.ns
  refine F.ok S len fun cdv A outer s H vs Q E hr hsp => ?_
  obtain ⟨as, F0, e, ha, hret⟩ := hsp
  let X : Cx := cxOf (L2.CX P wl) P wl K mg base ck.N qual scope fa cdv A outer s H E
  have C : SxOk c k ck X := ⟨⟨rfl, S.nd, hsc, rfl, hr, hfn, hfree, hgi, hgs, hexc, hxp⟩, fun _ => rfl, passes_of (K := fun e s' => L2.CX P wl outer H s E e s') rfl, S.kind, rfl, rfl⟩
  have tk : Takes X (fun cls d _ H => E cls d H) := takes_of rfl rfl rfl rfl
  have ok := (goodSs c k ss).ok C tk hck
  have alen := evF_len hret.ns
  have hst : L2.start ck.N vs = vs.map some ++ List.replicate (ck.N.length - ps.length) none := by
    unfold L2.start
    rw [← args_len ha, alen]
  have t0 : AtS K (fun a => H a ≠ none) (as ++ List.replicate (ck.N.length - ps.length) .no) (L2.start ck.N vs) [] ⟨F0, H, H⟩ := ⟨⟨⟨e, Ex.refl _⟩, by rw [hst]; exact slR_start e _ ha, own_nil⟩, fun a h => absurd h (by simp), fun a h => h⟩
  have post := ok _ _ _ _ _ t0
  refine ⟨weSs X body, pss_we, ?_⟩
  have ev : evF c ps.length ck.N.length ss as = retR (evSs c ss (as ++ List.replicate (ck.N.length - ps.length) .no)) := by
    unfold evF
    rw [if_pos alen]
  rw [ev] at hret
  have newF : ∀ {w' : Wd}, WLeS (fun a => H a ≠ none) ⟨F0, H, H⟩ w' → NewF H F0 w'.F := fun l a h q => l.ff a h q
  cases ho : evSs c ss (as ++ List.replicate (ck.N.length - ps.length) .no) with
  | none => rw [ho] at hret; exact hret.elim
  | some o =>
    rw [ho] at hret
    refine post.get ho ?_
    cases o with
    | nx sl => exact fun w' σ A t l => hret w'.F w'.H .non l.f t.at_.ok.fh (l.g.trans t.at_.ok.gh) (newF l) rfl
    | bk sl => exact hret.elim
    | ct sl => exact hret.elim
    | rt z =>
      intro w' v k' l bg r
      cases z with
      | cl d => exact hret w'.F w'.H v l.f k'.fh (l.g.trans k'.gh) (newF l) r.cl_of
      | nw m =>
        obtain ⟨B, r1, r2, r3⟩ := r
        exact hret w'.F w'.H v l.f k'.fh (l.g.trans k'.gh) (newF l) ⟨B, r1, r2.nd, fun a ha => ⟨Classical.not_not.mp (r3 a ha), k'.fg.free (r2.no a ha).1, (r2.no a ha).2⟩⟩
      | lk m => exact hret.elim
      | tm m => exact hret.elim
    | ex ex sl => exact fun w' σ A cls d t l er => hret w'.F w'.H cls d l.f t.at_.ok.fh (l.g.trans t.at_.ok.gh) (newF l) er
end Mo
namespace Mo
open PySem PySem.Spec PyProof.Rows L2
/-! ### a program of defs -/
structure PFn where
  nm : String
  ps : List String
  N : List String
  body : Ss
  st : Stmt
structure Pg where
  fns : List PFn
  free : List String
  gi : List (String × Int)
  gs : List (String × Str)
  excs : List String
  xp : List (String × String)
noncomputable def run (p : Pg) : Nat → Calls
  | 0, _, _ => .stuck
  | n + 1, f, args => match p.fns.find? (fun d => d.nm == f) with
    | some d => evF (run p n) d.ps.length d.N.length d.body args
    | none => .stuck
def Pg.ck (p : Pg) (d : PFn) : Ck := ⟨d.N.map Str.ofString, defScope d.st, p.fns.map (·.nm), p.free, p.gi, p.gs, p.excs, p.xp⟩
def chkFn (p : Pg) (d : PFn) : Bool := (match (defScope d.st).kind with | .function => true | _ => false) && !(defScope d.st).isCoroutine && !(defScope d.st).isGenerator && decide ((d.N.map Str.ofString).Nodup) &&
  decide ((d.N.map Str.ofString).take (d.ps.map Str.ofString).length = d.ps.map Str.ofString) && (d.ps.map Str.ofString).all (fun x => locB (defScope d.st) x) && (defScope d.st).names.all (fun y => match y.2 with | .free => false | _ => true) && chkSs (p.ck d) d.body (defBody d.st)
def BindP (d : PFn) : Prop := ∀ (kV doc pm : Value) (an : Option Addr) (cdv ct : Value) (us : List Value), us.length = (d.ps.map Str.ofString).length →
  bindArgs (PySem.W.fnOf (Str.ofString d.nm) (Str.ofString d.nm) (defArgs d.st) (defBody d.st) (defScope d.st) .none kV doc pm an cdv ct) ⟨us, []⟩ = pure ((d.ps.map Str.ofString).zip us)
abbrev FunP (K : PySem.W.Frag) (d : PFn) (fd : FuncData) : Prop := FunD K (Str.ofString d.nm) (Str.ofString d.nm) (defArgs d.st) (defBody d.st) (defScope d.st) [] [] (He.ga K (Str.ofString d.nm)) fd
theorem chkFn_scope {p : Pg} {d : PFn} (h : chkFn p d = true) : FnScope (d.N.map Str.ofString) (d.ps.map Str.ofString) (defScope d.st) ∧ chkSs (p.ck d) d.body (defBody d.st) = true := by
  unfold chkFn at h
  simp only [Bool.and_eq_true, decide_eq_true_eq, Bool.not_eq_true', List.all_eq_true] at h
  obtain ⟨⟨⟨⟨⟨⟨⟨h1, h2⟩, h3⟩, h4⟩, h5⟩, h6⟩, h7⟩, h8⟩ := h
  refine ⟨⟨?_, h2, h3, h4, h5, fun x hx => ?_, fun y hy z => ?_⟩, h8⟩
  · split at h1
    · assumption
    · cases h1
  · have := h6 x hx
    unfold locB at this
    split at this <;> first | exact .inl (by assumption) | exact .inr (by assumption) | cases this
  · have := h7 y hy
    rw [z] at this
    cases this
section
variable {p : Pg} {P : Program} {wl : World} {K : PySem.W.Frag} {mg : Str → Option Value} {base : Heap}
theorem prog_ok (hchk : p.fns.all (chkFn p) = true) (hdef : ∀ d ∈ p.fns, ∃ fd, FunP K d fd) (hbind : ∀ d ∈ p.fns, BindP d) (hmg : ∀ d ∈ p.fns, mg (Str.ofString d.nm) = some (.ref (He.ga K (Str.ofString d.nm))))
    (hfree : ∀ x, x ∈ p.free → mg (Str.ofString x) = none) (hgi : ∀ x i, (x, i) ∈ p.gi → ∃ t, mg (Str.ofString x) = some (.int i t)) (hgs : ∀ x s, (x, s) ∈ p.gs → ∃ t, mg (Str.ofString x) = some (.str s t))
    (hexc : ∀ x, x ∈ p.excs → mg (Str.ofString x) = some (.ref (He.ga K (Str.ofString x))) ∧ PySem.W.excIn K (He.ga K (Str.ofString x)) He.veBase "ValueError.__new__" = true ∧ PySem.W.keepIn K (.ref (He.ga K (Str.ofString x))) = true ∧
      PySem.W.subIn K (.ref (He.ga K (Str.ofString x))) (.type "BaseException") = some true ∧ PySem.W.typeIn K (.ref (He.ga K (Str.ofString x))) = some (.type "type"))
    (hxp : ∀ d y, (d, y) ∈ p.xp → XpOk K mg d y) :
    ∀ (n : Nat) (f : String) (d : PFn), p.fns.find? (fun d => d.nm == f) = some d → ∀ fd, FunP K d fd → FnOk P wl K mg base (L2.CX P wl) n (He.ga K (Str.ofString d.nm)) fd (d.ps.map Str.ofString) (spR K (run p n f))
  | 0, f, d, hf, fd, F => ⟨fun vs H Q E ⟨_, _, _, _, h⟩ => h.elim, fun A outer s H args us vs Q E _ _ _ _ ⟨_, _, _, _, h⟩ => h.elim⟩
  | n + 1, f, d, hf, fd, F => by
    have hd : d ∈ p.fns := List.mem_of_find?_eq_some hf
    obtain ⟨S, hc⟩ := chkFn_scope (List.all_eq_true.mp hchk d hd)
    have e : run p (n + 1) f = evF (run p n) (d.ps.map Str.ofString).length (d.N.map Str.ofString).length d.body := by
      funext args
      show (match p.fns.find? (fun d => d.nm == f) with | some d => evF (run p n) d.ps.length d.N.length d.body args | none => .stuck) = _
      rw [hf, List.length_map, List.length_map]
    rw [e]
    refine fn_ok (ck := p.ck d) F S rfl hc (fun g hg => ?_) hfree hgi hgs hexc hxp
    obtain ⟨d', hd', hn⟩ := List.mem_map.mp hg
    cases hfd : p.fns.find? (fun d => d.nm == g) with
    | none => exact absurd (List.find?_eq_none.mp hfd d' hd') (by simp [hn])
    | some d2 =>
      have hd2 : d2 ∈ p.fns := List.mem_of_find?_eq_some hfd
      have nm2 : d2.nm = g := by
        have := List.find?_some hfd
        exact eq_of_beq this
      obtain ⟨fd2, F2⟩ := hdef d2 hd2
      refine ⟨He.ga K (Str.ofString d2.nm), fd2, d2.ps.map Str.ofString, ?_, F2.kp, F2.bindsN (hbind d2 hd2), prog_ok hchk hdef hbind hmg hfree hgi hgs hexc hxp n g d2 hfd fd2 F2⟩
      rw [← nm2]
      exact hmg d2 hd2
end
/-! ### the head's facts -/
def PFn.def_ (d : PFn) : He.DefD := ⟨(Str.ofString d.nm, none), Str.ofString d.nm, Str.ofString d.nm, defArgs d.st, defBody d.st, defScope d.st, [], []⟩
def Pg.fa (p : Pg) : List He.Fa := p.fns.map (fun d => .glo (Str.ofString d.nm)) ++ (p.free.map (fun x => .free (Str.ofString x)) ++ (p.gi.map (fun q => .int (Str.ofString q.1) q.2) ++ (p.gs.map (fun q => .str (Str.ofString q.1) q.2) ++ (p.excs.map (fun x => .glo (Str.ofString x)) ++ (p.excs.map (fun x => .exc (Str.ofString x)) ++ p.xp.map (fun q => if q.2 = "ValueError" then .free (Str.ofString q.2) else .glo (Str.ofString q.2)))))))
def Pg.fn (p : Pg) : List He.DefD := p.fns.map PFn.def_
theorem says_mem {fa : List He.Fa} {fn : List He.DefD} {K : PySem.W.Frag} (c : He.SaysD fa fn K) {f : He.Fa} (h : f ∈ fa) : f.ok K = true := by
  obtain ⟨i, hi⟩ := List.getElem?_of_mem h
  exact c.fact i hi
theorem says_def {fa : List He.Fa} {fn : List He.DefD} {K : PySem.W.Frag} (c : He.SaysD fa fn K) {d : He.DefD} (h : d ∈ fn) : ∃ fd, FunD K d.name d.qual d.params d.body d.scope (d.dvs K) (d.kws K) (He.fAd K d.at_) fd := by
  obtain ⟨i, hi⟩ := List.getElem?_of_mem h
  exact c.def_ i hi
/-- what is asked of the error classes besides -/
def xpB (K : PySem.W.Frag) (q : String × String) : Bool :=
  let D := He.ga K (Str.ofString q.1)
  let cv : Value := if q.2 = "ValueError" then .type "ValueError" else .ref (He.ga K (Str.ofString q.2))
  He.eqO (PySem.W.findIn K (.ref D) "__getattribute__") (some (some (.builtin "BaseException.__getattribute__"))) && (He.eqO (PySem.W.findIn K (.ref D) "__getattr__") (some none) && (decide (PySem.W.subIn K (.ref D) (.type "BaseException") = some true) && (PySem.W.hasDictIn K D &&
  (He.eqO (PySem.W.findIn K (.ref D) "__class__") (some (some (.builtin "object.__class__"))) && (He.eqO (PySem.W.specialIn K (.builtin "object.__class__") "__get__") (some (some (.builtin "getset_descriptor.__get__"))) && (decide (PySem.W.takesIn K (.builtin "object.__class__") = some true) && (decide (PySem.W.mroIn K D (.type "object") = some true) &&
  (decide (PySem.W.kitOne K (.ref D) cv = some (exnIs q.1 q.2)) && decide (PySem.W.exmOne K (.ref D) cv = some (exnIs q.1 q.2))))))))))
def Pg.xb (p : Pg) (K : PySem.W.Frag) : Bool := p.xp.all (xpB K)
/-- the hook: the facts, and the error classes' -/
def hookX (n : Nat) (fa : List He.Fa) (fn : List He.DefD) (g : PySem.W.Frag → Bool) : PySem.W.Hook where
  α := Bool × He.AlD
  obs := fun s => (g (He.frG s.heap.get? (He.asD s.heap.get? n)), He.obsDG n fa fn s.heap.get?)
  val := fun _ => (true, He.valD fn)
  says := fun _ h => ∃ K : PySem.W.Frag, K.In h ∧ He.SaysD fa fn K ∧ g K = true
  of := fun _ _ e => ⟨_, He.frG_in, (Prod.mk.inj e).2, (Prod.mk.inj e).1⟩
  keeps := fun _ _ _ ⟨K, hK, c⟩ k => ⟨K, PySem.W.Frag.In.keeps hK k, c⟩
def obsX (n : Nat) (fa : List He.Fa) (fn : List He.DefD) (g : PySem.W.Frag → Bool) (get : Addr → Option Obj) : Bool × He.AlD := (g (He.frG get (He.asD get n)), He.obsDG n fa fn get)
theorem obsX_eq {n : Nat} {fa : List He.Fa} {fn : List He.DefD} {b : PySem.W.Frag → Bool} {g : Addr → Option Obj} {s : Shared} (h : ∀ a, g a = s.heap.get? a) : obsX n fa fn b g = (hookX n fa fn b).obs s := by
  have e : g = s.heap.get? := funext h
  subst e; rfl
/-- a def out of which nothing comes -/
theorem fn_nox {P : Program} {w : World} {K : PySem.W.Frag} {mg : Str → Option Value} {base : Heap} {k : Nat} {f : Addr} {fd : FuncData} {ps : List Str} {sp : Sp} (F : FnOk P w K mg base (L2.CX P w) k f fd ps sp) :
    FnOk P w K mg base CX0 k f fd ps (fun vs H Q _ => sp vs H Q E0) :=
  ⟨fun vs H Q E h => F.len vs H Q E0 h, fun A outer s H args us vs Q E hr e0 hb hv h => codeAny_mono (F.run A outer s H args us vs Q E0 hr e0 hb hv h) fun r s' q => by
    cases r with
    | ok fl => cases fl <;> exact q
    | error e =>
      obtain ⟨_, _, _, _, _, _, _, _, _, _, _, _, z⟩ := q
      exact z.elim⟩
theorem law_facts {p : Pg} {n : Nat} {x : String} {d : PFn} {P : Program} {w : World} {K : PySem.W.Frag} {h : Heap} {mg : Str → Option Value} {f : Addr} (hchk : p.fns.all (chkFn p) = true) (hbind : ∀ d ∈ p.fns, BindP d)
    (hd : p.fns.find? (fun d => d.nm == "law") = some d) (hnm : d.nm = "law") (hps : d.ps = [x]) (X : K.In h) (G : h.Ns mainGlobals mg) (hfa : mg ("law" : Str) = some (.ref f)) (c : He.SaysD p.fa p.fn K) (cx : p.xb K = true)
    (law : ∀ ns : List Int, ns.length ≤ 63 → run p n "law" [.cl (.lst (ns.map .int))] = .ok (.cl (.bl true))) :
    ∃ (fd : FuncData) (sp : Sp), (∀ (s : Shared) (v : Value), BindsTo s fd ⟨[v], []⟩ [(Str.ofString x, v)]) ∧ (∀ (H : Hp) (a : Addr) (ns : List Int), ns.length ≤ 63 → SqL K H a (ns.map V.int) → sp [.ref a] H (fun v _ => v = .bl true) fun _ _ _ => False) ∧
      ∀ base : Heap, K.In base → base.Ns mainGlobals mg → FnOk P w K mg base CX0 n f fd [Str.ofString x] sp := by
  have hmem := List.mem_of_find?_eq_some hd
  have inA : ∀ {z : He.Fa}, z ∈ p.fns.map (fun d => He.Fa.glo (Str.ofString d.nm)) → z ∈ p.fa := fun hz => List.mem_append_left _ hz
  have inB : ∀ {z : He.Fa}, z ∈ p.free.map (fun x => He.Fa.free (Str.ofString x)) → z ∈ p.fa := fun hz => List.mem_append_right _ (List.mem_append_left _ hz)
  have inC : ∀ {z : He.Fa}, z ∈ p.gi.map (fun q => He.Fa.int (Str.ofString q.1) q.2) → z ∈ p.fa := fun hz => List.mem_append_right _ (List.mem_append_right _ (List.mem_append_left _ hz))
  have inD : ∀ {z : He.Fa}, z ∈ p.gs.map (fun q => He.Fa.str (Str.ofString q.1) q.2) → z ∈ p.fa := fun hz => List.mem_append_right _ (List.mem_append_right _ (List.mem_append_right _ (List.mem_append_left _ hz)))
  have inE : ∀ {z : He.Fa}, z ∈ p.excs.map (fun x => He.Fa.glo (Str.ofString x)) → z ∈ p.fa := fun hz => List.mem_append_right _ (List.mem_append_right _ (List.mem_append_right _ (List.mem_append_right _ (List.mem_append_left _ hz))))
  have inF : ∀ {z : He.Fa}, z ∈ p.excs.map (fun x => He.Fa.exc (Str.ofString x)) → z ∈ p.fa := fun hz => List.mem_append_right _ (List.mem_append_right _ (List.mem_append_right _ (List.mem_append_right _ (List.mem_append_right _ (List.mem_append_left _ hz)))))
  have inG : ∀ {z : He.Fa}, z ∈ p.xp.map (fun q => if q.2 = "ValueError" then He.Fa.free (Str.ofString q.2) else He.Fa.glo (Str.ofString q.2)) → z ∈ p.fa := fun hz => List.mem_append_right _ (List.mem_append_right _ (List.mem_append_right _ (List.mem_append_right _ (List.mem_append_right _ (List.mem_append_right _ hz)))))
  have hxp : ∀ d y, (d, y) ∈ p.xp → XpOk K mg d y := fun d y hq => by
    have q := List.all_eq_true.mp cx _ hq
    unfold xpB at q
    simp only [Bool.and_eq_true, decide_eq_true_eq] at q
    obtain ⟨q1, q2, q3, q4, q5, q6, q7, q8, q9, q10⟩ := q
    refine ⟨⟨He.eqO_ok q1, He.eqO_ok q2, q3, q4, He.eqO_ok q5, He.eqO_ok q6, q7, q8⟩, ?_, q9, q10⟩
    have w := says_mem c (inG (List.mem_map_of_mem (f := fun q : String × String => if q.2 = "ValueError" then He.Fa.free (Str.ofString q.2) else He.Fa.glo (Str.ofString q.2)) hq))
    by_cases hy : y = "ValueError"
    · simp only [hy, if_true] at w ⊢
      exact He.free_ok X G w
    · simp only [hy, if_false] at w ⊢
      exact He.glo_ok X G w
  have hdef : ∀ d ∈ p.fns, ∃ fd, FunP K d fd := fun d hd => by
    obtain ⟨fd, F⟩ := says_def c (List.mem_map_of_mem (f := PFn.def_) hd)
    exact ⟨fd, F⟩
  have hmg : ∀ d ∈ p.fns, mg (Str.ofString d.nm) = some (.ref (He.ga K (Str.ofString d.nm))) := fun d hd => He.glo_ok X G (says_mem c (inA (List.mem_map_of_mem (f := fun d : PFn => He.Fa.glo (Str.ofString d.nm)) hd)))
  have hfree : ∀ x, x ∈ p.free → mg (Str.ofString x) = none := fun x hx => He.free_ok X G (says_mem c (inB (List.mem_map_of_mem (f := fun x => He.Fa.free (Str.ofString x)) hx)))
  have hgi : ∀ x i, (x, i) ∈ p.gi → ∃ t, mg (Str.ofString x) = some (.int i t) := fun x i hx => He.int_ok X G (says_mem c (inC (List.mem_map_of_mem (f := fun q : String × Int => He.Fa.int (Str.ofString q.1) q.2) hx)))
  have hgs : ∀ x s, (x, s) ∈ p.gs → ∃ t, mg (Str.ofString x) = some (.str s t) := fun x i hx => He.str_ok X G (says_mem c (inD (List.mem_map_of_mem (f := fun q : String × Str => He.Fa.str (Str.ofString q.1) q.2) hx)))
  have hexc := fun (x : String) (hx : x ∈ p.excs) => And.intro (He.glo_ok X G (says_mem c (inE (List.mem_map_of_mem (f := fun x => He.Fa.glo (Str.ofString x)) hx)))) (He.exc_ok (says_mem c (inF (List.mem_map_of_mem (f := fun x => He.Fa.exc (Str.ofString x)) hx))))
  obtain ⟨fd, F⟩ := hdef d hmem
  have e : f = He.ga K (Str.ofString d.nm) := by
    have q := hmg d hmem
    rw [hnm] at q
    have q' := hfa.symm.trans q
    rw [hnm]
    cases q'; rfl
  refine ⟨fd, fun vs H Q _ => spR K (run p n "law") vs H Q E0, fun s v => ?_, fun H a ns hl hS => ?_, fun base hK hG => ?_⟩
  · have b := FunD.bindsA (ps := d.ps.map Str.ofString) F (hbind d hmem) s [v] (by rw [hps]; rfl)
    rw [hps] at b
    exact b
  · refine ⟨[.cl (.lst (ns.map .int))], H, Ex.refl H, ⟨.ref a, [], rfl, ⟨a, ns.map V.int, rfl, hS, ?_⟩, rfl⟩, ?_⟩
    · have go : ∀ ns : List Int, RepL K H (ns.map D.int) (ns.map V.int) := fun ns => by
        induction ns with
        | nil => exact rfl
        | cons i r ih => exact ⟨.int i, r.map V.int, rfl, rfl, ih⟩
      exact go ns
    · rw [law ns hl]
      exact fun F' H' v _ _ _ _ r => r
  · have q := fn_nox (prog_ok (P := P) (wl := w) (base := base) hchk hdef hbind hmg hfree hgi hgs hexc hxp n "law" d hd fd F)
    rw [hps] at q
    rw [e]
    exact q
end Mo
namespace Mo
open PySem PySem.Spec PyProof.Rows L2
/-! ### evaluating terms -/
section
variable (c : Calls) (sl : Sl)
@[simp] theorem evE_var (i : Nat) : evE c (.var i) sl = match sl[i]? with | some s => R.of s.x | none => .stuck := rfl
@[simp] theorem evE_int (i : Int) : evE c (.int i) sl = .ok (.cl (.int i)) := rfl
@[simp] theorem evE_bl (b : Bool) : evE c (.bl b) sl = .ok (.cl (.bl b)) := rfl
@[simp] theorem evE_non : evE c .non sl = .ok (.cl .non) := rfl
@[simp] theorem evE_str (s : Str) : evE c (.str s) sl = .ok (.cl (.str s)) := rfl
@[simp] theorem evE_gi (x : String) (i : Int) : evE c (.gi x i) sl = .ok (.cl (.int i)) := rfl
@[simp] theorem evE_gs (x : String) (s : Str) : evE c (.gs x s) sl = .ok (.cl (.str s)) := rfl
@[simp] theorem evE_bin (o : BOp) (a b : E) : evE c (.bin o a b) sl = (evE c a sl).bind fun x => (evE c b sl).bind fun y => bopF o x y := rfl
@[simp] theorem evE_neg (a : E) : evE c (.neg a) sl = (evE c a sl).bind negF := rfl
@[simp] theorem evE_cmp (o : COp) (a b : E) : evE c (.cmp o a b) sl = (evE c a sl).bind fun x => (evE c b sl).bind fun y => cmpF o x y := rfl
@[simp] theorem evE_isN (a : E) : evE c (.isN a) sl = (evE c a sl).bind fun x => R.of ((isNF x).map fun q => .cl (.bl q)) := rfl
@[simp] theorem evE_notN (a : E) : evE c (.notN a) sl = (evE c a sl).bind fun x => R.of ((isNF x).map fun q => .cl (.bl (!q))) := rfl
@[simp] theorem evE_chn (o o' : COp) (a b e : E) : evE c (.chn o o' a b e) sl = (evE c a sl).bind fun x => (evE c b sl).bind fun y => (cmpF o x y).bind fun z => chnF o' y z (evE c e sl) := rfl
@[simp] theorem evE_and (a b : E) : evE c (.and a b) sl = (evE c a sl).bind fun x => andF x (evE c b sl) := rfl
@[simp] theorem evE_or (a b : E) : evE c (.or a b) sl = (evE c a sl).bind fun x => orF x (evE c b sl) := rfl
@[simp] theorem evE_not (a : E) : evE c (.not a) sl = (evE c a sl).bind notF := rfl
@[simp] theorem evE_ife (t a b : E) : evE c (.ife t a b) sl = (evE c t sl).bind fun x => match x.b with | some true => evE c a sl | some false => evE c b sl | none => .stuck := rfl
@[simp] theorem evE_tup (es : Es) : evE c (.tup es) sl = (evEs c es sl).bind tupF := rfl
@[simp] theorem evE_lst (es : Es) : evE c (.lst es) sl = (evEs c es sl).bind lstF := rfl
@[simp] theorem evE_sub (a i : E) : evE c (.sub a i) sl = (evE c a sl).bind fun x => (evE c i sl).bind fun y => R.of (idx x y) := rfl
@[simp] theorem evE_call (f : String) (es : Es) : evE c (.call f es) sl = (evEs c es sl).bind fun xs => match argsOf xs with | some ss => c f ss | none => .stuck := rfl
@[simp] theorem evE_blt (b : Blt) (es : Es) : evE c (.blt b es) sl = (evEs c es sl).bind fun xs => R.of (blt b xs) := rfl
@[simp] theorem evE_fz (a : E) : evE c (.fz a) sl = (evE c a sl).bind fzF := rfl
@[simp] theorem evE_isi (t : Ty) (a : E) : evE c (.isi t a) sl = (evE c a sl).bind (isiF t) := rfl
@[simp] theorem evE_comp (elt : E) (t : Tg) (it : It) (cs : Es) : evE c (.comp elt t it cs) sl = (evIt c it sl).bind (compF (tgo t) (evCnd c cs) (evE c elt) (wipeS sl t.slots)) := rfl
@[simp] theorem evEs_nil : evEs c .nil sl = .ok [] := rfl
@[simp] theorem evEs_cons (e : E) (es : Es) : evEs c (.cons e es) sl = (evE c e sl).bind fun x => (evEs c es sl).bind fun xs => .ok (x :: xs) := rfl
@[simp] theorem evIt_exp (e : E) : evIt c (.exp e) sl = (evE c e sl).bind itF := rfl
@[simp] theorem evIt_rng1 (a : E) : evIt c (.rng1 a) sl = (evE c a sl).bind rng1F := rfl
@[simp] theorem evIt_rng2 (a b : E) : evIt c (.rng2 a b) sl = (evE c a sl).bind fun x => (evE c b sl).bind fun y => rng2F x y := rfl
@[simp] theorem evIt_rng3 (a b d : E) : evIt c (.rng3 a b d) sl = (evE c a sl).bind fun x => (evE c b sl).bind fun y => (evE c d sl).bind fun z => rng3F x y z := rfl
@[simp] theorem evSs_nil : evSs c .nil sl = some (.nx sl) := rfl
@[simp] theorem evSs_cons (s : S) (ss : Ss) : evSs c (.cons s ss) sl = seqO (evS c s sl) (evSs c ss) := rfl
@[simp] theorem evS_asg (i : Nat) (e : E) : evS c (.asg i e) sl = (evE c e sl).out sl fun x => match x.keep with | some s => some (.nx (sl.set i s)) | none => none := rfl
@[simp] theorem evS_unp (t : Tg) (e : E) : evS c (.unp t e) sl = (evE c e sl).out sl fun x => match x with | .cl d => (tgo t d sl).map .nx | _ => none := rfl
@[simp] theorem evS_par (i j : Nat) (a b : E) : evS c (.par i j a b) sl = (evE c a sl).out sl fun x => (evE c b sl).out sl fun y => match x, y with | .cl d, .cl e => some (.nx ((sl.set i (.cl d)).set j (.cl e))) | _, _ => none := rfl
@[simp] theorem evS_app (i : Nat) (e : E) : evS c (.app i e) sl = match sl[i]? with | some (.ow (.lst ms)) => (evE c e sl).out sl (appF sl i ms) | _ => none := rfl
@[simp] theorem evS_sti (i : Nat) (k e : E) : evS c (.sti i k e) sl = match sl[i]? with | some (.ow (.lst ms)) => (evE c e sl).out sl fun x => (evE c k sl).out sl fun y => stiF sl i ms x y | _ => none := rfl
@[simp] theorem evS_ifs (t : E) (a b : Ss) : evS c (.ifs t a b) sl = (tst (evE c t sl)).out sl fun q => if q then evSs c a sl else evSs c b sl := rfl
@[simp] theorem evS_whl (t : E) (b : Ss) : evS c (.whl t b) sl = whl (evE c t) (evSs c b) sl := rfl
@[simp] theorem evS_for (t : Tg) (it : It) (b : Ss) : evS c (.for_ t it b) sl = (evIt c it sl).out sl fun ds => forL (tgo t) (evSs c b) ds sl := rfl
@[simp] theorem evS_ret (e : E) : evS c (.ret e) sl = (evE c e sl).out sl retF := rfl
@[simp] theorem evS_retn : evS c .retn sl = some (.rt (.cl .non)) := rfl
@[simp] theorem evS_mv (i : Nat) : evS c (.mv i) sl = match sl[i]? with | some (.ow m) => some (.rt (.nw m)) | _ => none := rfl
@[simp] theorem evS_brk : evS c .brk sl = some (.bk sl) := rfl
@[simp] theorem evS_cnt : evS c .cnt sl = some (.ct sl) := rfl
@[simp] theorem evS_pas : evS c .pas sl = some (.nx sl) := rfl
@[simp] theorem evS_rse (x : String) : evS c (.rse x) sl = some (.ex ⟨x, []⟩ sl) := rfl
@[simp] theorem evS_frz (i : Nat) : evS c (.frz i) sl = frzF sl i := rfl
end
@[simp] theorem out_ok {α : Type} (sl : Sl) (a : α) (f : α → RO) : (R.ok a).out sl f = f a := rfl
@[simp] theorem out_stuck {α : Type} (sl : Sl) (f : α → RO) : (R.stuck : R α).out sl f = none := rfl
@[simp] theorem out_exc {α : Type} (sl : Sl) (e : Exn) (f : α → RO) : (R.exc e : R α).out sl f = some (.ex e sl) := rfl
@[simp] theorem seqO_nx (sl : Sl) (f : Sl → RO) : seqO (some (.nx sl)) f = f sl := rfl
@[simp] theorem seqO_rt (x : XV) (f : Sl → RO) : seqO (some (.rt x)) f = some (.rt x) := rfl
@[simp] theorem seqO_bk (sl : Sl) (f : Sl → RO) : seqO (some (.bk sl)) f = some (.bk sl) := rfl
@[simp] theorem seqO_ct (sl : Sl) (f : Sl → RO) : seqO (some (.ct sl)) f = some (.ct sl) := rfl
@[simp] theorem seqO_ex (e : Exn) (sl : Sl) (f : Sl → RO) : seqO (some (.ex e sl)) f = some (.ex e sl) := rfl
@[simp] theorem sv_no : SV.x .no = none := rfl
@[simp] theorem sv_cl (d : D) : SV.x (.cl d) = some (.cl d) := rfl
@[simp] theorem sv_lk (m : MO) : SV.x (.lk m) = some (.lk m) := rfl
@[simp] theorem sv_ow (m : MO) : SV.x (.ow m) = some (.tm m) := rfl
@[simp] theorem xd_cl (d : D) : XV.d (.cl d) = some d := rfl
@[simp] theorem xd_lk (m : MO) : XV.d (.lk m) = some m.toD := rfl
@[simp] theorem xd_tm (m : MO) : XV.d (.tm m) = some m.toD := rfl
@[simp] theorem xb_bl (b : Bool) : XV.b (.cl (.bl b)) = some b := rfl
@[simp] theorem keep_cl (d : D) : XV.keep (.cl d) = some (.cl d) := rfl
@[simp] theorem keep_lk (m : MO) : XV.keep (.lk m) = some (.lk m) := rfl
@[simp] theorem keep_nw (m : MO) : XV.keep (.nw m) = some (.ow m) := rfl
@[simp] theorem args_nil : argsOf [] = some [] := rfl
@[simp] theorem args_cl (d : D) (xs : List XV) : argsOf (.cl d :: xs) = (argsOf xs).map (SV.cl d :: ·) := by
  cases h : argsOf xs <;> simp only [argsOf, XV.arg, h] <;> rfl
@[simp] theorem args_tm (m : MO) (xs : List XV) : argsOf (.tm m :: xs) = (argsOf xs).map (SV.lk m :: ·) := by
  cases h : argsOf xs <;> simp only [argsOf, XV.arg, h] <;> rfl
@[simp] theorem args_lk (m : MO) (xs : List XV) : argsOf (.lk m :: xs) = (argsOf xs).map (SV.lk m :: ·) := by
  cases h : argsOf xs <;> simp only [argsOf, XV.arg, h] <;> rfl
@[simp] theorem tst_ok (b : Bool) : tst (.ok (.cl (.bl b))) = .ok b := rfl
@[simp] theorem tst_stuck : tst .stuck = .stuck := rfl
@[simp] theorem notF_b (b : Bool) : notF (.cl (.bl b)) = .ok (.cl (.bl (!b))) := rfl
@[simp] theorem andF_t (r : R XV) : andF (.cl (.bl true)) r = r.bind boolF := rfl
@[simp] theorem andF_f (r : R XV) : andF (.cl (.bl false)) r = .ok (.cl (.bl false)) := rfl
@[simp] theorem orF_t (r : R XV) : orF (.cl (.bl true)) r = .ok (.cl (.bl true)) := rfl
@[simp] theorem orF_f (r : R XV) : orF (.cl (.bl false)) r = r.bind boolF := rfl
@[simp] theorem boolF_b (b : Bool) : boolF (.cl (.bl b)) = .ok (.cl (.bl b)) := rfl
theorem andF_ok (a b : Bool) : andF (.cl (.bl a)) (.ok (.cl (.bl b))) = .ok (.cl (.bl (a && b))) := by cases a <;> rfl
theorem orF_ok (a b : Bool) : orF (.cl (.bl a)) (.ok (.cl (.bl b))) = .ok (.cl (.bl (a || b))) := by cases a <;> rfl
@[simp] theorem bopF_cl (o : BOp) (d e : D) : bopF o (.cl d) (.cl e) = R.of (bop o d e) := rfl
@[simp] theorem bop_int (o : BOp) (i j : Int) : bop o (.int i) (.int j) = (bopI o i j).map .cl := rfl
@[simp] theorem bopI_add (i j : Int) : bopI .add i j = some (.int (i + j)) := rfl
@[simp] theorem bopI_sub (i j : Int) : bopI .sub i j = some (.int (i - j)) := rfl
theorem bopI_mul {i j : Int} (h : i.natAbs.log2 + j.natAbs.log2 < 1000000) : bopI .mul i j = some (.int (i * j)) := by simp [bopI, h]
theorem bopI_fdiv {i j : Int} (h : 0 < j) (h2 : j.natAbs.log2 < 9000) : bopI .fdiv i j = some (.int (i / j)) := by simp [bopI, h, h2]
theorem bopI_mod {i j : Int} (h : 0 < j) : bopI .mod i j = some (.int (i % j)) := by simp [bopI, h]
theorem bopI_shr {i j : Int} (h : 0 ≤ j) : bopI .shr i j = some (.int (i / 2 ^ j.toNat)) := by simp [bopI, h]
theorem bopI_pow {i j : Int} (h : 0 ≤ j) (h1 : j ≤ 1000000) (h2 : i.natAbs < 2 ^ 64) : bopI .pow i j = some (.int (i ^ j.toNat)) := by simp [bopI, h, h1, h2]
@[simp] theorem negF_int (i : Int) : negF (.cl (.int i)) = .ok (.cl (.int (-i))) := rfl
@[simp] theorem cmpF_lt (i j : Int) : cmpF .lt (.cl (.int i)) (.cl (.int j)) = .ok (.cl (.bl (decide (i < j)))) := rfl
@[simp] theorem cmpF_le (i j : Int) : cmpF .le (.cl (.int i)) (.cl (.int j)) = .ok (.cl (.bl (decide (i ≤ j)))) := rfl
@[simp] theorem cmpF_gt (i j : Int) : cmpF .gt (.cl (.int i)) (.cl (.int j)) = .ok (.cl (.bl (decide (j < i)))) := rfl
@[simp] theorem cmpF_ge (i j : Int) : cmpF .ge (.cl (.int i)) (.cl (.int j)) = .ok (.cl (.bl (decide (j ≤ i)))) := rfl
theorem shaped_int (i : Int) : PySem.SeqAt.shaped (.int i) = true := by
  unfold PySem.SeqAt.shaped
  rfl
theorem eqD_int (i j : Int) : eqD (.int i) (.int j) = some (decide (i = j)) := by
  unfold eqD
  simp only [D.py]
  rw [if_pos ⟨shaped_int i, shaped_int j⟩]
  show some (i == j) = _
  rw [Bool.beq_eq_decide_eq]
@[simp] theorem cmpF_eq (i j : Int) : cmpF .eq (.cl (.int i)) (.cl (.int j)) = .ok (.cl (.bl (decide (i = j)))) := by
  unfold cmpF cop; simp [eqD_int]
@[simp] theorem cmpF_ne (i j : Int) : cmpF .ne (.cl (.int i)) (.cl (.int j)) = .ok (.cl (.bl (!decide (i = j)))) := by
  unfold cmpF cop; simp [eqD_int]
@[simp] theorem isNF_cl_int (i : Int) : isNF (.cl (.int i)) = some false := rfl
@[simp] theorem isNF_cl_non : isNF (.cl .non) = some true := rfl
@[simp] theorem isNF_cl_tup (ds : List D) : isNF (.cl (.tup ds)) = some false := rfl
@[simp] theorem isNF_cl_lst (ds : List D) : isNF (.cl (.lst ds)) = some false := rfl
@[simp] theorem isNF_cl_bl (b : Bool) : isNF (.cl (.bl b)) = some false := rfl
@[simp] theorem retF_cl (d : D) : retF (.cl d) = some (.rt (.cl d)) := rfl
@[simp] theorem retF_nw (m : MO) : retF (.nw m) = some (.rt (.nw m)) := rfl
@[simp] theorem retR_cl (d : D) : retR (some (.rt (.cl d))) = .ok (.cl d) := rfl
@[simp] theorem retR_nw (m : MO) : retR (some (.rt (.nw m))) = .ok (.nw m) := rfl
@[simp] theorem retR_nx (sl : Sl) : retR (some (.nx sl)) = .ok (.cl .non) := rfl
@[simp] theorem retR_ex (e : Exn) (sl : Sl) : retR (some (.ex e sl)) = .exc e := rfl
@[simp] theorem fzF_nw (m : MO) : fzF (.nw m) = .ok (.cl m.toD) := rfl
@[simp] theorem fzF_cl (d : D) : fzF (.cl d) = .ok (.cl d) := rfl
@[simp] theorem clL_nil : clL [] = some [] := rfl
@[simp] theorem clL_cl (d : D) (xs : List XV) : clL (.cl d :: xs) = (clL xs).map (d :: ·) := rfl
@[simp] theorem moL_nil : moL [] = some [] := rfl
@[simp] theorem moL_cl (d : D) (xs : List XV) : moL (.cl d :: xs) = (moL xs).map (MO.cl d :: ·) := rfl
@[simp] theorem moL_nw (m : MO) (xs : List XV) : moL (.nw m :: xs) = (moL xs).map (m :: ·) := rfl
@[simp] theorem toD_cl (d : D) : (MO.cl d).toD = d := rfl
@[simp] theorem toD_lst (ms : List MO) : (MO.lst ms).toD = .lst (MO.toDL ms) := rfl
@[simp] theorem toD_tup (ms : List MO) : (MO.tup ms).toD = .tup (MO.toDL ms) := rfl
@[simp] theorem toDL_nil : MO.toDL [] = [] := rfl
@[simp] theorem toDL_cons (m : MO) (ms : List MO) : MO.toDL (m :: ms) = m.toD :: MO.toDL ms := rfl
theorem tupF_small {xs : List XV} {ds : List D} (h : xs.length ≤ 1000) (e : clL xs = some ds) : tupF xs = .ok (.cl (.tup ds)) := by
  unfold tupF; rw [if_pos h, e]
theorem lstF_small {xs : List XV} {ms : List MO} (h : xs.length ≤ 1000) (e : moL xs = some ms) : lstF xs = .ok (.nw (.lst ms)) := by
  unfold lstF; rw [if_pos h, e]
@[simp] theorem rng1F_int (j : Int) : rng1F (.cl (.int j)) = .ok (rangeD 0 j.toNat) := rfl
@[simp] theorem rng2F_int (i j : Int) : rng2F (.cl (.int i)) (.cl (.int j)) = .ok (rangeD i (j - i).toNat) := rfl
theorem rng3F_int {i j d : Int} (h : 0 < d) (h2 : d.natAbs.log2 < 9000) : rng3F (.cl (.int i)) (.cl (.int j)) (.cl (.int d)) = .ok (rangeC i d (cntR i j d)) := by
  unfold rng3F
  simp only
  rw [if_pos ⟨h, h2⟩]
theorem blt_divmod {i j : Int} (h : 0 < j) (h2 : j.natAbs.log2 < 9000) : blt .divmod [.cl (.int i), .cl (.int j)] = some (.cl (.tup [.int (i / j), .int (i % j)])) := by
  unfold blt divmodB
  simp only
  rw [if_pos ⟨h, h2⟩]
@[simp] theorem blt_list (ds : List D) : blt .list1 [.cl (.lst ds)] = some (.nw (.lst (ds.map .cl))) := rfl
@[simp] theorem blt_int (i : Int) : blt .int1 [.cl (.int i)] = some (.cl (.int i)) := rfl
@[simp] theorem blt_intb (k : Bool) : blt .int1 [.cl (.bl k)] = some (.cl (.int (if k then 1 else 0))) := rfl
@[simp] theorem blt_max3 (i j k : Int) : blt .max3 [.cl (.int i), .cl (.int j), .cl (.int k)] = some (.cl (.int (maxI (maxI i j) k))) := rfl
@[simp] theorem cmpF_is (a b : Bool) : cmpF .is_ (.cl (.bl a)) (.cl (.bl b)) = .ok (.cl (.bl (decide (a = b)))) := rfl
@[simp] theorem cmpF_isnt (a b : Bool) : cmpF .isnt (.cl (.bl a)) (.cl (.bl b)) = .ok (.cl (.bl (!decide (a = b)))) := rfl
@[simp] theorem itF_lst (ds : List D) : itF (.cl (.lst ds)) = .ok ds := rfl
@[simp] theorem itF_tup (ds : List D) : itF (.cl (.tup ds)) = .ok ds := rfl
@[simp] theorem mo_cl (d : D) : XV.mo (.cl d) = some (.cl d) := rfl
@[simp] theorem mo_lk (m : MO) : XV.mo (.lk m) = some m := rfl
@[simp] theorem mo_tm (m : MO) : XV.mo (.tm m) = some m := rfl
@[simp] theorem kids_tup (ds : List D) : MO.kids (.cl (.tup ds)) = some (ds.map .cl) := rfl
@[simp] theorem kids_lst (ds : List D) : MO.kids (.cl (.lst ds)) = some (ds.map .cl) := rfl
@[simp] theorem kids_lst' (ms : List MO) : MO.kids (.lst ms) = some ms := rfl
@[simp] theorem kids_tup' (ms : List MO) : MO.kids (.tup ms) = some ms := rfl
@[simp] theorem sub_cl (x : XV) (d : D) : XV.sub x (.cl d) = .cl d := rfl
/-- a row's i-th -/
theorem idx_lst {ds : List D} {n : Int} {d : D} (h : atI ds n = some d) : idx (.cl (.lst ds)) (.cl (.int n)) = some (.cl d) := by
  obtain ⟨j, h1, h2⟩ := atI_some h
  have : atI (ds.map MO.cl) n = some (.cl d) := atI_of (by rw [List.length_map]; exact h1) (by rw [List.getElem?_map, h2]; rfl)
  simp [idx, this]
theorem idx_tup {ds : List D} {n : Int} {d : D} (h : atI ds n = some d) : idx (.cl (.tup ds)) (.cl (.int n)) = some (.cl d) := by
  obtain ⟨j, h1, h2⟩ := atI_some h
  have : atI (ds.map MO.cl) n = some (.cl d) := atI_of (by rw [List.length_map]; exact h1) (by rw [List.getElem?_map, h2]; rfl)
  simp [idx, this]
theorem atI_nn {α : Type} {xs : List α} {n : Int} {x : α} (h0 : 0 ≤ n) (h : xs[n.toNat]? = some x) : atI xs n = some x := by
  have hl : n.toNat < xs.length := by
    rcases Nat.lt_or_ge n.toNat xs.length with q | q
    · exact q
    · rw [List.getElem?_eq_none q] at h; cases h
  refine atI_of (j := n.toNat) ?_ h
  unfold ixN
  rw [if_pos h0, if_pos (by omega)]
@[simp] theorem blt_len (xs : List XV) : blt .len xs = lenB xs := rfl
@[simp] theorem lenB_lst (ds : List D) : lenB [.cl (.lst ds)] = some (.cl (.int ds.length)) := by simp [lenB, lenX]
@[simp] theorem lenB_tup (ds : List D) : lenB [.cl (.tup ds)] = some (.cl (.int ds.length)) := by simp [lenB, lenX]
@[simp] theorem lenB_tm (ms : List MO) : lenB [.tm (.lst ms)] = some (.cl (.int ms.length)) := by simp [lenB, lenX]
@[simp] theorem lenB_lk (ms : List MO) : lenB [.lk (.lst ms)] = some (.cl (.int ms.length)) := by simp [lenB, lenX]
@[simp] theorem isiF_cl (t : Ty) (d : D) : isiF t (.cl d) = match d.ty with | some a => .ok (.cl (.bl (isTy a t))) | none => .stuck := rfl
@[simp] theorem tgo_n (i : Nat) (d : D) (sl : Sl) : tgo (.n i) d sl = some (sl.set i (.cl d)) := by unfold tgo; rfl
@[simp] theorem tgo_t (ts : List Tg) (ds : List D) (sl : Sl) : tgo (.t ts) (.tup ds) sl = tgoL ts ds sl := by unfold tgo; rfl
@[simp] theorem tgoL_nil (sl : Sl) : tgoL [] [] sl = some sl := by unfold tgoL; rfl
@[simp] theorem tgoL_cons (t : Tg) (ts : List Tg) (d : D) (ds : List D) (sl : Sl) : tgoL (t :: ts) (d :: ds) sl = match tgo t d sl with | some s => tgoL ts ds s | none => none := by
  conv => lhs; unfold tgoL
  all_goals (cases tgo t d sl <;> rfl)
/-! ### loops -/
theorem forL_nil (g : D → Sl → Option Sl) (b : Sl → RO) (sl : Sl) : forL g b [] sl = some (.nx sl) := rfl
/-- every turn goes on, and what held holds -/
theorem forL_all {g : D → Sl → Option Sl} {b : Sl → RO} (P : Sl → Prop) : ∀ {ds : List D} {sl : Sl}, (∀ d ∈ ds, ∀ sl, P sl → ∃ s1, g d sl = some s1 ∧ ∃ s2, b s1 = some (.nx s2) ∧ P s2) → P sl → ∃ s', forL g b ds sl = some (.nx s') ∧ P s'
  | [], sl, _, hp => ⟨sl, rfl, hp⟩
  | d :: ds, sl, h, hp => by
    obtain ⟨s1, h1, s2, h2, h3⟩ := h d List.mem_cons_self sl hp
    obtain ⟨s', h4, h5⟩ := forL_all P (ds := ds) (fun d hd => h d (List.mem_cons_of_mem _ hd)) h3
    refine ⟨s', ?_, h5⟩
    rw [forL_turn, h1]
    show turnF (b s1) _ = _
    rw [h2]
    exact h4
theorem for_then {c : Calls} {t : Tg} {it : It} {b rest : Ss} {sl : Sl} {ds : List D} {X : RO} (P : Sl → Prop) (he : evIt c it sl = .ok ds) (hp : P sl) (h : ∀ d ∈ ds, ∀ sl, P sl → ∃ s1, tgo t d sl = some s1 ∧ ∃ s2, evSs c b s1 = some (.nx s2) ∧ P s2) (hr : ∀ s', P s' → evSs c rest s' = X) : evSs c (.cons (.for_ t it b) rest) sl = X := by
  obtain ⟨s', h1, h2⟩ := forL_all P h hp
  rw [evSs_cons, evS_for, he]
  show seqO (forL (tgo t) (evSs c b) ds sl) _ = X
  rw [h1]
  exact hr s' h2
theorem evF_of {c : Calls} {np n : Nat} {b : Ss} {ss : List SV} {r : R XV} (h : ss.length = np) (e : retR (evSs c b (ss ++ List.replicate (n - np) .no)) = r) : evF c np n b ss = r := by
  unfold evF
  rw [if_pos h]
  exact e
theorem evF_rt {c : Calls} {np n : Nat} {b : Ss} {ss : List SV} {d : D} (h : ss.length = np) (e : evSs c b (ss ++ List.replicate (n - np) .no) = some (.rt (.cl d))) : evF c np n b ss = .ok (.cl d) :=
  evF_of h (by rw [e]; rfl)
theorem rangeD_mem {lo : Int} {n : Nat} {d : D} (h : d ∈ rangeD lo n) : ∃ i : Nat, i < n ∧ d = .int (lo + i) := by
  unfold rangeD at h
  obtain ⟨i, h1, h2⟩ := List.mem_map.mp h
  exact ⟨i, List.mem_range.mp h1, h2.symm⟩
theorem rangeD_memI {lo : Int} {n : Nat} {d : D} (h : d ∈ rangeD lo n) : ∃ k : Int, lo ≤ k ∧ k < lo + n ∧ d = .int k := by
  obtain ⟨i, h1, h2⟩ := rangeD_mem h
  exact ⟨lo + i, by omega, by omega, h2⟩
/-! ### sizes -/
theorem log2_lt {n k : Nat} (h : n < 2 ^ k) (hk : 0 < k) : n.log2 < k := PySem.Flt.log2_lt_of hk h
theorem mul_okN {i j : Int} (a b : Nat) (hi : i.natAbs < 2 ^ a) (hj : j.natAbs < 2 ^ b) (h : a + b ≤ 1000000 := by decide) (ha : 0 < a := by decide) (hb : 0 < b := by decide) : i.natAbs.log2 + j.natAbs.log2 < 1000000 := by
  have := log2_lt hi ha
  have := log2_lt hj hb
  omega
/-- of two numbers of at most 64 bits -/
theorem mul_ok64 {i j : Int} (hi : -(2 ^ 64) < i) (hi2 : i < 2 ^ 64) (hj : -(2 ^ 64) < j) (hj2 : j < 2 ^ 64) : i.natAbs.log2 + j.natAbs.log2 < 1000000 :=
  mul_okN 64 64 (by omega) (by omega)
/-! ### the laws' draws -/
def cellAt (ns : List Int) (k : Int) : Int := if 0 < ns.length then ns.getD (k % (ns.length : Int)).toNat 0 else 0
def lawBy (ns : List Int) (k many : Int) : Int :=
  if cellAt ns 0 % 2 = 1 then (cellAt ns k / 2 ^ (1 + 20 * (k / (ns.length : Int))).toNat) % many
  else (((cellAt ns k % 1000003 + 31 * k * k + 1) * 48271 % 999983) * 7919 % 524287) % many
theorem lawBy_nn {ns : List Int} {k many : Int} (h : 0 < many) : 0 ≤ lawBy ns k many := by
  unfold lawBy; split <;> exact Int.emod_nonneg _ (by omega)
theorem lawBy_lt {ns : List Int} {k many : Int} (h : 0 < many) : lawBy ns k many < many := by
  unfold lawBy; split <;> exact Int.emod_lt_of_pos _ h
abbrev scr (ns : List Int) : D := .lst (ns.map .int)
def B_cell_at : Ss := (.cons (.ifs (.cmp .gt (.blt .len (.cons (.var 0) .nil)) (.int 0)) (.cons (.ret (.sub (.var 0) (.bin .mod (.var 1) (.blt .len (.cons (.var 0) .nil))))) .nil) .nil) (.cons (.ret (.int 0)) .nil))
theorem cell_at_ok (c : Calls) (ns : List Int) (k : Int) : evF c 2 2 B_cell_at [.cl (scr ns), .cl (.int k)] = .ok (.cl (.int (cellAt ns k))) := by
  unfold evF B_cell_at
  by_cases h : 0 < ns.length
  · have h' : (0 : Int) < ns.length := by omega
    have m0 := Int.emod_nonneg k (show (ns.length : Int) ≠ 0 by omega)
    have m1 := Int.emod_lt_of_pos k h'
    have hx : (ns.map D.int)[(k % (ns.length : Int)).toNat]? = some (.int (cellAt ns k)) := by
      rw [List.getElem?_map]
      have : (k % (ns.length : Int)).toNat < ns.length := by omega
      rw [List.getElem?_eq_getElem this]
      unfold cellAt
      rw [if_pos h]
      simp [List.getD, List.getElem?_eq_getElem this]
    simp [h, bopI_mod, idx_lst (atI_nn m0 hx)]
  · have h' : ns = [] := by
      cases ns with
      | nil => rfl
      | cons a r => simp at h
    subst h'
    simp [cellAt]
def B_by : Ss := (.cons (.asg 3 (.call "_law_cell_at" (.cons (.var 0) (.cons (.var 1) .nil)))) (.cons (.ifs (.cmp .eq (.bin .mod (.call "_law_cell_at" (.cons (.var 0) (.cons (.int 0) .nil))) (.int 2)) (.int 1)) (.cons (.ret (.bin .mod (.bin .shr (.var 3) (.bin .add (.int 1) (.bin .mul (.int 20) (.bin .fdiv (.var 1) (.blt .len (.cons (.var 0) .nil)))))) (.var 2))) .nil) .nil) (.cons (.asg 4 (.bin .add (.bin .add (.bin .mod (.var 3) (.int 1000003)) (.bin .mul (.bin .mul (.int 31) (.var 1)) (.var 1))) (.int 1))) (.cons (.ret (.bin .mod (.bin .mod (.bin .mul (.bin .mod (.bin .mul (.var 4) (.int 48271)) (.int 999983)) (.int 7919)) (.int 524287)) (.var 2))) .nil))))
theorem by_ok (c : Calls) (hc : ∀ ns k, c "_law_cell_at" [.cl (scr ns), .cl (.int k)] = .ok (.cl (.int (cellAt ns k)))) (ns : List Int) (hl : ns.length ≤ 63) (k many : Int) (hk : 0 ≤ k) (hk2 : k ≤ 1000000) (hm : 0 < many) :
    evF c 3 5 B_by [.cl (scr ns), .cl (.int k), .cl (.int many)] = .ok (.cl (.int (lawBy ns k many))) := by
  unfold evF B_by
  have kk : 0 ≤ k * k ∧ k * k ≤ 1000000 * 1000000 := ⟨Int.mul_nonneg hk hk, Int.mul_le_mul hk2 hk2 hk (by omega)⟩
  by_cases h : cellAt ns 0 % 2 = 1
  · have h0 : 0 < ns.length := by
      rcases Nat.eq_zero_or_pos ns.length with z | z
      · unfold cellAt at h; simp [z] at h
      · exact z
    have hq0 : 0 ≤ k / (ns.length : Int) := Int.ediv_nonneg hk (by omega)
    have hq1 : k / (ns.length : Int) ≤ k := Int.ediv_le_self _ hk
    have e1 := bopI_fdiv (i := k) (j := (ns.length : Int)) (by omega) (Nat.lt_of_lt_of_le (log2_lt (k := 6) (by omega) (by decide)) (by decide))
    have e2 := bopI_mul (i := 20) (j := k / (ns.length : Int)) (mul_ok64 (by decide) (by decide) (by omega) (by omega))
    have e3 := bopI_shr (i := cellAt ns k) (j := 1 + 20 * (k / (ns.length : Int))) (by omega)
    have e4 := bopI_mod (i := cellAt ns k / 2 ^ (1 + 20 * (k / (ns.length : Int))).toNat) hm
    simp [hc, bopI_mod, h, e1, e2, e3, e4, lawBy]
  · have m0 := Int.emod_nonneg (cellAt ns k) (show (1000003 : Int) ≠ 0 by decide)
    have m1 := Int.emod_lt_of_pos (cellAt ns k) (show (0 : Int) < 1000003 by decide)
    have a31 : 31 * k * k = 31 * (k * k) := by rw [Int.mul_assoc]
    have e1 := bopI_mul (i := 31) (j := k) (mul_ok64 (by decide) (by decide) (by omega) (by omega))
    have e2 := bopI_mul (i := 31 * k) (j := k) (mul_ok64 (by omega) (by omega) (by omega) (by omega))
    have e3 := bopI_mul (i := cellAt ns k % 1000003 + 31 * k * k + 1) (j := 48271) (mul_ok64 (by omega) (by omega) (by decide) (by decide))
    have n0 := Int.emod_nonneg ((cellAt ns k % 1000003 + 31 * k * k + 1) * 48271) (show (999983 : Int) ≠ 0 by decide)
    have n1 := Int.emod_lt_of_pos ((cellAt ns k % 1000003 + 31 * k * k + 1) * 48271) (show (0 : Int) < 999983 by decide)
    have e4 := bopI_mul (i := (cellAt ns k % 1000003 + 31 * k * k + 1) * 48271 % 999983) (j := 7919) (mul_ok64 (by omega) (by omega) (by decide) (by decide))
    have e5 := bopI_mod (i := ((cellAt ns k % 1000003 + 31 * k * k + 1) * 48271 % 999983) * 7919 % 524287) hm
    simp [hc, bopI_mod, h, e1, e2, e3, e4, e5, lawBy]
/-! ### menus -/
def pick (l : List Int) (i : Int) : Int := l.getD i.toNat 0
theorem pick_mem {l : List Int} {i : Int} (h0 : 0 ≤ i) (h1 : i < l.length) : pick l i ∈ l := by
  unfold pick
  have : i.toNat < l.length := by omega
  rw [List.getD_eq_getElem?_getD, List.getElem?_eq_getElem this]
  exact List.getElem_mem this
theorem idx_pick {l : List Int} {i : Int} (h0 : 0 ≤ i) (h1 : i < l.length) : idx (.cl (.lst (l.map .int))) (.cl (.int i)) = some (.cl (.int (pick l i))) := by
  have : i.toNat < l.length := by omega
  refine idx_lst (atI_nn h0 ?_)
  rw [List.getElem?_map, List.getElem?_eq_getElem this]
  unfold pick
  rw [List.getD_eq_getElem?_getD, List.getElem?_eq_getElem this]
  rfl
theorem idx2 {a b i : Int} (h0 : 0 ≤ i) (h1 : i < 2) : idx (.cl (.lst [.int a, .int b])) (.cl (.int i)) = some (.cl (.int (pick [a, b] i))) := idx_pick (l := [a, b]) h0 h1
theorem idx3 {a b c i : Int} (h0 : 0 ≤ i) (h1 : i < 3) : idx (.cl (.lst [.int a, .int b, .int c])) (.cl (.int i)) = some (.cl (.int (pick [a, b, c] i))) := idx_pick (l := [a, b, c]) h0 h1
theorem idx4 {a b c d i : Int} (h0 : 0 ≤ i) (h1 : i < 4) : idx (.cl (.lst [.int a, .int b, .int c, .int d])) (.cl (.int i)) = some (.cl (.int (pick [a, b, c, d] i))) := idx_pick (l := [a, b, c, d]) h0 h1
theorem idx5 {a b c d e i : Int} (h0 : 0 ≤ i) (h1 : i < 5) : idx (.cl (.lst [.int a, .int b, .int c, .int d, .int e])) (.cl (.int i)) = some (.cl (.int (pick [a, b, c, d, e] i))) := idx_pick (l := [a, b, c, d, e]) h0 h1
theorem pick2 {P : Int → Prop} {a b i : Int} (h0 : 0 ≤ i) (h1 : i < 2) (ha : P a) (hb : P b) : P (pick [a, b] i) := by
  have := pick_mem (l := [a, b]) h0 h1
  simp only [List.mem_cons, List.not_mem_nil, or_false] at this
  rcases this with e | e <;> rw [e] <;> assumption
theorem pick3 {P : Int → Prop} {a b c i : Int} (h0 : 0 ≤ i) (h1 : i < 3) (ha : P a) (hb : P b) (hc : P c) : P (pick [a, b, c] i) := by
  have := pick_mem (l := [a, b, c]) h0 h1
  simp only [List.mem_cons, List.not_mem_nil, or_false] at this
  rcases this with e | e | e <;> rw [e] <;> assumption
theorem pick4 {P : Int → Prop} {a b c d i : Int} (h0 : 0 ≤ i) (h1 : i < 4) (ha : P a) (hb : P b) (hc : P c) (hd : P d) : P (pick [a, b, c, d] i) := by
  have := pick_mem (l := [a, b, c, d]) h0 h1
  simp only [List.mem_cons, List.not_mem_nil, or_false] at this
  rcases this with e | e | e | e <;> rw [e] <;> assumption
theorem pick5 {P : Int → Prop} {a b c d e i : Int} (h0 : 0 ≤ i) (h1 : i < 5) (ha : P a) (hb : P b) (hc : P c) (hd : P d) (he : P e) : P (pick [a, b, c, d, e] i) := by
  have := pick_mem (l := [a, b, c, d, e]) h0 h1
  simp only [List.mem_cons, List.not_mem_nil, or_false] at this
  rcases this with z | z | z | z | z <;> rw [z] <;> assumption
end Mo
namespace Mo
open PySem PySem.Spec PyProof.Rows L2
/-! ### the laws' rounds and turns -/
@[simp] theorem get_zero {α : Type} (a : α) (l : List α) : (a :: l)[0]? = some a := rfl
structure Draws (c : Calls) : Prop where
  cell : ∀ ns k, c "_law_cell_at" [.cl (scr ns), .cl (.int k)] = .ok (.cl (.int (cellAt ns k)))
  by_ : ∀ ns k many, ns.length ≤ 63 → 0 ≤ k → k ≤ 1000000 → 0 < many → c "_law_by" [.cl (scr ns), .cl (.int k), .cl (.int many)] = .ok (.cl (.int (lawBy ns k many)))
abbrev beatD (f e l : Int) : D := .tup [.int f, .int e, .int l]
@[simp] theorem idxL2 {a b k : Int} {ns : List Int} : idx (.cl (.lst [.int a, .int b])) (.cl (.int (lawBy ns k 2))) = some (.cl (.int (pick [a, b] (lawBy ns k 2)))) := idx2 (lawBy_nn (by omega)) (lawBy_lt (by omega))
@[simp] theorem idxL3 {a b c k : Int} {ns : List Int} : idx (.cl (.lst [.int a, .int b, .int c])) (.cl (.int (lawBy ns k 3))) = some (.cl (.int (pick [a, b, c] (lawBy ns k 3)))) := idx3 (lawBy_nn (by omega)) (lawBy_lt (by omega))
@[simp] theorem idxL4 {a b c d k : Int} {ns : List Int} : idx (.cl (.lst [.int a, .int b, .int c, .int d])) (.cl (.int (lawBy ns k 4))) = some (.cl (.int (pick [a, b, c, d] (lawBy ns k 4)))) := idx4 (lawBy_nn (by omega)) (lawBy_lt (by omega))
@[simp] theorem idxL5 {a b c d e k : Int} {ns : List Int} : idx (.cl (.lst [.int a, .int b, .int c, .int d, .int e])) (.cl (.int (lawBy ns k 5))) = some (.cl (.int (pick [a, b, c, d, e] (lawBy ns k 5)))) := idx5 (lawBy_nn (by omega)) (lawBy_lt (by omega))
@[simp] theorem idxT0 {a : D} {ds : List D} : idx (.cl (.tup (a :: ds))) (.cl (.int 0)) = some (.cl a) := idx_tup (atI_nn (by omega) rfl)
@[simp] theorem idxT1 {a b : D} {ds : List D} : idx (.cl (.tup (a :: b :: ds))) (.cl (.int 1)) = some (.cl b) := idx_tup (atI_nn (by omega) rfl)
@[simp] theorem idxT2 {a b d : D} {ds : List D} : idx (.cl (.tup (a :: b :: d :: ds))) (.cl (.int 2)) = some (.cl d) := idx_tup (atI_nn (by omega) rfl)
@[simp] theorem idxS0 {a : D} {ds : List D} : idx (.cl (.lst (a :: ds))) (.cl (.int 0)) = some (.cl a) := idx_lst (atI_nn (by omega) rfl)
@[simp] theorem idxS1 {a b : D} {ds : List D} : idx (.cl (.lst (a :: b :: ds))) (.cl (.int 1)) = some (.cl b) := idx_lst (atI_nn (by omega) rfl)
@[simp] theorem tupF_2 {a b : D} : tupF [.cl a, .cl b] = .ok (.cl (.tup [a, b])) := rfl
@[simp] theorem tupF_3 {a b d : D} : tupF [.cl a, .cl b, .cl d] = .ok (.cl (.tup [a, b, d])) := rfl
@[simp] theorem lstF_0 : lstF [] = .ok (.nw (.lst [])) := rfl
@[simp] theorem lstF_1 {a : D} : lstF [.cl a] = .ok (.nw (.lst [.cl a])) := rfl
@[simp] theorem lstF_2 {a b : D} : lstF [.cl a, .cl b] = .ok (.nw (.lst [.cl a, .cl b])) := rfl
@[simp] theorem lstF_3 {a b d : D} : lstF [.cl a, .cl b, .cl d] = .ok (.nw (.lst [.cl a, .cl b, .cl d])) := rfl
@[simp] theorem lstF_4 {a b d e : D} : lstF [.cl a, .cl b, .cl d, .cl e] = .ok (.nw (.lst [.cl a, .cl b, .cl d, .cl e])) := rfl
@[simp] theorem lstF_5 {a b d e f : D} : lstF [.cl a, .cl b, .cl d, .cl e, .cl f] = .ok (.nw (.lst [.cl a, .cl b, .cl d, .cl e, .cl f])) := rfl
@[simp] theorem blt_max2 (i j : Int) : blt .max2 [.cl (.int i), .cl (.int j)] = some (.cl (.int (if j > i then j else i))) := rfl
@[simp] theorem blt_min2 (i j : Int) : blt .min2 [.cl (.int i), .cl (.int j)] = some (.cl (.int (if j < i then j else i))) := rfl
theorem eqD_bl (a b : Bool) : eqD (.bl a) (.bl b) = some (decide (a = b)) := by
  unfold eqD
  simp only [D.py]
  rw [if_pos ⟨by unfold PySem.SeqAt.shaped; rfl, by unfold PySem.SeqAt.shaped; rfl⟩]
  cases a <;> cases b <;> rfl
@[simp] theorem cmpF_eqb (a b : Bool) : cmpF .eq (.cl (.bl a)) (.cl (.bl b)) = .ok (.cl (.bl (decide (a = b)))) := by
  unfold cmpF cop; simp [eqD_bl]
@[simp] theorem cmpF_neb (a b : Bool) : cmpF .ne (.cl (.bl a)) (.cl (.bl b)) = .ok (.cl (.bl (!decide (a = b)))) := by
  unfold cmpF cop; simp [eqD_bl]
@[simp] theorem andF_b (a b : Bool) : andF (.cl (.bl a)) (.ok (.cl (.bl b))) = .ok (.cl (.bl (a && b))) := andF_ok a b
@[simp] theorem orF_b (a b : Bool) : orF (.cl (.bl a)) (.ok (.cl (.bl b))) = .ok (.cl (.bl (a || b))) := orF_ok a b
theorem bopI_pow10 {j : Int} (h : 0 ≤ j) (h1 : j ≤ 1000000) : bopI .pow 10 j = some (.int (10 ^ j.toNat)) := bopI_pow h h1 (by decide)
@[simp] theorem pow_20 : bopI .pow 10 20 = some (.int 100000000000000000000) := by rw [bopI_pow10 (by decide) (by decide)]; rfl
@[simp] theorem pow_30 : bopI .pow 10 30 = some (.int 1000000000000000000000000000000) := by rw [bopI_pow10 (by decide) (by decide)]; rfl
@[simp] theorem pow_40 : bopI .pow 10 40 = some (.int 10000000000000000000000000000000000000000) := by rw [bopI_pow10 (by decide) (by decide)]; rfl
@[simp] theorem pow_50 : bopI .pow 10 50 = some (.int 100000000000000000000000000000000000000000000000000) := by rw [bopI_pow10 (by decide) (by decide)]; rfl
@[simp] theorem pow_12 : bopI .pow 10 12 = some (.int 1000000000000) := by rw [bopI_pow10 (by decide) (by decide)]; rfl
@[simp] theorem pow_16 : bopI .pow 10 16 = some (.int 10000000000000000) := by rw [bopI_pow10 (by decide) (by decide)]; rfl
@[simp] theorem pow_45 : bopI .pow 10 45 = some (.int 1000000000000000000000000000000000000000000000) := by rw [bopI_pow10 (by decide) (by decide)]; rfl
def rdEvery (ns : List Int) (k : Int) : Int := if lawBy ns (k + 1) 3 = 0 then 1 + cellAt ns (k + 1) % 1000000000000000000000000000000 else 1 + lawBy ns k 24
def rdLong (ns : List Int) (k : Int) : Int := pick [1, rdEvery ns k, 1 + lawBy ns (k + 2) 40 % rdEvery ns k, 1 + cellAt ns (k + 2) % rdEvery ns k] (lawBy ns (k + 5) 4)
def rdFirst (ns : List Int) (k : Int) : Int := if lawBy ns (k + 4) 3 = 0 then cellAt ns (k + 4) % 10000000000000000000000000000000000000000 else lawBy ns (k + 3) 30
theorem rdEvery_b (ns : List Int) (k : Int) : 1 ≤ rdEvery ns k ∧ rdEvery ns k ≤ 1000000000000000000000000000000 := by
  unfold rdEvery
  have := lawBy_nn (ns := ns) (k := k) (many := 24) (by omega)
  have := lawBy_lt (ns := ns) (k := k) (many := 24) (by omega)
  split <;> omega
theorem rdFirst_b (ns : List Int) (k : Int) : 0 ≤ rdFirst ns k ∧ rdFirst ns k ≤ 10000000000000000000000000000000000000000 := by
  unfold rdFirst
  have := lawBy_nn (ns := ns) (k := k + 3) (many := 30) (by omega)
  have := lawBy_lt (ns := ns) (k := k + 3) (many := 30) (by omega)
  split <;> omega
theorem rdLong_b (ns : List Int) (k : Int) : 1 ≤ rdLong ns k ∧ rdLong ns k ≤ rdEvery ns k := by
  have := rdEvery_b ns k
  have a0 := Int.emod_nonneg (lawBy ns (k + 2) 40) (show rdEvery ns k ≠ 0 by omega)
  have a1 := Int.emod_lt_of_pos (lawBy ns (k + 2) 40) (show 0 < rdEvery ns k by omega)
  have b0 := Int.emod_nonneg (cellAt ns (k + 2)) (show rdEvery ns k ≠ 0 by omega)
  have b1 := Int.emod_lt_of_pos (cellAt ns (k + 2)) (show 0 < rdEvery ns k by omega)
  exact pick4 (P := fun v => 1 ≤ v ∧ v ≤ rdEvery ns k) (lawBy_nn (by omega)) (lawBy_lt (by omega)) (by omega) (by omega) (by omega) (by omega)
def B_round : Ss := (.cons (.asg 2 (.bin .add (.int 1) (.call "_law_by" (.cons (.var 0) (.cons (.var 1) (.cons (.int 24) .nil)))))) (.cons (.ifs (.cmp .eq (.call "_law_by" (.cons (.var 0) (.cons (.bin .add (.var 1) (.int 1)) (.cons (.int 3) .nil)))) (.int 0)) (.cons (.asg 2 (.bin .add (.int 1) (.bin .mod (.call "_law_cell_at" (.cons (.var 0) (.cons (.bin .add (.var 1) (.int 1)) .nil))) (.bin .pow (.int 10) (.int 30))))) .nil) .nil) (.cons (.asg 3 (.fz (.lst (.cons (.int 1) (.cons (.var 2) (.cons (.bin .add (.int 1) (.bin .mod (.call "_law_by" (.cons (.var 0) (.cons (.bin .add (.var 1) (.int 2)) (.cons (.int 40) .nil)))) (.var 2))) (.cons (.bin .add (.int 1) (.bin .mod (.call "_law_cell_at" (.cons (.var 0) (.cons (.bin .add (.var 1) (.int 2)) .nil))) (.var 2))) .nil))))))) (.cons (.asg 4 (.call "_law_by" (.cons (.var 0) (.cons (.bin .add (.var 1) (.int 3)) (.cons (.int 30) .nil))))) (.cons (.ifs (.cmp .eq (.call "_law_by" (.cons (.var 0) (.cons (.bin .add (.var 1) (.int 4)) (.cons (.int 3) .nil)))) (.int 0)) (.cons (.asg 4 (.bin .mod (.call "_law_cell_at" (.cons (.var 0) (.cons (.bin .add (.var 1) (.int 4)) .nil))) (.bin .pow (.int 10) (.int 40)))) .nil) .nil) (.cons (.ret (.tup (.cons (.var 4) (.cons (.var 2) (.cons (.sub (.var 3) (.call "_law_by" (.cons (.var 0) (.cons (.bin .add (.var 1) (.int 5)) (.cons (.int 4) .nil))))) .nil))))) .nil))))))
theorem round_ok {c : Calls} (dr : Draws c) (ns : List Int) (hl : ns.length ≤ 63) (k : Int) (hk : 0 ≤ k) (hk2 : k ≤ 10000) : evF c 2 5 B_round [.cl (scr ns), .cl (.int k)] = .ok (.cl (beatD (rdFirst ns k) (rdEvery ns k) (rdLong ns k))) := by
  have e1 := rdEvery_b ns k
  refine evF_rt rfl ?_
  unfold B_round
  unfold rdFirst rdLong
  have ee : rdEvery ns k = if lawBy ns (k + 1) 3 = 0 then 1 + cellAt ns (k + 1) % 1000000000000000000000000000000 else 1 + lawBy ns k 24 := rfl
  by_cases h1 : lawBy ns (k + 1) 3 = 0 <;> by_cases h2 : lawBy ns (k + 4) 3 = 0 <;> simp only [h1, if_true, if_false] at ee <;> rw [ee] at e1 ⊢ <;> simp (disch := omega) [dr.cell, dr.by_ ns _ _ hl, bopI_mod, h1, h2]
/-- a turn by the law -/
def tnEdge (ns : List Int) (k f e l : Int) : Int := f + pick [0, 1, lawBy ns k 9, cellAt ns k % 100000000000000000000] (lawBy ns (k + 1) 4) * e + pick [0, l] (lawBy ns (k + 2) 2)
def tnNear (ns : List Int) (k f e l : Int) : Int := pick [tnEdge ns k f e l, tnEdge ns k f e l - 1, tnEdge ns k f e l + 1, tnEdge ns k f e l + lawBy ns (k + 3) 50, lawBy ns (k + 4) 60] (lawBy ns (k + 5) 5)
def tnOf (ns : List Int) (k f e l : Int) : Int := if tnNear ns k f e l > 0 then tnNear ns k f e l else 0
def B_turn : Ss := (.cons (.asg 3 (.sub (.fz (.lst (.cons (.int 0) (.cons (.int 1) (.cons (.call "_law_by" (.cons (.var 0) (.cons (.var 1) (.cons (.int 9) .nil)))) (.cons (.bin .mod (.call "_law_cell_at" (.cons (.var 0) (.cons (.var 1) .nil))) (.bin .pow (.int 10) (.int 20))) .nil)))))) (.call "_law_by" (.cons (.var 0) (.cons (.bin .add (.var 1) (.int 1)) (.cons (.int 4) .nil)))))) (.cons (.asg 4 (.bin .add (.bin .add (.sub (.var 2) (.int 0)) (.bin .mul (.var 3) (.sub (.var 2) (.int 1)))) (.sub (.fz (.lst (.cons (.int 0) (.cons (.sub (.var 2) (.int 2)) .nil)))) (.call "_law_by" (.cons (.var 0) (.cons (.bin .add (.var 1) (.int 2)) (.cons (.int 2) .nil))))))) (.cons (.asg 5 (.fz (.lst (.cons (.var 4) (.cons (.bin .sub (.var 4) (.int 1)) (.cons (.bin .add (.var 4) (.int 1)) (.cons (.bin .add (.var 4) (.call "_law_by" (.cons (.var 0) (.cons (.bin .add (.var 1) (.int 3)) (.cons (.int 50) .nil))))) (.cons (.call "_law_by" (.cons (.var 0) (.cons (.bin .add (.var 1) (.int 4)) (.cons (.int 60) .nil)))) .nil)))))))) (.cons (.ret (.blt .max2 (.cons (.int 0) (.cons (.sub (.var 5) (.call "_law_by" (.cons (.var 0) (.cons (.bin .add (.var 1) (.int 5)) (.cons (.int 5) .nil))))) .nil)))) .nil))))
theorem turn_ok {c : Calls} (dr : Draws c) (ns : List Int) (hl : ns.length ≤ 63) (k : Int) (hk : 0 ≤ k) (hk2 : k ≤ 10000) {f e l : Int} (he : 1 ≤ e ∧ e ≤ 1000000000000000000000000000000) : evF c 3 6 B_turn [.cl (scr ns), .cl (.int k), .cl (beatD f e l)] = .ok (.cl (.int (tnOf ns k f e l))) := by
  have n0 := lawBy_nn (ns := ns) (k := k) (many := 9) (by omega)
  have n1 := lawBy_lt (ns := ns) (k := k) (many := 9) (by omega)
  have p := pick4 (P := fun v => 0 ≤ v ∧ v < 100000000000000000000) (a := 0) (b := 1) (c := lawBy ns k 9) (d := cellAt ns k % 100000000000000000000) (lawBy_nn (ns := ns) (k := k + 1) (many := 4) (by omega)) (lawBy_lt (by omega)) (by omega) (by omega) (by omega) (by omega)
  have m := bopI_mul (mul_okN 100 100 (i := pick [0, 1, lawBy ns k 9, cellAt ns k % 100000000000000000000] (lawBy ns (k + 1) 4)) (j := e) (by omega) (by omega))
  refine evF_rt rfl ?_
  unfold B_turn
  simp (disch := omega) [dr.cell, dr.by_ ns _ _ hl, bopI_mod, m, tnOf, tnNear, tnEdge]
theorem tnOf_nn (ns : List Int) (k f e l : Int) : 0 ≤ tnOf ns k f e l := by
  unfold tnOf
  split <;> omega
theorem mul_bd {a b : Int} {A B : Int} (a0 : 0 ≤ a) (a1 : a ≤ A) (b0 : 0 ≤ b) (b1 : b ≤ B) : 0 ≤ a * b ∧ a * b ≤ A * B :=
  ⟨Int.mul_nonneg a0 b0, Int.le_trans (Int.mul_le_mul_of_nonneg_right a1 b0) (Int.mul_le_mul_of_nonneg_left b1 (by omega))⟩
theorem tnOf_lt (ns : List Int) (k f e l : Int) (hf : 0 ≤ f ∧ f ≤ 10000000000000000000000000000000000000000) (he : 1 ≤ e ∧ e ≤ 1000000000000000000000000000000) (hl : 0 ≤ l ∧ l ≤ e) : tnOf ns k f e l ≤ 3 * (1000000000000000000000000000000 * 100000000000000000000) := by
  have n0 := lawBy_nn (ns := ns) (k := k) (many := 9) (by omega)
  have n1 := lawBy_lt (ns := ns) (k := k) (many := 9) (by omega)
  have p := pick4 (P := fun v => 0 ≤ v ∧ v ≤ 100000000000000000000) (a := 0) (b := 1) (c := lawBy ns k 9) (d := cellAt ns k % 100000000000000000000) (lawBy_nn (ns := ns) (k := k + 1) (many := 4) (by omega)) (lawBy_lt (by omega)) (by omega) (by omega) (by omega) (by omega)
  have q := pick2 (P := fun v => 0 ≤ v ∧ v ≤ 1000000000000000000000000000000) (a := 0) (b := l) (lawBy_nn (ns := ns) (k := k + 2) (many := 2) (by omega)) (lawBy_lt (by omega)) (by omega) (by omega)
  have m := mul_bd p.1 p.2 (show 0 ≤ e by omega) he.2
  have ed : -1 ≤ tnEdge ns k f e l ∧ tnEdge ns k f e l ≤ 2 * (1000000000000000000000000000000 * 100000000000000000000) := by unfold tnEdge; omega
  have a0 := lawBy_nn (ns := ns) (k := k + 3) (many := 50) (by omega)
  have a1 := lawBy_lt (ns := ns) (k := k + 3) (many := 50) (by omega)
  have b0 := lawBy_nn (ns := ns) (k := k + 4) (many := 60) (by omega)
  have b1 := lawBy_lt (ns := ns) (k := k + 4) (many := 60) (by omega)
  have w := pick5 (P := fun v => v ≤ 3 * (1000000000000000000000000000000 * 100000000000000000000)) (a := tnEdge ns k f e l) (b := tnEdge ns k f e l - 1) (c := tnEdge ns k f e l + 1) (d := tnEdge ns k f e l + lawBy ns (k + 3) 50) (e := lawBy ns (k + 4) 60) (lawBy_nn (ns := ns) (k := k + 5) (many := 5) (by omega)) (lawBy_lt (by omega)) (by omega) (by omega) (by omega) (by omega) (by omega)
  unfold tnOf tnNear
  split
  · exact w
  · omega
/-- a round's bounds -/
def BtOk (f e l : Int) : Prop := (0 ≤ f ∧ f ≤ 10000000000000000000000000000000000000000) ∧ (1 ≤ e ∧ e ≤ 1000000000000000000000000000000) ∧ (1 ≤ l ∧ l ≤ e)
theorem rd_ok (ns : List Int) (k : Int) : BtOk (rdFirst ns k) (rdEvery ns k) (rdLong ns k) := ⟨rdFirst_b ns k, rdEvery_b ns k, rdLong_b ns k⟩
theorem beat_at {f e l f' e' l' : Int} (h : BtOk f e l) (h' : BtOk f' e' l') (k : Int) : ∃ g d m, BtOk g d m ∧ idx (.cl (.lst [beatD f e l, beatD f' e' l'])) (.cl (.int (k % 2))) = some (.cl (beatD g d m)) := by
  rcases Int.emod_two_eq k with q | q <;> rw [q]
  · exact ⟨f, e, l, h, idxS0⟩
  · exact ⟨f', e', l', h', idxS1⟩
/-- whether a round is open in a turn -/
def openAt (f e l t : Int) : Bool := decide (f ≤ t) && decide ((t - f) % e < l)
end Mo
namespace Mo
open PySem PySem.Spec PyProof.Rows L2
/-! ### open_ahead, open_turn -/
def ahOf (f e l t : Int) : Int := if t ≤ f then 0 else (t - f) / e * l + (if l < (t - f) % e then l else (t - f) % e)
def otOf (f e l n : Int) : Int := f + n / l * e + n % l
theorem log_of {j : Int} (n : Nat) (h : j.natAbs < 2 ^ n) (hn : 0 < n := by decide) (h9 : n ≤ 9000 := by decide) : j.natAbs.log2 < 9000 := Nat.lt_of_lt_of_le (log2_lt h hn) h9
theorem nn_mul {a b : Int} (ha : 0 ≤ a) (hb : 0 ≤ b) : 0 ≤ a * b := Int.mul_nonneg ha hb
theorem div_emod_of {a e q r : Int} (h : a = e * q + r) (h0 : 0 ≤ r) (h1 : r < e) : a / e = q ∧ a % e = r := by
  have hq : a / e = q := by
    rw [h, Int.add_comm, Int.add_mul_ediv_left _ _ (by omega), Int.ediv_eq_zero_of_lt h0 h1]; omega
  have hr : a % e = r := by
    rw [h, Int.add_comm, Int.add_mul_emod_self_left, Int.emod_eq_of_lt h0 h1]
  exact ⟨hq, hr⟩
/-- what is counted ahead, by whole rounds and a rest -/
theorem ahOf_of {f e l q r : Int} (hq : 0 ≤ q) (hr : 0 ≤ r) (hr2 : r < e) (hl : 0 ≤ l) : ahOf f e l (f + (e * q + r)) = q * l + (if l < r then l else r) := by
  obtain ⟨a, b⟩ := div_emod_of (a := e * q + r) (e := e) (q := q) (r := r) rfl hr hr2
  unfold ahOf
  have eq0 : 0 ≤ e * q := Int.mul_nonneg (by omega) hq
  split
  · have z1 : r = 0 := by omega
    have z2 : e * q = 0 := by omega
    have z3 : q = 0 := by
      rcases Int.mul_eq_zero.mp z2 with h | h
      · omega
      · exact h
    subst z1 z3
    split <;> omega
  · have e1 : f + (e * q + r) - f = e * q + r := by omega
    rw [e1, a, b]
theorem split_of {f e t : Int} (he : 1 ≤ e) (ht : f ≤ t) : ∃ q r, 0 ≤ q ∧ 0 ≤ r ∧ r < e ∧ t = f + (e * q + r) := by
  refine ⟨(t - f) / e, (t - f) % e, Int.ediv_nonneg (by omega) (by omega), Int.emod_nonneg _ (by omega), Int.emod_lt_of_pos _ (by omega), ?_⟩
  have := Int.mul_ediv_add_emod (t - f) e
  omega
theorem openAt_of {f e l q r : Int} (hq : 0 ≤ q) (hr : 0 ≤ r) (hr2 : r < e) : openAt f e l (f + (e * q + r)) = decide (r < l) := by
  have eq0 : 0 ≤ e * q := Int.mul_nonneg (by omega) hq
  unfold openAt
  have e1 : f + (e * q + r) - f = e * q + r := by omega
  rw [e1, (div_emod_of (a := e * q + r) (e := e) (q := q) (r := r) rfl hr hr2).2]
  simp
  omega
theorem ahOf_low {f e l t : Int} (h : t ≤ f) : ahOf f e l t = 0 := by unfold ahOf; rw [if_pos h]
/-- one more just behind an open turn -/
theorem ahOf_succ {f e l t : Int} (he : 1 ≤ e) (hl : 1 ≤ l) (hle : l ≤ e) : ahOf f e l (t + 1) = ahOf f e l t + (if openAt f e l t then 1 else 0) := by
  by_cases h : t < f
  · have o : openAt f e l t = false := by unfold openAt; simp; omega
    rw [ahOf_low (by omega), ahOf_low (by omega), o]; rfl
  · obtain ⟨q, r, hq, hr, hr2, rfl⟩ := split_of he (show f ≤ t by omega)
    rw [ahOf_of hq hr hr2 (by omega), openAt_of hq hr hr2]
    by_cases hn : r + 1 < e
    · have e1 : f + (e * q + r) + 1 = f + (e * q + (r + 1)) := by omega
      rw [e1, ahOf_of hq (by omega) hn (by omega)]
      by_cases hrl : r < l
      · simp only [hrl, decide_true, if_true]
        rw [if_neg (by omega), if_neg (by omega)]; omega
      · simp only [hrl, decide_false]
        rw [if_pos (by omega)]
        split <;> simp <;> omega
    · have e1 : f + (e * q + r) + 1 = f + (e * (q + 1) + 0) := by rw [Int.mul_add, Int.mul_one]; omega
      rw [e1, ahOf_of (by omega) (by omega) (by omega) (by omega), Int.add_mul, Int.one_mul]
      by_cases hrl : r < l
      · simp only [hrl, decide_true, if_true]
        rw [if_neg (by omega), if_neg (by omega)]; omega
      · simp only [hrl, decide_false]
        rw [if_neg (by omega)]
        split <;> simp <;> omega
theorem ahOf_nn {f e l t : Int} (he : 1 ≤ e) (hl : 1 ≤ l) (hle : l ≤ e) : 0 ≤ ahOf f e l t := by
  by_cases h : t < f
  · rw [ahOf_low (by omega)]; exact Int.le_refl 0
  · obtain ⟨q, r, hq, hr, hr2, rfl⟩ := split_of he (show f ≤ t by omega)
    rw [ahOf_of hq hr hr2 (by omega)]
    have := Int.mul_nonneg hq (show 0 ≤ l by omega)
    split <;> omega
/-- the turn of a number: its rounds and rest -/
theorem otOf_of {f e l q r : Int} (hr : 0 ≤ r) (hr2 : r < l) : otOf f e l (l * q + r) = f + (e * q + r) := by
  obtain ⟨a, b⟩ := div_emod_of (a := l * q + r) (e := l) (q := q) (r := r) rfl hr hr2
  unfold otOf
  rw [a, b, Int.mul_comm e q]
  omega
theorem ot_split {f e l n : Int} (hn : 0 ≤ n) (he : 1 ≤ e) (hl : 1 ≤ l) (hle : l ≤ e) : openAt f e l (otOf f e l n) = true ∧ ahOf f e l (otOf f e l n) = n := by
  obtain ⟨q, r, hq, hr, hr2, h⟩ := split_of (f := 0) (e := l) (t := n) hl hn
  have h' : n = l * q + r := by omega
  rw [h', otOf_of hr hr2, openAt_of hq hr (by omega), ahOf_of hq hr (by omega) (by omega)]
  refine ⟨by simpa using hr2, ?_⟩
  rw [if_neg (by omega), Int.mul_comm]
theorem ot_back {f e l t : Int} (he : 1 ≤ e) (hl : 1 ≤ l) (hle : l ≤ e) (ho : openAt f e l t = true) : otOf f e l (ahOf f e l t) = t := by
  have hft : f ≤ t := by unfold openAt at ho; simp at ho; omega
  obtain ⟨q, r, hq, hr, hr2, rfl⟩ := split_of he hft
  rw [openAt_of hq hr hr2] at ho
  simp at ho
  rw [ahOf_of hq hr hr2 (by omega), if_neg (by omega), Int.mul_comm, otOf_of hr ho]
theorem ahOf_le {f e l t : Int} (h : BtOk f e l) (ht : 0 ≤ t) : ahOf f e l t ≤ t := by
  obtain ⟨h1, h2, h3⟩ := h
  unfold ahOf
  split
  · exact ht
  · have q0 := Int.ediv_nonneg (show 0 ≤ t - f by omega) (show 0 ≤ e by omega)
    have := Int.mul_ediv_add_emod (t - f) e
    have m := Int.mul_le_mul_of_nonneg_left h3.2 q0
    rw [Int.mul_comm _ e] at m
    have m0 := Int.emod_nonneg (t - f) (show e ≠ 0 by omega)
    split <;> omega
def B_ahead : Ss := (.cons (.unp (.t [(.n 2), (.n 3), (.n 4)]) (.var 0)) (.cons (.ifs (.cmp .le (.var 1) (.var 2)) (.cons (.ret (.int 0)) .nil) .nil) (.cons (.unp (.t [(.n 5), (.n 6)]) (.blt .divmod (.cons (.bin .sub (.var 1) (.var 2)) (.cons (.var 3) .nil)))) (.cons (.ret (.bin .add (.bin .mul (.var 5) (.var 4)) (.blt .min2 (.cons (.var 6) (.cons (.var 4) .nil))))) .nil))))
theorem ahead_ok (c : Calls) {f e l t : Int} (h : BtOk f e l) (ht : t.natAbs < 2 ^ 1000) : evF c 2 7 B_ahead [.cl (beatD f e l), .cl (.int t)] = .ok (.cl (.int (ahOf f e l t))) := by
  obtain ⟨h1, h2, h3⟩ := h
  refine evF_rt rfl ?_
  unfold B_ahead ahOf
  by_cases ht2 : t ≤ f
  · simp [ht2]
  · have d1 := blt_divmod (i := t - f) (j := e) (by omega) (log_of 200 (by omega))
    have q0 := Int.ediv_nonneg (show 0 ≤ t - f by omega) (show 0 ≤ e by omega)
    have q1 : (t - f) / e ≤ t - f := Int.ediv_le_self _ (by omega)
    have m := bopI_mul (i := (t - f) / e) (j := l) (mul_okN 1001 200 (by omega) (by omega))
    simp [ht2, d1, m]
def B_oturn : Ss := (.cons (.unp (.t [(.n 2), (.n 3), (.n 4)]) (.var 0)) (.cons (.unp (.t [(.n 5), (.n 6)]) (.blt .divmod (.cons (.var 1) (.cons (.var 4) .nil)))) (.cons (.ret (.bin .add (.bin .add (.var 2) (.bin .mul (.var 5) (.var 3))) (.var 6))) .nil)))
theorem oturn_ok (c : Calls) {f e l n : Int} (h : BtOk f e l) (hn : 0 ≤ n) (ht : n.natAbs < 2 ^ 1000) : evF c 2 7 B_oturn [.cl (beatD f e l), .cl (.int n)] = .ok (.cl (.int (otOf f e l n))) := by
  obtain ⟨h1, h2, h3⟩ := h
  refine evF_rt rfl ?_
  unfold B_oturn otOf
  have d1 := blt_divmod (i := n) (j := l) (by omega) (log_of 200 (by omega))
  have q0 := Int.ediv_nonneg hn (show 0 ≤ l by omega)
  have q1 : n / l ≤ n := Int.ediv_le_self _ hn
  have m := bopI_mul (i := n / l) (j := e) (mul_okN 1001 200 (by omega) (by omega))
  simp [d1, m]
@[simp] theorem pow_25 : bopI .pow 10 25 = some (.int 10000000000000000000000000) := by rw [bopI_pow10 (by decide) (by decide)]; rfl
def farOf (ns : List Int) (k : Int) : Int := if lawBy ns k 3 = 0 then cellAt ns k % 10000000000000000000000000000000000000000 else 0
theorem farOf_b (ns : List Int) (k : Int) : 0 ≤ farOf ns k ∧ farOf ns k ≤ 10000000000000000000000000000000000000000 := by
  unfold farOf; split <;> omega
def B_far : Ss := (.cons (.ifs (.cmp .eq (.call "_law_by" (.cons (.var 0) (.cons (.var 1) (.cons (.int 3) .nil)))) (.int 0)) (.cons (.ret (.bin .mod (.call "_law_cell_at" (.cons (.var 0) (.cons (.var 1) .nil))) (.bin .pow (.int 10) (.int 40)))) .nil) .nil) (.cons (.ret (.int 0)) .nil))
theorem far_ok {c : Calls} (d : Draws c) (ns : List Int) (hl : ns.length ≤ 63) (k : Int) (hk : 0 ≤ k) (hk2 : k ≤ 10000) : evF c 2 2 B_far [.cl (scr ns), .cl (.int k)] = .ok (.cl (.int (farOf ns k))) := by
  refine evF_rt rfl ?_
  unfold B_far farOf
  by_cases h : lawBy ns k 3 = 0 <;> simp (disch := omega) [d.cell, d.by_ ns _ _ hl, bopI_mod, h]
def B_whole : Ss := (.cons (.ret (.and (.isi .int (.var 0)) (.and (.not (.isi .bool (.var 0))) (.cmp .eq (.var 0) (.var 1))))) .nil)
theorem whole_ok (c : Calls) (i j : Int) : evF c 2 2 B_whole [.cl (.int i), .cl (.int j)] = .ok (.cl (.bl (decide (i = j)))) := by
  refine evF_rt rfl ?_
  unfold B_whole
  simp [D.ty, isTy, Ty.nm]
def B_lopen : Ss := (.cons (.ret (.and (.cmp .ge (.var 1) (.sub (.var 0) (.int 0))) (.cmp .lt (.bin .mod (.bin .sub (.var 1) (.sub (.var 0) (.int 0))) (.sub (.var 0) (.int 1))) (.sub (.var 0) (.int 2))))) .nil)
theorem lopen_ok (c : Calls) {f e l t : Int} (h : 1 ≤ e) : evF c 2 2 B_lopen [.cl (beatD f e l), .cl (.int t)] = .ok (.cl (.bl (openAt f e l t))) := by
  refine evF_rt rfl ?_
  unfold B_lopen
  simp (disch := omega) [bopI_mod, openAt]
def B_isopen : Ss := (.cons (.unp (.t [(.n 2), (.n 3), (.n 4)]) (.var 0)) (.cons (.ret (.and (.cmp .ge (.var 1) (.var 2)) (.cmp .lt (.bin .mod (.bin .sub (.var 1) (.var 2)) (.var 3)) (.var 4)))) .nil))
theorem isopen_ok (c : Calls) {f e l t : Int} (h : 1 ≤ e) : evF c 2 5 B_isopen [.cl (beatD f e l), .cl (.int t)] = .ok (.cl (.bl (openAt f e l t))) := by
  refine evF_rt rfl ?_
  unfold B_isopen
  simp (disch := omega) [bopI_mod, openAt]
end Mo
namespace Mo
open PySem L2
def B_divisor : Ss := (.cons (.par 2 3 (.var 0) (.var 1)) (.cons (.unp (.t [(.n 4), (.n 5)]) (.tup (.cons (.int 1) (.cons (.int 0) .nil)))) (.cons (.unp (.t [(.n 6), (.n 7)]) (.tup (.cons (.int 0) (.cons (.int 1) .nil)))) (.cons (.whl (.cmp .gt (.var 3) (.int 0)) (.cons (.asg 8 (.bin .fdiv (.var 2) (.var 3))) (.cons (.par 2 3 (.var 3) (.bin .sub (.var 2) (.bin .mul (.var 8) (.var 3)))) (.cons (.par 4 6 (.var 6) (.bin .sub (.var 4) (.bin .mul (.var 8) (.var 6)))) (.cons (.par 5 7 (.var 7) (.bin .sub (.var 5) (.bin .mul (.var 8) (.var 7)))) .nil))))) (.cons (.ret (.tup (.cons (.var 2) (.cons (.var 4) (.cons (.var 5) .nil))))) .nil)))))
/-- what holds between two turns -/
structure DvI (a b rest left x y p q : Int) : Prop where
  r1 : 1 ≤ rest
  l0 : 0 ≤ left
  e1 : a * x + b * y = rest
  e2 : a * p + b * q = left
  xp : ∃ X P : Int, 0 ≤ X ∧ 0 ≤ P ∧ X ≤ b ∧ ((x = X ∧ p = -P) ∨ (x = -X ∧ p = P)) ∧ rest * P + left * X = b
  yq : ∃ Y Q : Int, 0 ≤ Y ∧ 0 ≤ Q ∧ Y ≤ a ∧ ((y = Y ∧ q = -Q) ∨ (y = -Y ∧ q = Q)) ∧ rest * Q + left * Y = a
  da : ∃ u v : Int, a = rest * u + left * v
  db : ∃ u v : Int, b = rest * u + left * v
  rm : rest ≤ a + b
  lm : left ≤ a + b
theorem le_mul_of {m n k : Int} (hm : 1 ≤ m) (hn : 0 ≤ n) (h : m * n ≤ k) : n ≤ k := by
  have := Int.mul_le_mul_of_nonneg_right hm hn
  omega
theorem DvI.bounds {a b rest left x y p q : Int} (ha : 1 ≤ a) (hb : 1 ≤ b) (h : DvI a b rest left x y p q) : (-b ≤ x ∧ x ≤ b) ∧ (-a ≤ y ∧ y ≤ a) ∧ (-b ≤ p ∧ p ≤ b) ∧ (-a ≤ q ∧ q ≤ a) := by
  obtain ⟨X, P, x0, p0, xb, hs, he⟩ := h.xp
  obtain ⟨Y, Q, y0, q0, ya, ht, hf⟩ := h.yq
  have z1 := Int.mul_nonneg h.l0 x0
  have z2 := Int.mul_nonneg h.l0 y0
  have hP : P ≤ b := le_mul_of h.r1 p0 (by omega)
  have hQ : Q ≤ a := le_mul_of h.r1 q0 (by omega)
  refine ⟨?_, ?_, ?_, ?_⟩ <;> (first | (rcases hs with ⟨r1, r2⟩ | ⟨r1, r2⟩ <;> constructor <;> omega) | (rcases ht with ⟨r1, r2⟩ | ⟨r1, r2⟩ <;> constructor <;> omega))
theorem DvI.step {a b rest left x y p q : Int} (ha : 1 ≤ a) (hb : 1 ≤ b) (h : DvI a b rest left x y p q) (hl : 0 < left) :
    DvI a b left (rest - rest / left * left) p q (x - rest / left * p) (y - rest / left * q) := by
  have hm0 : 0 ≤ rest / left := Int.ediv_nonneg (by have := h.r1; omega) (by omega)
  have hr : rest - rest / left * left = rest % left := by
    have := Int.emod_add_mul_ediv rest left
    rw [Int.mul_comm (rest / left) left]; omega
  generalize hm : rest / left = m at *
  have r0 : 0 ≤ rest - m * left := by rw [hr]; exact Int.emod_nonneg _ (by omega)
  have r1 : rest - m * left < left := by rw [hr]; exact Int.emod_lt_of_pos _ hl
  obtain ⟨X, P, x0, p0, xb, hs, he⟩ := h.xp
  obtain ⟨Y, Q, y0, q0, ya, ht, hf⟩ := h.yq
  obtain ⟨u, v, hu⟩ := h.da
  obtain ⟨u', v', hu'⟩ := h.db
  have z1 := Int.mul_nonneg h.l0 x0
  have z2 := Int.mul_nonneg h.l0 y0
  have hP : P ≤ b := le_mul_of h.r1 p0 (by omega)
  have hQ : Q ≤ a := le_mul_of h.r1 q0 (by omega)
  have mP := Int.mul_nonneg hm0 p0
  have mQ := Int.mul_nonneg hm0 q0
  have e1 := h.e1
  have e2 := h.e2
  refine ⟨by omega, r0, e2, ?_, ⟨P, X + m * P, p0, by omega, hP, ?_, ?_⟩, ⟨Q, Y + m * Q, q0, by omega, hQ, ?_, ?_⟩, ⟨m * u + v, u, ?_⟩, ⟨m * u' + v', u', ?_⟩, h.lm, by have := h.lm; omega⟩
  · grind
  · rcases hs with ⟨s1, s2⟩ | ⟨s1, s2⟩
    · right; subst s1 s2; constructor
      · rfl
      · grind
    · left; subst s1 s2; constructor
      · rfl
      · grind
  · grind
  · rcases ht with ⟨s1, s2⟩ | ⟨s1, s2⟩
    · right; subst s1 s2; constructor
      · rfl
      · grind
    · left; subst s1 s2; constructor
      · rfl
      · grind
  · grind
  · grind
  · grind
theorem abs_lt {x b : Int} {N : Nat} (h : -b ≤ x ∧ x ≤ b) (hb : b.natAbs < 2 ^ N) : x.natAbs < 2 ^ N := by
  have : x.natAbs ≤ b.natAbs := by omega
  omega
abbrev dvS (a b rest left x y p q : Int) (m : SV) : Sl := [.cl (.int a), .cl (.int b), .cl (.int rest), .cl (.int left), .cl (.int x), .cl (.int y), .cl (.int p), .cl (.int q), m]
theorem dv_loop (c : Calls) {a b : Int} (ha : 1 ≤ a) (hb : 1 ≤ b) (hab : (a + b).natAbs < 2 ^ 4000) : ∀ (n : Nat) (rest left x y p q : Int) (m : SV), left.toNat ≤ n → DvI a b rest left x y p q →
    ∃ g x' y' p' q' m', whl (evE c (.cmp .gt (.var 3) (.int 0))) (evSs c (.cons (.asg 8 (.bin .fdiv (.var 2) (.var 3))) (.cons (.par 2 3 (.var 3) (.bin .sub (.var 2) (.bin .mul (.var 8) (.var 3)))) (.cons (.par 4 6 (.var 6) (.bin .sub (.var 4) (.bin .mul (.var 8) (.var 6)))) (.cons (.par 5 7 (.var 7) (.bin .sub (.var 5) (.bin .mul (.var 8) (.var 7)))) .nil)))))
      (dvS a b rest left x y p q m) = some (.nx (dvS a b g 0 x' y' p' q' m')) ∧ DvI a b g 0 x' y' p' q' := by
  intro n
  induction n with
  | zero =>
    intro rest left x y p q m hn h
    have l0 : left = 0 := by have := h.l0; omega
    subst l0
    refine ⟨rest, x, y, p, q, m, ?_, h⟩
    rw [whl_eq]
    simp
  | succ n ih =>
    intro rest left x y p q m hn h
    by_cases hl : 0 < left
    · have hs := h.step ha hb hl
      have hb1 := h.bounds ha hb
      have hr : rest - rest / left * left = rest % left := by
        have := Int.emod_add_mul_ediv rest left
        rw [Int.mul_comm (rest / left) left]; omega
      have r1 : rest - rest / left * left < left := by rw [hr]; exact Int.emod_lt_of_pos _ hl
      have r0 := hs.l0
      obtain ⟨g, x', y', p', q', m', h1, h2⟩ := ih left (rest - rest / left * left) p q (x - rest / left * p) (y - rest / left * q) (.cl (.int (rest / left))) (by omega) hs
      refine ⟨g, x', y', p', q', m', ?_, h2⟩
      have hm0 : 0 ≤ rest / left := Int.ediv_nonneg (by have := h.r1; omega) (by omega)
      have hm1 : rest / left ≤ rest := Int.ediv_le_self _ (by have := h.r1; omega)
      have rm := h.rm
      have lm := h.lm
      have bm : (rest / left).natAbs < 2 ^ 4000 := abs_lt (b := a + b) ⟨by omega, by omega⟩ hab
      have bl : left.natAbs < 2 ^ 4000 := abs_lt (b := a + b) ⟨by omega, by omega⟩ hab
      have bp : p.natAbs < 2 ^ 4000 := abs_lt (b := a + b) ⟨by omega, by omega⟩ hab
      have bq : q.natAbs < 2 ^ 4000 := abs_lt (b := a + b) ⟨by omega, by omega⟩ hab
      have f1 := bopI_fdiv (i := rest) hl (Nat.lt_trans (log2_lt bl (by decide)) (by decide))
      have f2 := bopI_mul (mul_okN 4000 4000 bm bl)
      have f3 := bopI_mul (mul_okN 4000 4000 bm bp)
      have f4 := bopI_mul (mul_okN 4000 4000 bm bq)
      rw [whl_eq]
      simp [hl, f1, f2, f3, f4]
      exact h1
    · have l0 : left = 0 := by have := h.l0; omega
      subst l0
      refine ⟨rest, x, y, p, q, m, ?_, h⟩
      rw [whl_eq]
      simp
theorem divisor_ok (c : Calls) {a b : Int} (ha : 1 ≤ a) (hb : 1 ≤ b) (hab : (a + b).natAbs < 2 ^ 4000) :
    ∃ g x y, evF c 2 9 B_divisor [.cl (.int a), .cl (.int b)] = .ok (.cl (.tup [.int g, .int x, .int y])) ∧ 1 ≤ g ∧ g ∣ a ∧ g ∣ b ∧ a * x + b * y = g ∧ (-b ≤ x ∧ x ≤ b) ∧ (-a ≤ y ∧ y ≤ a) := by
  have h0 : DvI a b a b 1 0 0 1 := ⟨ha, by omega, by omega, by omega, ⟨1, 0, by omega, by omega, hb, .inl ⟨rfl, rfl⟩, by omega⟩, ⟨0, 1, by omega, by omega, by omega, .inr ⟨rfl, rfl⟩, by omega⟩, ⟨1, 0, by omega⟩, ⟨0, 1, by omega⟩, by omega, by omega⟩
  obtain ⟨g, x, y, p, q, m, h1, h2⟩ := dv_loop c ha hb hab b.toNat a b 1 0 0 1 .no (Nat.le_refl _) h0
  have hb1 := h2.bounds ha hb
  obtain ⟨u, v, hu⟩ := h2.da
  obtain ⟨u', v', hu'⟩ := h2.db
  refine ⟨g, x, y, ?_, h2.r1, ⟨u, by omega⟩, ⟨u', by omega⟩, h2.e1, hb1.1, hb1.2.1⟩
  unfold evF B_divisor
  simp [h1, tupF]
end Mo
namespace Mo
open PySem PySem.Spec PyProof.Rows L2
/-! ### when two rounds are open at once -/
/-- the least of what P asks, or none -/
def Least (P : Int → Prop) : Option Int → Prop
  | none => ∀ t, ¬ P t
  | some m => P m ∧ ∀ t, P t → m ≤ t
theorem Least.uniq {P : Int → Prop} {o o' : Option Int} (h : Least P o) (h' : Least P o') : o = o' := by
  cases o with
  | none =>
    cases o' with
    | none => rfl
    | some m => exact absurd h'.1 (h m)
  | some m =>
    cases o' with
    | none => exact absurd h.1 (h' m)
    | some m' => rw [Int.le_antisymm (h.2 _ h'.1) (h'.2 _ h.1)]
theorem Least.congr {P Q : Int → Prop} {o : Option Int} (h : Least P o) (e : ∀ t, P t ↔ Q t) : Least Q o := by
  cases o with
  | none => exact fun t q => h t ((e t).mpr q)
  | some m => exact ⟨(e m).mp h.1, fun t q => h.2 t ((e t).mpr q)⟩
def minO (o : Option Int) (m : Int) : Option Int := match o with
  | none => some m
  | some b => if m < b then some m else some b
theorem Least.join {P Q : Int → Prop} {o : Option Int} {m : Int} (h : Least P o) (h' : Least Q (some m)) : Least (fun t => P t ∨ Q t) (minO o m) := by
  cases o with
  | none => exact ⟨.inr h'.1, fun t q => q.elim (fun z => absurd z (h t)) (h'.2 t)⟩
  | some b =>
    unfold minO
    simp only
    split
    · exact ⟨.inr h'.1, fun t q => q.elim (fun z => by have := h.2 t z; omega) (h'.2 t)⟩
    · exact ⟨.inl h.1, fun t q => q.elim (h.2 t) (fun z => by have := h'.2 t z; omega)⟩
abbrev optD : Option Int → D
  | none => .non
  | some m => .int m
/-- the turns of a pair of open turns -/
theorem pair_least {f1 e1 f2 e2 g x y i j k B : Int} (he1 : 1 ≤ e1) (he2 : 1 ≤ e2) (hg : 1 ≤ g) (g1 : g ∣ e1) (g2 : g ∣ e2) (hxy : e1 * x + e2 * y = g) (hi : 0 ≤ i ∧ i < e1) (hj : 0 ≤ j ∧ j < e2) (hk : f2 - f1 - i + j = g * k) :
    Least (fun t => B ≤ t ∧ (t - f1) % e1 = i ∧ (t - f2) % e2 = j) (some (B + (f1 + i + x * k * e1 - B) % (e1 / g * e2))) := by
  obtain ⟨u, hu⟩ := g1
  obtain ⟨v, hv⟩ := g2
  have hR : e1 / g * e2 = u * e2 := by
    rw [hu, Int.mul_ediv_cancel_left _ (show g ≠ 0 by omega)]
  rw [hR]
  have hu1 : 1 ≤ u := by
    rcases Int.lt_or_le u 1 with q | q
    · have : g * u ≤ g * 0 := Int.mul_le_mul_of_nonneg_left (by omega) (by omega)
      omega
    · exact q
  have hRp : 1 ≤ u * e2 := by
    have := Int.mul_le_mul_of_nonneg_right hu1 (show 0 ≤ e2 by omega)
    omega
  have c0 : ∀ z : Int, (f1 + i + x * k * e1 + u * e2 * z - f1) % e1 = i := fun z => by
    have : f1 + i + x * k * e1 + u * e2 * z - f1 = i + e1 * (x * k + v * z) := by
      have e : u * e2 = v * e1 := by rw [hv, hu]; grind
      rw [e]; grind
    rw [this, Int.add_mul_emod_self_left, Int.emod_eq_of_lt hi.1 hi.2]
  have c1 : ∀ z : Int, (f1 + i + x * k * e1 + u * e2 * z - f2) % e2 = j := fun z => by
    have : f1 + i + x * k * e1 + u * e2 * z - f2 = j + e2 * (u * z - k * y) := by grind
    rw [this, Int.add_mul_emod_self_left, Int.emod_eq_of_lt hj.1 hj.2]
  have hm := Int.mul_ediv_add_emod (f1 + i + x * k * e1 - B) (u * e2)
  have m0 := Int.emod_nonneg (f1 + i + x * k * e1 - B) (show u * e2 ≠ 0 by omega)
  have hcand : B + (f1 + i + x * k * e1 - B) % (u * e2) = f1 + i + x * k * e1 + u * e2 * (-((f1 + i + x * k * e1 - B) / (u * e2))) := by
    rw [Int.mul_neg]; omega
  refine ⟨⟨by omega, by rw [hcand]; exact c0 _, by rw [hcand]; exact c1 _⟩, ?_⟩
  rintro t ⟨b, t1, t2⟩
  have d1 := Int.mul_ediv_add_emod (t - f1) e1
  have d2 := Int.mul_ediv_add_emod (t - f2) e2
  generalize (t - f1) / e1 = a1 at *
  generalize (t - f2) / e2 = a2 at *
  have w1 : t - (f1 + i + x * k * e1) = e1 * (a1 - x * k) := by grind
  have w2 : t - (f1 + i + x * k * e1) = e2 * (a2 + k * y) := by
    have e1' : g * k = e1 * x * k + e2 * y * k := by rw [← hxy, Int.add_mul]
    have e2' : e2 * (a2 + k * y) = e2 * a2 + e2 * y * k := by rw [Int.mul_add, Int.mul_comm k y, Int.mul_assoc]
    have e3' : x * k * e1 = e1 * x * k := by rw [Int.mul_comm, Int.mul_assoc]
    rw [e2', e3']
    omega
  have w : t - (f1 + i + x * k * e1) = u * e2 * (x * (a2 + k * y) + y * (a1 - x * k)) := by
    have e : g * (t - (f1 + i + x * k * e1)) = g * (u * e2 * (x * (a2 + k * y) + y * (a1 - x * k))) := by
      generalize hd : t - (f1 + i + x * k * e1) = d at *
      have q1 : g * d = e1 * x * d + e2 * y * d := by rw [← hxy]; grind
      rw [q1]
      have q2 : e1 * x * d = e1 * x * (e2 * (a2 + k * y)) := by rw [← w2]
      have q3 : e2 * y * d = e2 * y * (e1 * (a1 - x * k)) := by rw [← w1]
      rw [q2, q3, show g * (u * e2 * (x * (a2 + k * y) + y * (a1 - x * k))) = (g * u) * (e2 * (x * (a2 + k * y) + y * (a1 - x * k))) by grind, ← hu]
      grind
    exact Int.eq_of_mul_eq_mul_left (by omega) e
  have w3 : (t - B) % (u * e2) = (f1 + i + x * k * e1 - B) % (u * e2) := by
    rw [show t - B = f1 + i + x * k * e1 - B + u * e2 * (x * (a2 + k * y) + y * (a1 - x * k)) by omega, Int.add_mul_emod_self_left]
  have w4 : (t - B) % (u * e2) ≤ t - B := by
    have q := Int.mul_ediv_add_emod (t - B) (u * e2)
    have q0 := Int.ediv_nonneg (show 0 ≤ t - B by omega) (show 0 ≤ u * e2 by omega)
    have q1 := Int.mul_nonneg (show 0 ≤ u * e2 by omega) q0
    omega
  omega
/-- what a pair of open turns shares -/
theorem pair_dvd {f1 e1 f2 e2 g i j t : Int} (g1 : g ∣ e1) (g2 : g ∣ e2) (t1 : (t - f1) % e1 = i) (t2 : (t - f2) % e2 = j) : g ∣ f2 - f1 - i + j := by
  have d1 := Int.mul_ediv_add_emod (t - f1) e1
  have d2 := Int.mul_ediv_add_emod (t - f2) e2
  have : f2 - f1 - i + j = e1 * ((t - f1) / e1) - e2 * ((t - f2) / e2) := by omega
  rw [this]
  exact Int.dvd_sub (Int.dvd_trans g1 (Int.dvd_mul_right ..)) (Int.dvd_trans g2 (Int.dvd_mul_right ..))
/-- the open turns of both from a turn on -/
def Both (f1 e1 l1 f2 e2 l2 B t : Int) : Prop := B ≤ t ∧ (t - f1) % e1 < l1 ∧ (t - f2) % e2 < l2
theorem rangeC_mem {lo c : Int} {n : Nat} {d : D} : d ∈ rangeC lo c n ↔ ∃ i : Nat, i < n ∧ d = .int (lo + i * c) := by
  unfold rangeC
  rw [List.mem_map]
  constructor
  · rintro ⟨i, h1, h2⟩; exact ⟨i, List.mem_range.mp h1, h2.symm⟩
  · rintro ⟨i, h1, h2⟩; exact ⟨i, List.mem_range.mpr h1, h2.symm⟩
theorem cnt_mem {lo hi c : Int} (hc : 0 < c) {v : Int} : D.int v ∈ rangeC lo c (cntR lo hi c) ↔ lo ≤ v ∧ v < hi ∧ c ∣ v - lo := by
  rw [rangeC_mem]
  unfold cntR
  constructor
  · rintro ⟨i, h1, h2⟩
    cases h2
    split at h1
    · have q := Int.mul_ediv_add_emod (hi - lo - 1) c
      have m0 := Int.emod_nonneg (hi - lo - 1) (show c ≠ 0 by omega)
      have q0 := Int.ediv_nonneg (show 0 ≤ hi - lo - 1 by omega) (show 0 ≤ c by omega)
      have i1 : (i : Int) ≤ (hi - lo - 1) / c := by omega
      have i2 := Int.mul_le_mul_of_nonneg_right i1 (show 0 ≤ c by omega)
      have i3 := Int.mul_nonneg (show (0 : Int) ≤ i by omega) (show 0 ≤ c by omega)
      rw [Int.mul_comm c] at q
      exact ⟨by omega, by omega, ⟨i, by rw [Int.mul_comm]; omega⟩⟩
    · omega
  · rintro ⟨h1, h2, k, hk⟩
    have k0 : 0 ≤ k := by
      rcases Int.lt_or_le k 0 with z | z
      · have := Int.mul_le_mul_of_nonneg_left (show k ≤ -1 by omega) (show 0 ≤ c by omega)
        omega
      · exact z
    have kl : k ≤ (hi - lo - 1) / c := Int.le_ediv_of_mul_le hc (by rw [Int.mul_comm]; omega)
    refine ⟨k.toNat, ?_, ?_⟩
    · rw [if_pos (by omega)]; omega
    · rw [show ((k.toNat : Nat) : Int) = k by omega, Int.mul_comm, ← hk]; congr 1; omega
/-- the turns of a loop, with what was gone through -/
theorem forL_pre {g : D → Sl → Option Sl} {b : Sl → RO} (P : List D → Sl → Prop) : ∀ {ds pre : List D} {sl : Sl}, (∀ pre d, d ∈ ds → ∀ sl, P pre sl → ∃ s1, g d sl = some s1 ∧ ∃ s2, b s1 = some (.nx s2) ∧ P (pre ++ [d]) s2) → P pre sl → ∃ s', forL g b ds sl = some (.nx s') ∧ P (pre ++ ds) s'
  | [], pre, sl, _, hp => ⟨sl, rfl, by rw [List.append_nil]; exact hp⟩
  | d :: ds, pre, sl, h, hp => by
    obtain ⟨s1, h1, s2, h2, h3⟩ := h pre d List.mem_cons_self sl hp
    obtain ⟨s', h4, h5⟩ := forL_pre P (ds := ds) (fun pre d hd => h pre d (List.mem_cons_of_mem _ hd)) h3
    refine ⟨s', ?_, by rw [List.append_assoc] at h5; exact h5⟩
    rw [forL_turn, h1]
    show turnF (b s1) _ = _
    rw [h2]
    exact h4
theorem for_pre {c : Calls} {t : Tg} {it : It} {b rest : Ss} {sl : Sl} {ds : List D} {X : RO} (P : List D → Sl → Prop) (he : evIt c it sl = .ok ds) (hp : P [] sl) (h : ∀ pre d, d ∈ ds → ∀ sl, P pre sl → ∃ s1, tgo t d sl = some s1 ∧ ∃ s2, evSs c b s1 = some (.nx s2) ∧ P (pre ++ [d]) s2) (hr : ∀ s', P ds s' → evSs c rest s' = X) : evSs c (.cons (.for_ t it b) rest) sl = X := by
  obtain ⟨s', h1, h2⟩ := forL_pre P h hp
  rw [evSs_cons, evS_for, he]
  show seqO (forL (tgo t) (evSs c b) ds sl) _ = X
  rw [h1]
  exact hr s' h2
/-- the turns of range(lo, lo + n), by the turn's number -/
theorem forL_cnt {g : D → Sl → Option Sl} {b : Sl → RO} (P : Int → Sl → Prop) : ∀ {m : Nat} {lo : Int} {sl : Sl}, (∀ k sl, lo ≤ k → k < lo + m → P k sl → ∃ s1, g (.int k) sl = some s1 ∧ ∃ s2, b s1 = some (.nx s2) ∧ P (k + 1) s2) → P lo sl → ∃ s', forL g b (rangeD lo m) sl = some (.nx s') ∧ P (lo + m) s'
  | 0, lo, sl, _, hp => ⟨sl, rfl, by simpa using hp⟩
  | m + 1, lo, sl, h, hp => by
    obtain ⟨s1, h1, s2, h2, h3⟩ := h lo sl (Int.le_refl _) (by omega) hp
    obtain ⟨s', h4, h5⟩ := forL_cnt P (m := m) (lo := lo + 1) (sl := s2) (fun k sl a b => h k sl (by omega) (by omega)) h3
    have e : rangeD lo (m + 1) = .int lo :: rangeD (lo + 1) m := by
      unfold rangeD
      rw [List.range_succ_eq_map, List.map_cons, List.map_map]
      congr 1
      · congr 1; omega
      · refine List.map_congr_left fun a _ => ?_
        show D.int (lo + ((a + 1 : Nat) : Int)) = D.int (lo + 1 + a)
        congr 1; omega
    refine ⟨s', ?_, by rw [show lo + ((m + 1 : Nat) : Int) = lo + 1 + m by omega]; exact h5⟩
    rw [e, forL_turn, h1]
    show turnF (b s1) _ = _
    rw [h2]
    exact h4
theorem for_cnt {c : Calls} {t : Tg} {it : It} {b rest : Ss} {sl : Sl} {lo : Int} {n : Nat} {X : RO} (P : Int → Sl → Prop) (he : evIt c it sl = .ok (rangeD lo n)) (hp : P lo sl) (h : ∀ k sl, lo ≤ k → k < lo + n → P k sl → ∃ s1, tgo t (.int k) sl = some s1 ∧ ∃ s2, evSs c b s1 = some (.nx s2) ∧ P (k + 1) s2) (hr : ∀ s', P (lo + n) s' → evSs c rest s' = X) : evSs c (.cons (.for_ t it b) rest) sl = X := by
  obtain ⟨s', h1, h2⟩ := forL_cnt P (m := n) (lo := lo) h hp
  rw [evSs_cons, evS_for, he]
  show seqO (forL (tgo t) (evSs c b) (rangeD lo n) sl) _ = X
  rw [h1]
  exact hr s' h2
/-- a round of some size -/
def BtN (f e l : Int) : Prop := (0 ≤ f ∧ f.natAbs < 2 ^ 400) ∧ (1 ≤ e ∧ e.natAbs < 2 ^ 200) ∧ (1 ≤ l ∧ l ≤ e)
theorem minO_step (c : Calls) (o : Option Int) (m : Int) {sl : Sl} (h5 : sl[5]? = some (.cl (optD o))) (h12 : sl[12]? = some (.cl (.int m))) : evSs c (.cons (.ifs (.or (.isN (.var 5)) (.cmp .lt (.var 12) (.var 5))) (.cons (.asg 5 (.var 12)) .nil) .nil) .nil) sl = some (.nx (sl.set 5 (.cl (optD (minO o m))))) := by
  have same : sl.set 5 (.cl (optD o)) = sl := by
    refine List.ext_getElem? fun i => ?_
    rw [List.getElem?_set]
    split
    · rename_i e; subst e
      obtain ⟨hl, _⟩ := List.getElem?_eq_some_iff.mp h5
      rw [if_pos hl, h5]
    · rfl
  cases o with
  | none => simp [h5, h12, minO]
  | some b =>
    by_cases q : m < b
    · simp [h5, h12, minO, q]
    · simp [h5, h12, minO, q]
      exact same.symm
def B_meeting : Ss := (.cons (.unp (.t [(.n 7), (.n 8), (.n 9)]) (.call "divisor" (.cons (.sub (.var 0) (.int 1)) (.cons (.sub (.var 1) (.int 1)) .nil)))) (.cons (.asg 3 (.bin .mul (.bin .fdiv (.sub (.var 0) (.int 1)) (.var 7)) (.sub (.var 1) (.int 1)))) (.cons (.asg 4 (.blt .max3 (.cons (.var 2) (.cons (.sub (.var 0) (.int 0)) (.cons (.sub (.var 1) (.int 0)) .nil))))) (.cons (.asg 5 .non) (.cons (.for_ (.n 6) (.rng1 (.sub (.var 0) (.int 2))) (.cons (.asg 10 (.bin .sub (.bin .sub (.sub (.var 1) (.int 0)) (.sub (.var 0) (.int 0))) (.var 6))) (.cons (.for_ (.n 11) (.rng3 (.bin .mod (.bin .sub (.int 0) (.var 10)) (.var 7)) (.sub (.var 1) (.int 2)) (.var 7)) (.cons (.asg 12 (.bin .add (.bin .add (.sub (.var 0) (.int 0)) (.var 6)) (.bin .mul (.bin .mul (.var 8) (.bin .fdiv (.bin .add (.var 10) (.var 11)) (.var 7))) (.sub (.var 0) (.int 1))))) (.cons (.asg 12 (.bin .add (.var 4) (.bin .mod (.bin .sub (.var 12) (.var 4)) (.var 3)))) (.cons (.ifs (.or (.isN (.var 5)) (.cmp .lt (.var 12) (.var 5))) (.cons (.asg 5 (.var 12)) .nil) .nil) .nil)))) .nil))) (.cons (.ret (.var 5)) .nil))))))
theorem meeting_ok {c : Calls} (hd : ∀ a b : Int, 1 ≤ a → 1 ≤ b → (a + b).natAbs < 2 ^ 4000 → ∃ g x y, c "divisor" [.cl (.int a), .cl (.int b)] = .ok (.cl (.tup [.int g, .int x, .int y])) ∧ 1 ≤ g ∧ g ∣ a ∧ g ∣ b ∧ a * x + b * y = g ∧ (-b ≤ x ∧ x ≤ b) ∧ (-a ≤ y ∧ y ≤ a))
    {f1 e1 l1 f2 e2 l2 t : Int} (h1 : BtN f1 e1 l1) (h2 : BtN f2 e2 l2) : ∃ o, evF c 3 13 B_meeting [.cl (beatD f1 e1 l1), .cl (beatD f2 e2 l2), .cl (.int t)] = .ok (.cl (optD o)) ∧ Least (Both f1 e1 l1 f2 e2 l2 (maxI (maxI t f1) f2)) o := by
  obtain ⟨⟨a1, a2⟩, ⟨a3, a4⟩, a5, a6⟩ := h1
  obtain ⟨⟨b1, b2⟩, ⟨b3, b4⟩, b5, b6⟩ := h2
  obtain ⟨g, x, y, d1, d2, d3, d4, d5, d6, d7⟩ := hd e1 e2 a3 b3 (by omega)
  have gle : g ≤ e1 := Int.le_of_dvd (by omega) d3
  have m1 := bopI_fdiv (i := e1) (j := g) (by omega) (log_of 200 (by omega))
  have q0 := Int.ediv_nonneg (show 0 ≤ e1 by omega) (show 0 ≤ g by omega)
  have q1 : e1 / g ≤ e1 := Int.ediv_le_self _ (by omega)
  have m2 := bopI_mul (i := e1 / g) (j := e2) (mul_okN 200 200 (by omega) (by omega))
  have hRp : 1 ≤ e1 / g * e2 := by
    obtain ⟨u, hu⟩ := d3
    rw [hu, Int.mul_ediv_cancel_left _ (show g ≠ 0 by omega)]
    have hu1 : 1 ≤ u := by
      rcases Int.lt_or_le u 1 with q | q
      · have : g * u ≤ g * 0 := Int.mul_le_mul_of_nonneg_left (by omega) (by omega)
        omega
      · exact q
    have := Int.mul_le_mul_of_nonneg_right hu1 (show 0 ≤ e2 by omega)
    omega
  generalize hB : maxI (maxI t f1) f2 = B
  generalize hR : e1 / g * e2 = R at *
  have inner : ∀ i o, 0 ≤ i → i < l1 → Least (fun t => B ≤ t ∧ (t - f1) % e1 < i ∧ (t - f2) % e2 < l2) o → ∀ p q r,
      ∃ p' q' r' o', evSs c (.cons (.asg 10 (.bin .sub (.bin .sub (.sub (.var 1) (.int 0)) (.sub (.var 0) (.int 0))) (.var 6))) (.cons (.for_ (.n 11) (.rng3 (.bin .mod (.bin .sub (.int 0) (.var 10)) (.var 7)) (.sub (.var 1) (.int 2)) (.var 7)) (.cons (.asg 12 (.bin .add (.bin .add (.sub (.var 0) (.int 0)) (.var 6)) (.bin .mul (.bin .mul (.var 8) (.bin .fdiv (.bin .add (.var 10) (.var 11)) (.var 7))) (.sub (.var 0) (.int 1))))) (.cons (.asg 12 (.bin .add (.var 4) (.bin .mod (.bin .sub (.var 12) (.var 4)) (.var 3)))) (.cons (.ifs (.or (.isN (.var 5)) (.cmp .lt (.var 12) (.var 5))) (.cons (.asg 5 (.var 12)) .nil) .nil) .nil)))) .nil)) [.cl (beatD f1 e1 l1), .cl (beatD f2 e2 l2), .cl (.int t), .cl (.int R), .cl (.int B), .cl (optD o), .cl (.int i), .cl (.int g), .cl (.int x), .cl (.int y), p, q, r] =
        some (.nx [.cl (beatD f1 e1 l1), .cl (beatD f2 e2 l2), .cl (.int t), .cl (.int R), .cl (.int B), .cl (optD o'), .cl (.int i), .cl (.int g), .cl (.int x), .cl (.int y), p', q', r']) ∧ Least (fun t => B ≤ t ∧ (t - f1) % e1 < i + 1 ∧ (t - f2) % e2 < l2) o' := by
    intro i o i0 i1 hL p q r
    have z0 : ∃ j0 : Int, j0 = (0 - (f2 - f1 - i)) % g := ⟨_, rfl⟩
    obtain ⟨j0, hj0⟩ := z0
    have j00 := Int.emod_nonneg (0 - (f2 - f1 - i)) (show g ≠ 0 by omega)
    have j01 := Int.emod_lt_of_pos (0 - (f2 - f1 - i)) (show 0 < g by omega)
    have jd := Int.mul_ediv_add_emod (0 - (f2 - f1 - i)) g
    rw [← hj0] at j00 j01 jd
    have m3 := bopI_mod (i := 0 - (f2 - f1 - i)) (j := g) (by omega)
    rw [← hj0] at m3
    have rg := rng3F_int (i := j0) (j := l2) (d := g) (by omega) (log_of 200 (by omega))
    rw [evSs_cons, show evS c (.asg 10 (.bin .sub (.bin .sub (.sub (.var 1) (.int 0)) (.sub (.var 0) (.int 0))) (.var 6))) _ = some (.nx [.cl (beatD f1 e1 l1), .cl (beatD f2 e2 l2), .cl (.int t), .cl (.int R), .cl (.int B), .cl (optD o), .cl (.int i), .cl (.int g), .cl (.int x), .cl (.int y), .cl (.int (f2 - f1 - i)), q, r]) from by simp, seqO_nx, evSs_cons, evS_for,
      show evIt c _ _ = .ok (rangeC j0 g (cntR j0 l2 g)) from by simp [m3, rg, -Int.zero_sub]]
    obtain ⟨s', h4, h5⟩ := forL_pre (g := tgo (.n 11)) (b := evSs c (.cons (.asg 12 (.bin .add (.bin .add (.sub (.var 0) (.int 0)) (.var 6)) (.bin .mul (.bin .mul (.var 8) (.bin .fdiv (.bin .add (.var 10) (.var 11)) (.var 7))) (.sub (.var 0) (.int 1))))) (.cons (.asg 12 (.bin .add (.var 4) (.bin .mod (.bin .sub (.var 12) (.var 4)) (.var 3)))) (.cons (.ifs (.or (.isN (.var 5)) (.cmp .lt (.var 12) (.var 5))) (.cons (.asg 5 (.var 12)) .nil) .nil) .nil))))
      (fun pre sl => ∃ q r o, sl = [.cl (beatD f1 e1 l1), .cl (beatD f2 e2 l2), .cl (.int t), .cl (.int R), .cl (.int B), .cl (optD o), .cl (.int i), .cl (.int g), .cl (.int x), .cl (.int y), .cl (.int (f2 - f1 - i)), q, r] ∧ Least (fun t => (B ≤ t ∧ (t - f1) % e1 < i ∧ (t - f2) % e2 < l2) ∨ (B ≤ t ∧ (t - f1) % e1 = i ∧ D.int ((t - f2) % e2) ∈ pre)) o) (ds := rangeC j0 g (cntR j0 l2 g)) (pre := []) (sl := [.cl (beatD f1 e1 l1), .cl (beatD f2 e2 l2), .cl (.int t), .cl (.int R), .cl (.int B), .cl (optD o), .cl (.int i), .cl (.int g), .cl (.int x), .cl (.int y), .cl (.int (f2 - f1 - i)), q, r])
      (by
        intro pre d hd sl ⟨q, r, o, hs, hl⟩
        subst hs
        obtain ⟨n, hn, rfl⟩ := rangeC_mem.mp hd
        generalize hj : j0 + (n : Int) * g = j at *
        obtain ⟨v1, v2, k, hk⟩ := (cnt_mem (show 0 < g by omega)).mp hd
        refine ⟨_, tgo_n _ _ _, ?_⟩
        have kk : ∃ k, f2 - f1 - i + j = g * k := ⟨k - (0 - (f2 - f1 - i)) / g, by rw [Int.mul_sub]; omega⟩
        obtain ⟨k, hk⟩ := kk
        have pl := pair_least (B := B) a3 b3 d2 d3 d4 d5 ⟨i0, by omega⟩ ⟨by omega, by omega⟩ hk
        rw [hR] at pl
        have kd : (f2 - f1 - i + j) / g = k := by rw [hk, Int.mul_ediv_cancel_left _ (by omega)]
        have n1 := bopI_fdiv (i := f2 - f1 - i + j) (j := g) (by omega) (log_of 200 (by omega))
        have kb : k.natAbs ≤ (f2 - f1 - i + j).natAbs := by
          rw [hk, Int.natAbs_mul]
          exact Nat.le_mul_of_pos_left _ (by omega)
        have n2 := bopI_mul (i := x) (j := k) (mul_okN 200 500 (by omega) (by omega))
        have w1 := wide_lt (i := x) (j := k) (a := 200) (b := 500) (by omega) (by omega)
        have n3 := bopI_mul (i := x * k) (j := e1) (mul_okN 700 200 (by omega) (by omega))
        have n4 := bopI_mod (i := f1 + i + x * k * e1 - B) (j := R) (by omega)
        rw [kd] at n1
        rw [evSs_cons, show evS c (.asg 12 (.bin .add (.bin .add (.sub (.var 0) (.int 0)) (.var 6)) (.bin .mul (.bin .mul (.var 8) (.bin .fdiv (.bin .add (.var 10) (.var 11)) (.var 7))) (.sub (.var 0) (.int 1))))) _ = some (.nx [.cl (beatD f1 e1 l1), .cl (beatD f2 e2 l2), .cl (.int t), .cl (.int R), .cl (.int B), .cl (optD o), .cl (.int i), .cl (.int g), .cl (.int x), .cl (.int y), .cl (.int (f2 - f1 - i)), .cl (.int j), .cl (.int (f1 + i + x * k * e1))]) from by simp [n1, n2, n3], seqO_nx,
          evSs_cons, show evS c (.asg 12 (.bin .add (.var 4) (.bin .mod (.bin .sub (.var 12) (.var 4)) (.var 3)))) _ = some (.nx [.cl (beatD f1 e1 l1), .cl (beatD f2 e2 l2), .cl (.int t), .cl (.int R), .cl (.int B), .cl (optD o), .cl (.int i), .cl (.int g), .cl (.int x), .cl (.int y), .cl (.int (f2 - f1 - i)), .cl (.int j), .cl (.int (B + (f1 + i + x * k * e1 - B) % R))]) from by simp [n4], seqO_nx,
          minO_step c o (B + (f1 + i + x * k * e1 - B) % R) rfl rfl]
        refine ⟨_, rfl, _, _, minO o (B + (f1 + i + x * k * e1 - B) % R), rfl, (hl.join pl).congr fun t => ?_⟩
        constructor
        · rintro ((z | z) | z)
          · exact .inl z
          · exact .inr ⟨z.1, z.2.1, List.mem_append_left _ z.2.2⟩
          · exact .inr ⟨z.1, z.2.1, List.mem_append_right _ (by rw [z.2.2]; simp)⟩
        · rintro (z | ⟨z1, z2, z3⟩)
          · exact .inl (.inl z)
          · rcases List.mem_append.mp z3 with z | z
            · exact .inl (.inr ⟨z1, z2, z⟩)
            · exact .inr ⟨z1, z2, by simpa using z⟩)
      ⟨q, r, o, rfl, hL.congr fun t => by simp⟩
    obtain ⟨q', r', o', hs, hl⟩ := h5
    subst hs
    rw [out_ok, h4]
    refine ⟨_, _, _, _, rfl, hl.congr fun t => ?_⟩
    rw [List.nil_append]
    have tm0 := Int.emod_nonneg (t - f2) (show e2 ≠ 0 by omega)
    constructor
    · rintro (⟨z1, z2, z3⟩ | ⟨z1, z2, z3⟩)
      · exact ⟨z1, by omega, z3⟩
      · obtain ⟨v1, v2, _⟩ := (cnt_mem (show 0 < g by omega)).mp z3
        exact ⟨z1, by omega, v2⟩
    · rintro ⟨z1, z2, z3⟩
      by_cases zi : (t - f1) % e1 < i
      · exact .inl ⟨z1, zi, z3⟩
      · have zi' : (t - f1) % e1 = i := by omega
        refine .inr ⟨z1, zi', (cnt_mem (show 0 < g by omega)).mpr ?_⟩
        obtain ⟨k, hk⟩ := pair_dvd d3 d4 zi' (rfl : (t - f2) % e2 = (t - f2) % e2)
        have dv : g ∣ (t - f2) % e2 - j0 := ⟨k + (0 - (f2 - f1 - i)) / g, by rw [Int.mul_add]; omega⟩
        refine ⟨?_, z3, dv⟩
        obtain ⟨m, hm⟩ := dv
        rcases Int.lt_or_le m 0 with z | z
        · have := Int.mul_le_mul_of_nonneg_left (show m ≤ -1 by omega) (show 0 ≤ g by omega)
          omega
        · have := Int.mul_nonneg (show 0 ≤ g by omega) z
          omega
  have n1 : evSs c B_meeting ([.cl (beatD f1 e1 l1), .cl (beatD f2 e2 l2), .cl (.int t)] ++ List.replicate (13 - 3) .no) = evSs c (.cons (.for_ (.n 6) (.rng1 (.sub (.var 0) (.int 2))) (.cons (.asg 10 (.bin .sub (.bin .sub (.sub (.var 1) (.int 0)) (.sub (.var 0) (.int 0))) (.var 6))) (.cons (.for_ (.n 11) (.rng3 (.bin .mod (.bin .sub (.int 0) (.var 10)) (.var 7)) (.sub (.var 1) (.int 2)) (.var 7)) (.cons (.asg 12 (.bin .add (.bin .add (.sub (.var 0) (.int 0)) (.var 6)) (.bin .mul (.bin .mul (.var 8) (.bin .fdiv (.bin .add (.var 10) (.var 11)) (.var 7))) (.sub (.var 0) (.int 1))))) (.cons (.asg 12 (.bin .add (.var 4) (.bin .mod (.bin .sub (.var 12) (.var 4)) (.var 3)))) (.cons (.ifs (.or (.isN (.var 5)) (.cmp .lt (.var 12) (.var 5))) (.cons (.asg 5 (.var 12)) .nil) .nil) .nil)))) .nil))) (.cons (.ret (.var 5)) .nil)) [.cl (beatD f1 e1 l1), .cl (beatD f2 e2 l2), .cl (.int t), .cl (.int R), .cl (.int B), .cl .non, .no, .cl (.int g), .cl (.int x), .cl (.int y), .no, .no, .no] := by
    unfold B_meeting
    simp [d1, m1, m2, hB, -evS_for]
  have res : ∃ o, evSs c B_meeting ([.cl (beatD f1 e1 l1), .cl (beatD f2 e2 l2), .cl (.int t)] ++ List.replicate (13 - 3) .no) = some (.rt (.cl (optD o))) ∧ Least (Both f1 e1 l1 f2 e2 l2 B) o := by
    rw [n1, evSs_cons, evS_for, show evIt c _ _ = .ok (rangeD 0 l1.toNat) from by simp]
    obtain ⟨s', h4, p, q, r, z, o, hs, hl⟩ := forL_cnt (g := tgo (.n 6)) (b := evSs c (.cons (.asg 10 (.bin .sub (.bin .sub (.sub (.var 1) (.int 0)) (.sub (.var 0) (.int 0))) (.var 6))) (.cons (.for_ (.n 11) (.rng3 (.bin .mod (.bin .sub (.int 0) (.var 10)) (.var 7)) (.sub (.var 1) (.int 2)) (.var 7)) (.cons (.asg 12 (.bin .add (.bin .add (.sub (.var 0) (.int 0)) (.var 6)) (.bin .mul (.bin .mul (.var 8) (.bin .fdiv (.bin .add (.var 10) (.var 11)) (.var 7))) (.sub (.var 0) (.int 1))))) (.cons (.asg 12 (.bin .add (.var 4) (.bin .mod (.bin .sub (.var 12) (.var 4)) (.var 3)))) (.cons (.ifs (.or (.isN (.var 5)) (.cmp .lt (.var 12) (.var 5))) (.cons (.asg 5 (.var 12)) .nil) .nil) .nil)))) .nil)))
      (fun i sl => ∃ p q r z o, sl = [.cl (beatD f1 e1 l1), .cl (beatD f2 e2 l2), .cl (.int t), .cl (.int R), .cl (.int B), .cl (optD o), z, .cl (.int g), .cl (.int x), .cl (.int y), p, q, r] ∧ Least (fun t => B ≤ t ∧ (t - f1) % e1 < i ∧ (t - f2) % e2 < l2) o) (m := l1.toNat) (lo := 0) (sl := [.cl (beatD f1 e1 l1), .cl (beatD f2 e2 l2), .cl (.int t), .cl (.int R), .cl (.int B), .cl .non, .no, .cl (.int g), .cl (.int x), .cl (.int y), .no, .no, .no])
      (by
        intro i sl i0 i1 ⟨p, q, r, z, o, hs, hl⟩
        subst hs
        obtain ⟨p', q', r', o', h6, h7⟩ := inner i o i0 (by omega) hl p q r
        exact ⟨_, tgo_n _ _ _, _, h6, p', q', r', _, o', rfl, h7⟩)
      ⟨_, _, _, _, none, rfl, fun t ht => by
        have := Int.emod_nonneg (t - f1) (show e1 ≠ 0 by omega)
        omega⟩
    subst hs
    rw [out_ok, h4]
    refine ⟨o, by cases o <;> simp, hl.congr fun t => ?_⟩
    unfold Both
    constructor
    · rintro ⟨z1, z2, z3⟩; exact ⟨z1, by omega, z3⟩
    · rintro ⟨z1, z2, z3⟩; exact ⟨z1, by omega, z3⟩
  obtain ⟨o, r1, r2⟩ := res
  exact ⟨o, evF_rt rfl r1, r2⟩
end Mo
namespace Mo
open PySem PySem.Spec PyProof.Rows L2
theorem rangeD_succ (lo : Int) (m : Nat) : rangeD lo (m + 1) = .int lo :: rangeD (lo + 1) m := by
  unfold rangeD
  rw [List.range_succ_eq_map, List.map_cons, List.map_map]
  congr 1
  · congr 1; omega
  · refine List.map_congr_left fun a _ => ?_
    show D.int (lo + ((a + 1 : Nat) : Int)) = D.int (lo + 1 + a)
    congr 1; omega
/-- a loop that returns at the first turn that is right -/
theorem forL_find {g : D → Sl → Option Sl} {b : Sl → RO} (P : Sl → Prop) (q : Int → Bool) (v : Int → XV) : ∀ {m : Nat} {lo : Int} {sl : Sl}, (∀ k sl, lo ≤ k → k < lo + m → P sl → ∃ s1, g (.int k) sl = some s1 ∧ ((q k = true ∧ b s1 = some (.rt (v k))) ∨ (q k = false ∧ ∃ s2, b s1 = some (.nx s2) ∧ P s2))) → P sl →
    (∃ k, lo ≤ k ∧ k < lo + m ∧ q k = true ∧ (∀ k', lo ≤ k' → k' < k → q k' = false) ∧ forL g b (rangeD lo m) sl = some (.rt (v k))) ∨ ((∀ k, lo ≤ k → k < lo + m → q k = false) ∧ ∃ s', forL g b (rangeD lo m) sl = some (.nx s') ∧ P s')
  | 0, lo, sl, _, hp => .inr ⟨fun k a b => by omega, sl, rfl, hp⟩
  | m + 1, lo, sl, h, hp => by
    obtain ⟨s1, h1, h2⟩ := h lo sl (Int.le_refl _) (by omega) hp
    rw [rangeD_succ, forL_turn, h1]
    rcases h2 with ⟨q1, r1⟩ | ⟨q1, s2, r1, r2⟩
    · refine .inl ⟨lo, Int.le_refl _, by omega, q1, fun k' a b => by omega, ?_⟩
      show turnF (b s1) _ = _
      rw [r1]; rfl
    · rcases forL_find P q v (m := m) (lo := lo + 1) (sl := s2) (fun k sl a b => h k sl (by omega) (by omega)) r2 with ⟨k, k0, k1, k2, k3, k4⟩ | ⟨k1, s', k2, k3⟩
      · refine .inl ⟨k, by omega, by omega, k2, fun k' a b => ?_, ?_⟩
        · by_cases z : k' = lo
          · rw [z]; exact q1
          · exact k3 k' (by omega) b
        · show turnF (b s1) _ = _
          rw [r1]; exact k4
      · refine .inr ⟨fun k a b => ?_, s', ?_, k3⟩
        · by_cases z : k = lo
          · rw [z]; exact q1
          · exact k1 k (by omega) (by omega)
        · show turnF (b s1) _ = _
          rw [r1]; exact k2
theorem mod_shift {t f e B R : Int} (h : e ∣ R) : (B + (t - B) % R - f) % e = (t - f) % e := by
  obtain ⟨w, hw⟩ := h
  have q := Int.mul_ediv_add_emod (t - B) R
  have : B + (t - B) % R - f = t - f + e * (-(w * ((t - B) / R))) := by
    have e1 : R * ((t - B) / R) = e * (w * ((t - B) / R)) := by
      generalize (t - B) / R = z
      rw [hw, Int.mul_assoc]
    rw [Int.mul_neg]; omega
  rw [this, Int.add_mul_emod_self_left]
theorem openAt_iff {f e l t B : Int} (h : B ≤ t) (hf : f ≤ B) : openAt f e l t = decide ((t - f) % e < l) := by
  unfold openAt
  simp; omega
end Mo
namespace Mo
open PySem PySem.Spec PyProof.Rows L2
/-! ### the common divisor, the least common multiple -/
structure IsG (a b g : Int) : Prop where
  nn : 0 ≤ g
  dv : ∀ d : Int, d ∣ g ↔ d ∣ a ∧ d ∣ b
theorem IsG.uniq {a b g g' : Int} (h : IsG a b g) (h' : IsG a b g') : g = g' :=
  Int.dvd_antisymm h.nn h'.nn ((h'.dv g).mpr ((h.dv g).mp (Int.dvd_refl g))) ((h.dv g').mpr ((h'.dv g').mp (Int.dvd_refl g')))
theorem IsG.of {a b g x y : Int} (h0 : 0 ≤ g) (h1 : g ∣ a) (h2 : g ∣ b) (h : a * x + b * y = g) : IsG a b g :=
  ⟨h0, fun d => ⟨fun q => ⟨Int.dvd_trans q h1, Int.dvd_trans q h2⟩, fun ⟨q1, q2⟩ => by
    rw [← h]
    exact Int.dvd_add (Int.dvd_trans q1 (Int.dvd_mul_right ..)) (Int.dvd_trans q2 (Int.dvd_mul_right ..))⟩⟩
def B_common : Ss := (.cons (.whl (.cmp .gt (.var 1) (.int 0)) (.cons (.asg 2 (.bin .mod (.var 0) (.var 1))) (.cons (.asg 0 (.var 1)) (.cons (.asg 1 (.var 2)) .nil)))) (.cons (.ret (.var 0)) .nil))
theorem cm_loop (c : Calls) : ∀ (n : Nat) (a b : Int) (m : SV), b.toNat ≤ n → 0 ≤ a → 0 ≤ b →
    ∃ g m', whl (evE c (.cmp .gt (.var 1) (.int 0))) (evSs c (.cons (.asg 2 (.bin .mod (.var 0) (.var 1))) (.cons (.asg 0 (.var 1)) (.cons (.asg 1 (.var 2)) .nil)))) [.cl (.int a), .cl (.int b), m] = some (.nx [.cl (.int g), .cl (.int 0), m']) ∧ IsG a b g := by
  intro n
  induction n with
  | zero =>
    intro a b m hn ha hb
    have : b = 0 := by omega
    subst this
    refine ⟨a, m, by rw [whl_eq]; simp, ha, fun d => ⟨fun q => ⟨q, Int.dvd_zero d⟩, fun q => q.1⟩⟩
  | succ n ih =>
    intro a b m hn ha hb
    by_cases h : 0 < b
    · have m0 := Int.emod_nonneg a (show b ≠ 0 by omega)
      have m1 := Int.emod_lt_of_pos a h
      obtain ⟨g, m', h1, h2⟩ := ih b (a % b) (.cl (.int (a % b))) (by omega) hb m0
      refine ⟨g, m', ?_, h2.nn, fun d => ?_⟩
      · rw [whl_eq]
        simp [h, bopI_mod h]
        exact h1
      · rw [h2.dv]
        have e := Int.mul_ediv_add_emod a b
        constructor
        · rintro ⟨q1, q2⟩
          refine ⟨?_, q1⟩
          rw [← e]
          exact Int.dvd_add (Int.dvd_trans q1 (Int.dvd_mul_right ..)) q2
        · rintro ⟨q1, q2⟩
          refine ⟨q2, ?_⟩
          have : a % b = a - b * (a / b) := by omega
          rw [this]
          exact Int.dvd_sub q1 (Int.dvd_trans q2 (Int.dvd_mul_right ..))
    · have : b = 0 := by omega
      subst this
      refine ⟨a, m, by rw [whl_eq]; simp, ha, fun d => ⟨fun q => ⟨q, Int.dvd_zero d⟩, fun q => q.1⟩⟩
theorem common_ok (c : Calls) {a b : Int} (ha : 0 ≤ a) (hb : 0 ≤ b) : ∃ g, evF c 2 3 B_common [.cl (.int a), .cl (.int b)] = .ok (.cl (.int g)) ∧ IsG a b g := by
  obtain ⟨g, m, h1, h2⟩ := cm_loop c b.toNat a b .no (Nat.le_refl _) ha hb
  refine ⟨g, evF_rt rfl ?_, h2⟩
  unfold B_common
  simp [h1]
/-- every pair has one, of whole numbers from 1 on: by the loop, with nothing called -/
theorem isG_ex {a b : Int} (ha : 0 ≤ a) (hb : 0 ≤ b) : ∃ g, IsG a b g := by
  obtain ⟨g, _, h⟩ := common_ok (fun _ _ => .stuck) ha hb
  exact ⟨g, h⟩
noncomputable def gcI (a b : Int) : Int := open Classical in if h : ∃ g, IsG a b g then Classical.choose h else 0
theorem gcI_ok {a b : Int} (ha : 0 ≤ a) (hb : 0 ≤ b) : IsG a b (gcI a b) := by
  unfold gcI
  rw [dif_pos (isG_ex ha hb)]
  exact Classical.choose_spec (isG_ex ha hb)
theorem gcI_pos {a b : Int} (ha : 0 ≤ a) (hb : 1 ≤ b) : 1 ≤ gcI a b := by
  have h := gcI_ok ha (show 0 ≤ b by omega)
  rcases Int.lt_or_le (gcI a b) 1 with q | q
  · have z : gcI a b = 0 := by have := h.nn; omega
    have := ((h.dv (gcI a b)).mp (Int.dvd_refl _)).2
    rw [z] at this
    have := Int.zero_dvd.mp this
    omega
  · exact q
/-- Bezout's numbers -/
theorem gcI_bez {a b : Int} (ha : 1 ≤ a) (hb : 1 ≤ b) : ∃ x y, a * x + b * y = gcI a b := by
  have h := gcI_ok (show 0 ≤ a by omega) (show 0 ≤ b by omega)
  have key : ∀ (n : Nat) (u v : Int), v.toNat ≤ n → 0 ≤ u → 0 ≤ v → ∃ g x y, u * x + v * y = g ∧ IsG u v g := by
    intro n
    induction n with
    | zero =>
      intro u v hn hu hv
      have : v = 0 := by omega
      subst this
      exact ⟨u, 1, 0, by omega, hu, fun d => ⟨fun q => ⟨q, Int.dvd_zero d⟩, fun q => q.1⟩⟩
    | succ n ih =>
      intro u v hn hu hv
      by_cases h : 0 < v
      · have m0 := Int.emod_nonneg u (show v ≠ 0 by omega)
        have m1 := Int.emod_lt_of_pos u h
        obtain ⟨g, x, y, e1, e2⟩ := ih v (u % v) (by omega) hv m0
        have e := Int.mul_ediv_add_emod u v
        refine ⟨g, y, x - u / v * y, ?_, e2.nn, fun d => ?_⟩
        · rw [← e1]
          generalize u / v = q at *
          generalize u % v = r at *
          rw [← e]
          grind
        · rw [e2.dv]
          constructor
          · rintro ⟨q1, q2⟩
            refine ⟨?_, q1⟩
            rw [← e]
            exact Int.dvd_add (Int.dvd_trans q1 (Int.dvd_mul_right ..)) q2
          · rintro ⟨q1, q2⟩
            refine ⟨q2, ?_⟩
            have : u % v = u - v * (u / v) := by omega
            rw [this]
            exact Int.dvd_sub q1 (Int.dvd_trans q2 (Int.dvd_mul_right ..))
      · have : v = 0 := by omega
        subst this
        exact ⟨u, 1, 0, by omega, hu, fun d => ⟨fun q => ⟨q, Int.dvd_zero d⟩, fun q => q.1⟩⟩
  obtain ⟨g, x, y, e1, e2⟩ := key b.toNat a b (Nat.le_refl _) (by omega) (by omega)
  exact ⟨x, y, by rw [e1]; exact e2.uniq h⟩
noncomputable def lcI (a b : Int) : Int := a / gcI a b * b
theorem lcI_ok {a b : Int} (ha : 1 ≤ a) (hb : 1 ≤ b) : a ∣ lcI a b ∧ b ∣ lcI a b ∧ a ≤ lcI a b ∧ ∀ M, a ∣ M → b ∣ M → lcI a b ∣ M := by
  have h := gcI_ok (show 0 ≤ a by omega) (show 0 ≤ b by omega)
  have hp := gcI_pos (show 0 ≤ a by omega) hb
  obtain ⟨x, y, e⟩ := gcI_bez ha hb
  obtain ⟨d1, d2⟩ := (h.dv _).mp (Int.dvd_refl (gcI a b))
  unfold lcI
  generalize gcI a b = g at *
  obtain ⟨u, hu⟩ := d1
  obtain ⟨v, hv⟩ := d2
  have au : a / g = u := by rw [hu, Int.mul_ediv_cancel_left _ (by omega)]
  rw [au]
  have v1 : 1 ≤ v := by
    rcases Int.lt_or_le v 1 with q | q
    · have : g * v ≤ g * 0 := Int.mul_le_mul_of_nonneg_left (by omega) (by omega)
      omega
    · exact q
  have ub : u * b = a * v := by rw [hv, hu]; grind
  refine ⟨⟨v, ub⟩, Int.dvd_mul_left .., ?_, ?_⟩
  · rw [ub]
    have := Int.mul_le_mul_of_nonneg_left v1 (show 0 ≤ a by omega)
    omega
  · rintro M ⟨p, hp'⟩ ⟨q, hq⟩
    refine ⟨x * q + y * p, ?_⟩
    have e2 : g * M = g * (u * b * (x * q + y * p)) := by
      have : g * M = a * x * M + b * y * M := by rw [← e]; grind
      rw [this]
      have s1 : a * x * M = a * x * (b * q) := by rw [← hq]
      have s2 : b * y * M = b * y * (a * p) := by rw [← hp']
      rw [s1, s2]
      have : g * (u * b * (x * q + y * p)) = (g * u) * (b * (x * q + y * p)) := by grind
      rw [this, ← hu]
      grind
    exact Int.eq_of_mul_eq_mul_left (by omega) e2
/-- the least of all -/
noncomputable def lcL : Int → List Int → Int
  | f, [] => f
  | f, n :: ns => lcL (lcI f n) ns
theorem lcL_ok : ∀ {ns : List Int} {f : Int}, 1 ≤ f → (∀ n ∈ ns, 1 ≤ n) → f ∣ lcL f ns ∧ f ≤ lcL f ns ∧ (∀ n ∈ ns, n ∣ lcL f ns) ∧ ∀ M, f ∣ M → (∀ n ∈ ns, n ∣ M) → lcL f ns ∣ M
  | [], f, hf, _ => ⟨Int.dvd_refl f, Int.le_refl f, fun n h => absurd h (by simp), fun M h _ => h⟩
  | n :: ns, f, hf, hn => by
    obtain ⟨a1, a2, a3, a4⟩ := lcI_ok hf (hn n List.mem_cons_self)
    obtain ⟨b1, b2, b3, b4⟩ := lcL_ok (ns := ns) (f := lcI f n) (by omega) (fun m hm => hn m (List.mem_cons_of_mem _ hm))
    refine ⟨Int.dvd_trans a1 b1, Int.le_trans a3 b2, fun m hm => ?_, fun M hM hA => ?_⟩
    · rcases List.mem_cons.mp hm with e | e
      · rw [e]; exact Int.dvd_trans a2 b1
      · exact b3 m e
    · exact b4 M (a4 M hM (hA n List.mem_cons_self)) fun m hm => hA m (List.mem_cons_of_mem _ hm)
end Mo
namespace Lw
open PySem Mo
def topS (i : Nat) : Stmt := PySem.Challenge.pw_moonrelay_k07_round_of_all.main.body.getD i (.Pass ⟨0, 0, 0, 0⟩)
def b_law_cell_at : Ss := (.cons (.ifs (.cmp .gt (.blt .len (.cons (.var 0) .nil)) (.int 0)) (.cons (.ret (.sub (.var 0) (.bin .mod (.var 1) (.blt .len (.cons (.var 0) .nil))))) .nil) .nil) (.cons (.ret (.int 0)) .nil))
-- 0 _law_script, 1 _law_k
def p_law_cell_at : PFn := ⟨"_law_cell_at", ["_law_script", "_law_k"], ["_law_script", "_law_k"], b_law_cell_at, topS 19⟩
def b_law_by : Ss := (.cons (.asg 3 (.call "_law_cell_at" (.cons (.var 0) (.cons (.var 1) .nil)))) (.cons (.ifs (.cmp .eq (.bin .mod (.call "_law_cell_at" (.cons (.var 0) (.cons (.int 0) .nil))) (.int 2)) (.int 1)) (.cons (.ret (.bin .mod (.bin .shr (.var 3) (.bin .add (.int 1) (.bin .mul (.int 20) (.bin .fdiv (.var 1) (.blt .len (.cons (.var 0) .nil)))))) (.var 2))) .nil) .nil) (.cons (.asg 4 (.bin .add (.bin .add (.bin .mod (.var 3) (.int 1000003)) (.bin .mul (.bin .mul (.int 31) (.var 1)) (.var 1))) (.int 1))) (.cons (.ret (.bin .mod (.bin .mod (.bin .mul (.bin .mod (.bin .mul (.var 4) (.int 48271)) (.int 999983)) (.int 7919)) (.int 524287)) (.var 2))) .nil))))
-- 0 _law_script, 1 _law_k, 2 _law_many, 3 _law_cell, 4 _law_seed
def p_law_by : PFn := ⟨"_law_by", ["_law_script", "_law_k", "_law_many"], ["_law_script", "_law_k", "_law_many", "_law_cell", "_law_seed"], b_law_by, topS 20⟩
def b_law_numbers : Ss := (.cons (.ifs (.cmp .eq (.call "_law_by" (.cons (.var 0) (.cons (.int 5) (.cons (.int 8) .nil)))) (.int 0)) (.cons (.asg 5 (.fz (.lst (.cons (.fz (.lst (.cons (.bin .sub (.bin .sub (.bin .pow (.int 10) (.int 60)) (.int 1)) (.call "_law_by" (.cons (.var 0) (.cons (.int 6) (.cons (.int 9) .nil))))) .nil))) (.cons (.fz (.lst (.cons (.bin .pow (.int 2) (.int 60)) (.cons (.bin .pow (.int 5) (.int 60)) .nil)))) (.cons (.fz (.lst (.cons (.bin .pow (.int 5) (.int 59)) (.cons (.bin .pow (.int 2) (.int 60)) .nil)))) (.cons (.fz (.lst (.cons (.bin .pow (.int 2) (.int 59)) (.cons (.bin .pow (.int 5) (.int 59)) (.cons (.int 10) .nil))))) .nil))))))) (.cons (.ret (.sub (.var 5) (.call "_law_by" (.cons (.var 0) (.cons (.int 7) (.cons (.int 4) .nil)))))) .nil)) .nil) (.cons (.asg 1 (.sub (.fz (.lst (.cons (.call "_law_by" (.cons (.var 0) (.cons (.int 0) (.cons (.int 7) .nil)))) (.cons (.call "_law_by" (.cons (.var 0) (.cons (.int 1) (.cons (.int 61) .nil)))) .nil)))) (.call "_law_by" (.cons (.var 0) (.cons (.int 2) (.cons (.int 2) .nil)))))) (.cons (.asg 2 (.sub (.fz (.lst (.cons (.int 12) (.cons (.int 60) (.cons (.int 1000) .nil))))) (.call "_law_by" (.cons (.var 0) (.cons (.int 3) (.cons (.int 3) .nil)))))) (.cons (.asg 3 (.lst .nil)) (.cons (.for_ (.n 4) (.rng1 (.var 1)) (.cons (.asg 6 (.bin .add (.int 1) (.call "_law_by" (.cons (.var 0) (.cons (.bin .add (.int 10) (.bin .mul (.int 2) (.var 4))) (.cons (.var 2) .nil)))))) (.cons (.ifs (.cmp .eq (.call "_law_by" (.cons (.var 0) (.cons (.bin .add (.int 11) (.bin .mul (.int 2) (.var 4))) (.cons (.int 6) .nil)))) (.int 0)) (.cons (.asg 6 (.bin .add (.int 1) (.bin .mod (.call "_law_cell_at" (.cons (.var 0) (.cons (.bin .add (.int 11) (.bin .mul (.int 2) (.var 4))) .nil))) (.bin .pow (.int 10) (.int 20))))) .nil) .nil) (.cons (.app 3 (.var 6)) .nil)))) (.cons (.frz 3) (.cons (.ret (.var 3)) .nil)))))))
-- 0 _law_script, 1 _law_many, 2 _law_most, 3 _law_numbers_here, 4 _law_k, 5 _law_edges, 6 _law_number
def p_law_numbers : PFn := ⟨"_law_numbers", ["_law_script"], ["_law_script", "_law_many", "_law_most", "_law_numbers_here", "_law_k", "_law_edges", "_law_number"], b_law_numbers, topS 22⟩
def b_divisor : Ss := (.cons (.par 2 3 (.var 0) (.var 1)) (.cons (.unp (.t [(.n 4), (.n 5)]) (.tup (.cons (.int 1) (.cons (.int 0) .nil)))) (.cons (.unp (.t [(.n 6), (.n 7)]) (.tup (.cons (.int 0) (.cons (.int 1) .nil)))) (.cons (.whl (.cmp .gt (.var 3) (.int 0)) (.cons (.asg 8 (.bin .fdiv (.var 2) (.var 3))) (.cons (.par 2 3 (.var 3) (.bin .sub (.var 2) (.bin .mul (.var 8) (.var 3)))) (.cons (.par 4 6 (.var 6) (.bin .sub (.var 4) (.bin .mul (.var 8) (.var 6)))) (.cons (.par 5 7 (.var 7) (.bin .sub (.var 5) (.bin .mul (.var 8) (.var 7)))) .nil))))) (.cons (.ret (.tup (.cons (.var 2) (.cons (.var 4) (.cons (.var 5) .nil))))) .nil)))))
-- 0 one, 1 other, 2 rest, 3 left, 4 x, 5 y, 6 p, 7 q, 8 many
def p_divisor : PFn := ⟨"divisor", ["one", "other"], ["one", "other", "rest", "left", "x", "y", "p", "q", "many"], b_divisor, topS 16⟩
def b_round_of_all : Ss := (.cons (.asg 1 (.int 1)) (.cons (.for_ (.n 2) (.exp (.var 0)) (.cons (.asg 1 (.bin .mul (.bin .fdiv (.var 1) (.sub (.call "divisor" (.cons (.var 1) (.cons (.var 2) .nil))) (.int 0))) (.var 2))) (.cons (.ifs (.cmp .ge (.var 1) (.gi "GREATEST" 1000000000000000000000000000000000000000000000000000000000000)) (.cons (.rse "TooGreat") .nil) .nil) .nil))) (.cons (.ret (.var 1)) .nil)))
-- 0 numbers, 1 found, 2 number
def p_round_of_all : PFn := ⟨"round_of_all", ["numbers"], ["numbers", "found", "number"], b_round_of_all, topS 17⟩
def b_law_told : Ss := (.cons (.asg 1 .non) (.cons (.asg 2 .non) (.cons (.tryk ["TooGreat"] "RelayError" 3 2 (.cons (.asg 1 (.call "round_of_all" (.cons (.var 0) .nil))) .nil)) (.cons (.ifs (.isN (.var 2)) (.cons (.ret (.var 1)) .nil) .nil) (.cons (.asg 4 (.isx ["TooGreat"] ["BadLetter", "BadName", "BadRoom", "BadRound", "BadText", "NoHouse"] (.var 2))) (.cons (.asg 4 (.or (.var 4) (.isx ["TooGreat"] ["NoLetter", "NoMast", "NoSight", "NoWay", "Twice"] (.var 2)))) (.cons (.ret (.fz (.lst (.cons (.isx ["TooGreat"] ["TooGreat"] (.var 2)) (.cons (.isx ["TooGreat"] ["ValueError"] (.var 2)) (.cons (.var 4) .nil)))))) .nil)))))))
-- 0 _law_handed, 1 _law_found, 2 _law_caught, 3 e, 4 _law_others
def p_law_told : PFn := ⟨"_law_told", ["_law_handed"], ["_law_handed", "_law_found", "_law_caught", "e", "_law_others"], b_law_told, topS 23⟩
def b_law_common : Ss := (.cons (.whl (.cmp .gt (.var 1) (.int 0)) (.cons (.asg 2 (.bin .mod (.var 0) (.var 1))) (.cons (.asg 0 (.var 1)) (.cons (.asg 1 (.var 2)) .nil)))) (.cons (.ret (.var 0)) .nil))
-- 0 _law_one, 1 _law_other, 2 _law_rest
def p_law_common : PFn := ⟨"_law_common", ["_law_one", "_law_other"], ["_law_one", "_law_other", "_law_rest"], b_law_common, topS 21⟩
def b_law : Ss := (.cons (.asg 1 (.call "_law_numbers" (.cons (.var 0) .nil))) (.cons (.asg 2 (.int 1)) (.cons (.for_ (.n 3) (.exp (.var 1)) (.cons (.asg 2 (.bin .mul (.bin .fdiv (.var 2) (.call "_law_common" (.cons (.var 2) (.cons (.var 3) .nil)))) (.var 3))) .nil)) (.cons (.asg 4 (.fz (.blt .list1 (.cons (.var 1) .nil)))) (.cons (.asg 5 (.call "_law_told" (.cons (.var 4) .nil))) (.cons (.ifs (.cmp .ne (.var 4) (.var 1)) (.cons (.ret (.bl false)) .nil) .nil) (.cons (.ifs (.cmp .ge (.var 2) (.bin .pow (.int 10) (.int 60))) (.cons (.ret (.cmp .eq (.var 5) (.fz (.lst (.cons (.bl true) (.cons (.bl true) (.cons (.bl false) .nil))))))) .nil) .nil) (.cons (.ifs (.or (.not (.isi .int (.var 5))) (.or (.isi .bool (.var 5)) (.cmp .lt (.var 5) (.int 1)))) (.cons (.ret (.bl false)) .nil) .nil) (.cons (.asg 6 (.int 0)) (.cons (.for_ (.n 3) (.exp (.var 1)) (.cons (.ifs (.cmp .ne (.bin .mod (.var 5) (.var 3)) (.int 0)) (.cons (.ret (.bl false)) .nil) .nil) (.cons (.asg 6 (.call "_law_common" (.cons (.var 6) (.cons (.bin .fdiv (.var 5) (.var 3)) .nil)))) .nil))) (.cons (.ret (.or (.cmp .eq (.var 6) (.int 1)) (.and (.cmp .eq (.blt .len (.cons (.var 1) .nil)) (.int 0)) (.cmp .eq (.var 5) (.int 1))))) .nil)))))))))))
-- 0 _law_script, 1 _law_numbers_here, 2 _law_least, 3 _law_number, 4 _law_handed, 5 _law_found, 6 _law_parts
def p_law : PFn := ⟨"law", ["_law_script"], ["_law_script", "_law_numbers_here", "_law_least", "_law_number", "_law_handed", "_law_found", "_law_parts"], b_law, topS 24⟩
def pg : Pg := ⟨[p_law_cell_at, p_law_by, p_law_numbers, p_divisor, p_round_of_all, p_law_told, p_law_common, p_law], ["bool", "int", "isinstance", "len", "list", "range"], [("GREATEST", 1000000000000000000000000000000000000000000000000000000000000)], [], ["TooGreat"], [("TooGreat", "BadLetter"), ("TooGreat", "BadName"), ("TooGreat", "BadRoom"), ("TooGreat", "BadRound"), ("TooGreat", "BadText"), ("TooGreat", "NoHouse"), ("TooGreat", "NoLetter"), ("TooGreat", "NoMast"), ("TooGreat", "NoSight"), ("TooGreat", "NoWay"), ("TooGreat", "RelayError"), ("TooGreat", "TooGreat"), ("TooGreat", "Twice"), ("TooGreat", "ValueError")]⟩
end Lw
namespace Lw
open PySem PySem.Spec PyProof.Rows L2 Mo
abbrev Rw : PySem.W.OpenRow := PySem.W.OpenLaw.row PySem.Challenge.rw_moonrelay_k07_round_of_all
abbrev hk : PySem.W.Hook := hookX 6 pg.fa pg.fn pg.xb
def ob (s : PySem.W.SharedT) : Bool × He.AlD := obsX 6 pg.fa pg.fn pg.xb (HandSHeadRun.getT s)
theorem ob_eq (s : PySem.W.SharedT) : ob s = hk.obs s.abs := obsX_eq (HandSHeadRun.getT_eq s)
def names : List Str := ["RelayError", "BadRound", "TooGreat", "BadName", "Twice", "BadRoom", "NoHouse", "NoSight", "NoWay", "BadLetter", "NoLetter", "NoMast", "BadText", "GREATEST", "divisor", "round_of_all", "_law_cell_at", "_law_by", "_law_common", "_law_numbers", "_law_told"]
theorem runT (w : World) : HandSHeadRun.RunEq Rw (PySem.W.view Rw.prog [24]) hk ob 20000 names w := by
  intro os
  kernel_rfl
theorem chk : pg.fns.all (chkFn pg) = true := by decide +kernel
theorem bnd : ∀ d ∈ pg.fns, BindP d := by
  unfold pg
  simp only [List.forall_mem_cons]
  exact ⟨fun _ _ _ _ _ _ us hl => match us, hl with | [_, _], _ => rfl, fun _ _ _ _ _ _ us hl => match us, hl with | [_, _, _], _ => rfl, fun _ _ _ _ _ _ us hl => match us, hl with | [_], _ => rfl, fun _ _ _ _ _ _ us hl => match us, hl with | [_, _], _ => rfl, fun _ _ _ _ _ _ us hl => match us, hl with | [_], _ => rfl, fun _ _ _ _ _ _ us hl => match us, hl with | [_], _ => rfl, fun _ _ _ _ _ _ us hl => match us, hl with | [_, _], _ => rfl, fun _ _ _ _ _ _ us hl => match us, hl with | [_], _ => rfl, fun _ h => nomatch h⟩
end Lw
namespace Lw
open PySem L2 Mo
theorem dr (n : Nat) : Draws (run pg (n + 2)) := ⟨fun ns k => cell_at_ok (run pg (n + 1)) ns k, fun ns k many hl hk hk2 hm => by_ok (run pg (n + 1)) (fun ns k => cell_at_ok (run pg n) ns k) ns hl k many hk hk2 hm⟩
@[simp] theorem evE_isx (c : Calls) (ds cs : List String) (a : E) (sl : Sl) : evE c (.isx ds cs a) sl = (evE c a sl).bind (isxF ds cs) := rfl
@[simp] theorem evS_tryk (c : Calls) (ds : List String) (cl : String) (i j : Nat) (b : Ss) (sl : Sl) : evS c (.tryk ds cl i j b) sl = catchF ds cl i j (evSs c b sl) := rfl
@[simp] theorem isNF_exn (d : String) : isNF (.cl (.exn d)) = some false := rfl
theorem r_common (n : Nat) {a b : Int} (ha : 0 ≤ a) (hb : 0 ≤ b) : run pg (n + 1) "_law_common" [.cl (.int a), .cl (.int b)] = .ok (.cl (.int (gcI a b))) := by
  obtain ⟨g, h1, h2⟩ := common_ok (run pg n) ha hb
  rw [h2.uniq (gcI_ok ha hb)] at h1
  exact h1
theorem r_div (n : Nat) {a b : Int} (ha : 1 ≤ a) (hb : 1 ≤ b) (hab : (a + b).natAbs < 2 ^ 4000) : ∃ x y, run pg (n + 1) "divisor" [.cl (.int a), .cl (.int b)] = .ok (.cl (.tup [.int (gcI a b), .int x, .int y])) := by
  obtain ⟨g, x, y, h1, h2, h3, h4, h5, _, _⟩ := divisor_ok (run pg n) ha hb hab
  have := (IsG.of (by omega) h3 h4 h5).uniq (gcI_ok (by omega) (by omega))
  subst this
  exact ⟨x, y, h1⟩
abbrev GR : Int := 1000000000000000000000000000000000000000000000000000000000000
/-- the numbers are whole, from 1 on, not too great -/
def NOk (L : List Int) : Prop := ∀ n ∈ L, 1 ≤ n ∧ n < 2 ^ 250
theorem r_loop (n : Nat) (nums : SV) : ∀ (L : List Int) (f : Int) (z : SV), NOk L → 1 ≤ f → f < GR →
    (lcL f L < GR → ∃ z', forL (tgo (.n 2)) (evSs (run pg (n + 1)) (.cons (.asg 1 (.bin .mul (.bin .fdiv (.var 1) (.sub (.call "divisor" (.cons (.var 1) (.cons (.var 2) .nil))) (.int 0))) (.var 2))) (.cons (.ifs (.cmp .ge (.var 1) (.gi "GREATEST" GR)) (.cons (.rse "TooGreat") .nil) .nil) .nil))) (L.map .int) [nums, .cl (.int f), z] = some (.nx [nums, .cl (.int (lcL f L)), z'])) ∧
    (GR ≤ lcL f L → ∃ sl, forL (tgo (.n 2)) (evSs (run pg (n + 1)) (.cons (.asg 1 (.bin .mul (.bin .fdiv (.var 1) (.sub (.call "divisor" (.cons (.var 1) (.cons (.var 2) .nil))) (.int 0))) (.var 2))) (.cons (.ifs (.cmp .ge (.var 1) (.gi "GREATEST" GR)) (.cons (.rse "TooGreat") .nil) .nil) .nil))) (L.map .int) [nums, .cl (.int f), z] = some (.ex ⟨"TooGreat", []⟩ sl) ∧ sl.length = 3)
  | [], f, z, _, _, hf => ⟨fun _ => ⟨z, rfl⟩, fun h => by unfold lcL at h; omega⟩
  | m :: L, f, z, hL, h1, hf => by
    have gv : GR = 1000000000000000000000000000000000000000000000000000000000000 := rfl
    have hm := hL m List.mem_cons_self
    have hL' : NOk L := fun x hx => hL x (List.mem_cons_of_mem _ hx)
    obtain ⟨x, y, d⟩ := r_div n h1 hm.1 (by omega)
    have gp := gcI_pos (show 0 ≤ f by omega) hm.1
    have gl : gcI f m ≤ m := Int.le_of_dvd (by omega) (((gcI_ok (show 0 ≤ f by omega) (show 0 ≤ m by omega)).dv _).mp (Int.dvd_refl _)).2
    have q0 := Int.ediv_nonneg (show 0 ≤ f by omega) (show 0 ≤ gcI f m by omega)
    have q1 : f / gcI f m ≤ f := Int.ediv_le_self _ (by omega)
    have b1 := bopI_fdiv (i := f) (j := gcI f m) (by omega) (log_of 251 (by omega))
    have b2 := bopI_mul (i := f / gcI f m) (j := m) (mul_okN 251 251 (by omega) (by omega))
    have e : f / gcI f m * m = lcI f m := rfl
    obtain ⟨_, _, a3, _⟩ := lcI_ok h1 hm.1
    have lb := (lcL_ok (ns := L) (f := lcI f m) (by omega) (fun x hx => (hL' x hx).1)).2.1
    rw [e] at b2
    have step : ∀ w, turnF (evSs (run pg (n + 1)) (.cons (.asg 1 (.bin .mul (.bin .fdiv (.var 1) (.sub (.call "divisor" (.cons (.var 1) (.cons (.var 2) .nil))) (.int 0))) (.var 2))) (.cons (.ifs (.cmp .ge (.var 1) (.gi "GREATEST" GR)) (.cons (.rse "TooGreat") .nil) .nil) .nil)) [nums, .cl (.int f), .cl (.int m)]) w = if GR ≤ lcI f m then some (.ex ⟨"TooGreat", []⟩ [nums, .cl (.int (lcI f m)), .cl (.int m)]) else w [nums, .cl (.int (lcI f m)), .cl (.int m)] := by
      intro w
      by_cases hg : GR ≤ lcI f m
      · rw [if_pos hg]
        simp [d, b1, b2, hg]
        rfl
      · rw [if_neg hg]
        simp [d, b1, b2, hg]
        rfl
    have fl : ∀ b, forL (tgo (.n 2)) b ((m :: L).map .int) [nums, .cl (.int f), z] = turnF (b [nums, .cl (.int f), .cl (.int m)]) (forL (tgo (.n 2)) b (L.map .int)) := fun b => by
      rw [List.map_cons, forL_turn]
      simp
    rw [fl, step]
    show (lcL (lcI f m) L < GR → _) ∧ (GR ≤ lcL (lcI f m) L → _)
    by_cases hg : GR ≤ lcI f m
    · rw [if_pos hg]
      exact ⟨fun h => by omega, fun _ => ⟨_, rfl, rfl⟩⟩
    · rw [if_neg hg]
      exact r_loop n nums L (lcI f m) (.cl (.int m)) hL' (by omega) (by omega)
theorem r_round (n : Nat) {L : List Int} (hL : NOk L) : (lcL 1 L < GR → run pg (n + 2) "round_of_all" [.cl (.lst (L.map .int))] = .ok (.cl (.int (lcL 1 L)))) ∧ (GR ≤ lcL 1 L → run pg (n + 2) "round_of_all" [.cl (.lst (L.map .int))] = .exc ⟨"TooGreat", []⟩) := by
  obtain ⟨l1, l2⟩ := r_loop n (.cl (.lst (L.map .int))) L 1 .no hL (by omega) (by decide)
  constructor
  · intro h
    obtain ⟨z', q⟩ := l1 h
    show evF (run pg (n + 1)) 1 3 b_round_of_all _ = _
    refine evF_of rfl ?_
    unfold b_round_of_all
    rw [evSs_cons, show evS (run pg (n + 1)) (.asg 1 (.int 1)) _ = some (.nx [.cl (.lst (L.map .int)), .cl (.int 1), .no]) from by simp, seqO_nx, evSs_cons, evS_for, show evIt (run pg (n + 1)) (.exp (.var 0)) _ = .ok (L.map .int) from by simp, out_ok, q]
    simp
  · intro h
    obtain ⟨sl, q, _⟩ := l2 h
    show evF (run pg (n + 1)) 1 3 b_round_of_all _ = _
    refine evF_of rfl ?_
    unfold b_round_of_all
    rw [evSs_cons, show evS (run pg (n + 1)) (.asg 1 (.int 1)) _ = some (.nx [.cl (.lst (L.map .int)), .cl (.int 1), .no]) from by simp, seqO_nx, evSs_cons, evS_for, show evIt (run pg (n + 1)) (.exp (.var 0)) _ = .ok (L.map .int) from by simp, out_ok, q]
    simp
theorem r_told (n : Nat) {L : List Int} (hL : NOk L) : run pg (n + 3) "_law_told" [.cl (.lst (L.map .int))] = .ok (.cl (if GR ≤ lcL 1 L then .lst [.bl true, .bl true, .bl false] else .int (lcL 1 L))) := by
  show evF (run pg (n + 2)) 1 5 b_law_told _ = _
  refine evF_of rfl ?_
  unfold b_law_told
  obtain ⟨c1, c2⟩ := r_round n hL
  by_cases hb : GR ≤ lcL 1 L
  · rw [if_pos hb]
    simp [c2 hb, catchF, exnIs, isxF]
  · rw [if_neg hb]
    simp [c1 (by omega), catchF, exnIs, isxF]
theorem p10_60 : bopI .pow 10 60 = some (.int 1000000000000000000000000000000000000000000000000000000000000) := by rw [bopI_pow (by decide) (by decide) (by decide)]; rfl
theorem p2_60 : bopI .pow 2 60 = some (.int 1152921504606846976) := by rw [bopI_pow (by decide) (by decide) (by decide)]; rfl
theorem p5_60 : bopI .pow 5 60 = some (.int 867361737988403547205962240695953369140625) := by rw [bopI_pow (by decide) (by decide) (by decide)]; rfl
theorem p5_59 : bopI .pow 5 59 = some (.int 173472347597680709441192448139190673828125) := by rw [bopI_pow (by decide) (by decide) (by decide)]; rfl
theorem p2_59 : bopI .pow 2 59 = some (.int 576460752303423488) := by rw [bopI_pow (by decide) (by decide) (by decide)]; rfl
theorem toDL_ints : ∀ L : List Int, MO.toDL (L.map fun i => MO.cl (.int i)) = L.map .int
  | [] => rfl
  | i :: L => by rw [List.map_cons, toDL_cons, toDL_ints L]; rfl
theorem r_numbers (n : Nat) (ns : List Int) (hl : ns.length ≤ 63) : ∃ L : List Int, run pg (n + 3) "_law_numbers" [.cl (scr ns)] = .ok (.cl (.lst (L.map .int))) ∧ NOk L ∧ L.length ≤ 60 := by
  have d := dr n
  by_cases h5 : lawBy ns 5 8 = 0
  · have a0 := lawBy_nn (ns := ns) (k := 6) (many := 9) (by omega)
    have a1 := lawBy_lt (ns := ns) (k := 6) (many := 9) (by omega)
    have b0 := lawBy_nn (ns := ns) (k := 7) (many := 4) (by omega)
    have b1 := lawBy_lt (ns := ns) (k := 7) (many := 4) (by omega)
    have go : ∀ (v : Int) (L : List Int), lawBy ns 7 4 = v → idx (.cl (.lst [.lst [.int (999999999999999999999999999999999999999999999999999999999999 - lawBy ns 6 9)], .lst [.int 1152921504606846976, .int 867361737988403547205962240695953369140625], .lst [.int 173472347597680709441192448139190673828125, .int 1152921504606846976], .lst [.int 576460752303423488, .int 173472347597680709441192448139190673828125, .int 10]])) (.cl (.int v)) = some (.cl (.lst (L.map .int))) → NOk L → L.length ≤ 60 → ∃ L : List Int, run pg (n + 3) "_law_numbers" [.cl (scr ns)] = .ok (.cl (.lst (L.map .int))) ∧ NOk L ∧ L.length ≤ 60 := by
      intro v L hv hx h1 h2
      refine ⟨L, ?_, h1, h2⟩
      show evF (run pg (n + 2)) 1 7 b_law_numbers _ = _
      refine evF_rt rfl ?_
      unfold b_law_numbers
      rw [← hv] at hx
      simp (disch := omega) [d.cell, d.by_ ns _ _ hl, h5, p10_60, p2_60, p5_60, p5_59, p2_59, hx]
    have cs : lawBy ns 7 4 = 0 ∨ lawBy ns 7 4 = 1 ∨ lawBy ns 7 4 = 2 ∨ lawBy ns 7 4 = 3 := by omega
    rcases cs with q | q | q | q
    · exact go 0 [999999999999999999999999999999999999999999999999999999999999 - lawBy ns 6 9] q (idx_lst (atI_nn (by omega) rfl)) (by intro x hx; simp at hx; omega) (by simp)
    · exact go 1 [1152921504606846976, 867361737988403547205962240695953369140625] q (idx_lst (atI_nn (by omega) rfl)) (by intro x hx; simp at hx; omega) (by simp)
    · exact go 2 [173472347597680709441192448139190673828125, 1152921504606846976] q (idx_lst (atI_nn (by omega) rfl)) (by intro x hx; simp at hx; omega) (by simp)
    · exact go 3 [576460752303423488, 173472347597680709441192448139190673828125, 10] q (idx_lst (atI_nn (by omega) rfl)) (by intro x hx; simp at hx; omega) (by simp)
  · have mx : ∃ many, many = pick [lawBy ns 0 7, lawBy ns 1 61] (lawBy ns 2 2) := ⟨_, rfl⟩
    obtain ⟨many, hmany⟩ := mx
    have a0 := lawBy_nn (ns := ns) (k := 0) (many := 7) (by omega)
    have a1 := lawBy_lt (ns := ns) (k := 0) (many := 7) (by omega)
    have b0 := lawBy_nn (ns := ns) (k := 1) (many := 61) (by omega)
    have b1 := lawBy_lt (ns := ns) (k := 1) (many := 61) (by omega)
    have mb := pick2 (P := fun v => 0 ≤ v ∧ v ≤ 60) (a := lawBy ns 0 7) (b := lawBy ns 1 61) (lawBy_nn (ns := ns) (k := 2) (many := 2) (by omega)) (lawBy_lt (by omega)) (by omega) (by omega)
    have wx : ∃ most, most = pick [12, 60, 1000] (lawBy ns 3 3) := ⟨_, rfl⟩
    obtain ⟨most, hmost⟩ := wx
    have wb := pick3 (P := fun v => 1 ≤ v ∧ v ≤ 1000) (a := 12) (b := 60) (c := 1000) (lawBy_nn (ns := ns) (k := 3) (many := 3) (by omega)) (lawBy_lt (by omega)) (by omega) (by omega) (by omega)
    rw [← hmany] at mb
    rw [← hmost] at wb
    have st : ∃ L : List Int, evSs (run pg (n + 2)) b_law_numbers ([.cl (scr ns)] ++ List.replicate (7 - 1) .no) = some (.rt (.cl (.lst (L.map .int)))) ∧ NOk L ∧ L.length ≤ 60 := by
      unfold b_law_numbers
      rw [evSs_cons, show evS (run pg (n + 2)) (.ifs _ _ _) _ = some (.nx [.cl (scr ns), .no, .no, .no, .no, .no, .no]) from by simp (disch := omega) [d.by_ ns _ _ hl, h5], seqO_nx,
        evSs_cons, show evS (run pg (n + 2)) (.asg 1 _) _ = some (.nx [.cl (scr ns), .cl (.int many), .no, .no, .no, .no, .no]) from by simp (disch := omega) [d.by_ ns _ _ hl, hmany], seqO_nx,
        evSs_cons, show evS (run pg (n + 2)) (.asg 2 _) _ = some (.nx [.cl (scr ns), .cl (.int many), .cl (.int most), .no, .no, .no, .no]) from by simp (disch := omega) [d.by_ ns _ _ hl, hmost], seqO_nx,
        evSs_cons, show evS (run pg (n + 2)) (.asg 3 _) _ = some (.nx [.cl (scr ns), .cl (.int many), .cl (.int most), .ow (.lst []), .no, .no, .no]) from by simp, seqO_nx,
        evSs_cons, evS_for, show evIt (run pg (n + 2)) (.rng1 (.var 1)) _ = .ok (rangeD 0 many.toNat) from by simp, out_ok]
      obtain ⟨s', f1, L, x, y, hs, hN, hlen⟩ := forL_cnt (g := tgo (.n 4)) (b := evSs (run pg (n + 2)) (.cons (.asg 6 (.bin .add (.int 1) (.call "_law_by" (.cons (.var 0) (.cons (.bin .add (.int 10) (.bin .mul (.int 2) (.var 4))) (.cons (.var 2) .nil)))))) (.cons (.ifs (.cmp .eq (.call "_law_by" (.cons (.var 0) (.cons (.bin .add (.int 11) (.bin .mul (.int 2) (.var 4))) (.cons (.int 6) .nil)))) (.int 0)) (.cons (.asg 6 (.bin .add (.int 1) (.bin .mod (.call "_law_cell_at" (.cons (.var 0) (.cons (.bin .add (.int 11) (.bin .mul (.int 2) (.var 4))) .nil))) (.bin .pow (.int 10) (.int 20))))) .nil) .nil) (.cons (.app 3 (.var 6)) .nil))))
        (fun k sl => ∃ (L : List Int) (x y : SV), sl = [.cl (scr ns), .cl (.int many), .cl (.int most), .ow (.lst (L.map fun i => .cl (.int i))), x, .no, y] ∧ NOk L ∧ (L.length : Int) = k) (m := many.toNat) (lo := 0) (sl := [.cl (scr ns), .cl (.int many), .cl (.int most), .ow (.lst []), .no, .no, .no])
        (by
          intro k sl k0 k1 ⟨L, x, y, hs, hN, hlen⟩
          subst hs
          refine ⟨_, tgo_n _ _ _, ?_⟩
          have m2 := bopI_mul (i := 2) (j := k) (mul_ok64 (by decide) (by decide) (by omega) (by omega))
          have hsz : L.length < sizeLine := by rw [sizeLine_eq]; omega
          have c0 := lawBy_nn (ns := ns) (k := 10 + 2 * k) (many := most) (by omega)
          have c1 := lawBy_lt (ns := ns) (k := 10 + 2 * k) (many := most) (by omega)
          have fin : ∀ v : Int, 1 ≤ v → v < 2 ^ 250 → NOk (L ++ [v]) ∧ ((L ++ [v]).length : Int) = k + 1 := fun v v0 v1 => by
            refine ⟨fun x hx => ?_, by simp; omega⟩
            rcases List.mem_append.mp hx with q | q
            · exact hN x q
            · obtain rfl := List.mem_singleton.mp q
              exact ⟨v0, v1⟩
          by_cases h6 : lawBy ns (11 + 2 * k) 6 = 0
          · obtain ⟨w1, w2⟩ := fin (1 + cellAt ns (11 + 2 * k) % 100000000000000000000) (by omega) (by omega)
            refine ⟨[.cl (scr ns), .cl (.int many), .cl (.int most), .ow (.lst ((L ++ [1 + cellAt ns (11 + 2 * k) % 100000000000000000000]).map fun i => .cl (.int i))), .cl (.int k), .no, .cl (.int (1 + cellAt ns (11 + 2 * k) % 100000000000000000000))], ?_, L ++ [1 + cellAt ns (11 + 2 * k) % 100000000000000000000], _, _, rfl, w1, w2⟩
            simp (disch := omega) [d.cell, d.by_ ns _ _ hl, m2, h6, bopI_mod, appF, hsz]
          · obtain ⟨w1, w2⟩ := fin (1 + lawBy ns (10 + 2 * k) most) (by omega) (by omega)
            refine ⟨[.cl (scr ns), .cl (.int many), .cl (.int most), .ow (.lst ((L ++ [1 + lawBy ns (10 + 2 * k) most]).map fun i => .cl (.int i))), .cl (.int k), .no, .cl (.int (1 + lawBy ns (10 + 2 * k) most))], ?_, L ++ [1 + lawBy ns (10 + 2 * k) most], _, _, rfl, w1, w2⟩
            simp (disch := omega) [d.cell, d.by_ ns _ _ hl, m2, h6, bopI_mod, appF, hsz])
        ⟨[], _, _, rfl, fun x hx => absurd hx (by simp), rfl⟩
      subst hs
      rw [f1]
      refine ⟨L, ?_, hN, by omega⟩
      simp [frzF, toDL_ints]
    obtain ⟨L, q1, q2⟩ := st
    exact ⟨L, evF_rt rfl q1, q2⟩
theorem pyL_ints : ∀ L : List Int, D.pyL (L.map .int) = some (L.map .int)
  | [] => rfl
  | i :: L => by
    show (match D.py (.int i), D.pyL (L.map .int) with | some p, some ps => some (p :: ps) | _, _ => none) = _
    rw [pyL_ints L]; rfl
theorem can_ints : ∀ L : List Int, PyData.canLayAll0 (L.map .int) = true
  | [] => rfl
  | i :: L => by
    show (true && PyData.canLayAll0 (L.map .int)) = true
    rw [can_ints L]; rfl
theorem dep_ints : ∀ L : List Int, PyData.depthAll (L.map .int) = 0
  | [] => rfl
  | i :: L => by
    show max 0 (PyData.depthAll (L.map .int)) = 0
    rw [dep_ints L]; rfl
theorem eqv_ints : ∀ L : List Int, PyData.eqvAll (L.map .int) (L.map .int) = true
  | [] => by simp [PyData.eqvAll]
  | i :: L => by simp [PyData.eqvAll, PyData.eqv, eqv_ints L]
theorem eq_ints (L : List Int) : cmpF .ne (.cl (.lst (L.map .int))) (.cl (.lst (L.map .int))) = .ok (.cl (.bl false)) := by
  have sh : PySem.SeqAt.shaped (.list (L.map .int)) = true := by
    unfold PySem.SeqAt.shaped
    have h1 : PyData.canLay0 (.list (L.map .int)) = true := can_ints L
    have h2 : PyData.depth (.list (L.map .int)) ≤ 64 := by
      have : PyData.depth (.list (L.map .int)) = 1 + PyData.depthAll (L.map .int) := by simp [PyData.depth]; omega
      rw [this, dep_ints L]; decide
    rw [h1, decide_eq_true h2]; rfl
  unfold cmpF cop
  simp only [xd_cl]
  have : eqD (.lst (L.map .int)) (.lst (L.map .int)) = some true := by
    unfold eqD
    simp only [D.py, pyL_ints, Option.map]
    rw [if_pos ⟨sh, sh⟩]
    have : PyData.eqv (.list (L.map .int)) (.list (L.map .int)) = true := by
      simp [PyData.eqv, eqv_ints]
    rw [this]
  rw [this]
  rfl
theorem eq_marks : cmpF .eq (.cl (.lst [.bl true, .bl true, .bl false])) (.cl (.lst [.bl true, .bl true, .bl false])) = .ok (.cl (.bl true)) := by
  unfold cmpF cop
  simp only [xd_cl]
  have : eqD (.lst [.bl true, .bl true, .bl false]) (.lst [.bl true, .bl true, .bl false]) = some true := by
    unfold eqD
    simp only [D.py, D.pyL, Option.map]
    rw [if_pos ⟨by rfl, by rfl⟩]
    rfl
  rw [this]
  rfl
theorem toDL_map : ∀ ds : List D, MO.toDL (ds.map .cl) = ds
  | [] => rfl
  | d :: ds => by rw [List.map_cons, toDL_cons, toDL_map ds]; rfl
theorem toDL_comp (L : List Int) : MO.toDL (L.map (MO.cl ∘ D.int)) = L.map .int := toDL_ints L
/-- the law's own least -/
theorem l_least (n : Nat) (a b c d e : SV) : ∀ (L : List Int) (f : Int) (k : Nat) (z : SV), NOk L → 1 ≤ f → 1 ≤ k → f.natAbs < 2 ^ (250 * k) → k + L.length ≤ 1000 →
    ∃ z', forL (tgo (.n 3)) (evSs (run pg (n + 1)) (.cons (.asg 2 (.bin .mul (.bin .fdiv (.var 2) (.call "_law_common" (.cons (.var 2) (.cons (.var 3) .nil)))) (.var 3))) .nil)) (L.map .int) [a, b, .cl (.int f), z, c, d, e] = some (.nx [a, b, .cl (.int (lcL f L)), z', c, d, e])
  | [], f, k, z, _, _, _, _, _ => ⟨z, rfl⟩
  | m :: L, f, k, z, hL, h1, hk, hf, hl => by
    have hm := hL m List.mem_cons_self
    have hL' : NOk L := fun x hx => hL x (List.mem_cons_of_mem _ hx)
    have gp := gcI_pos (show 0 ≤ f by omega) hm.1
    have gl : gcI f m ≤ m := Int.le_of_dvd (by omega) (((gcI_ok (show 0 ≤ f by omega) (show 0 ≤ m by omega)).dv _).mp (Int.dvd_refl _)).2
    have q0 := Int.ediv_nonneg (show 0 ≤ f by omega) (show 0 ≤ gcI f m by omega)
    have q1 : f / gcI f m ≤ f := Int.ediv_le_self _ (by omega)
    have qa : (f / gcI f m).natAbs < 2 ^ (250 * k) := Nat.lt_of_le_of_lt (by omega) hf
    have ma : m.natAbs < 2 ^ 250 := by omega
    have b1 := bopI_fdiv (i := f) (j := gcI f m) (by omega) (log_of 251 (by omega))
    have b2 := bopI_mul (i := f / gcI f m) (j := m) (mul_okN (250 * k) 250 qa ma (by simp at hl; omega) (by omega))
    have w := wide_lt qa ma
    have e0 : f / gcI f m * m = lcI f m := rfl
    rw [e0] at b2 w
    have w' : (lcI f m).natAbs < 2 ^ (250 * (k + 1)) := w
    obtain ⟨_, _, a3, _⟩ := lcI_ok h1 hm.1
    have c0 := r_common n (show 0 ≤ f by omega) (show 0 ≤ m by omega)
    obtain ⟨z', h⟩ := l_least n a b c d e L (lcI f m) (k + 1) (.cl (.int m)) hL' (by omega) (by omega) w' (by simp at hl; omega)
    refine ⟨z', ?_⟩
    rw [List.map_cons, forL_turn]
    simp [c0, b1, b2, turnF]
    exact h
/-- the parts have no common divisor -/
theorem l_parts (n : Nat) (a b c d : SV) (M : Int) (hM : 1 ≤ M) : ∀ (L : List Int) (p : Int) (z : SV), NOk L → (∀ x ∈ L, x ∣ M) → 0 ≤ p →
    ∃ z' p', forL (tgo (.n 3)) (evSs (run pg (n + 1)) (.cons (.ifs (.cmp .ne (.bin .mod (.var 5) (.var 3)) (.int 0)) (.cons (.ret (.bl false)) .nil) .nil) (.cons (.asg 6 (.call "_law_common" (.cons (.var 6) (.cons (.bin .fdiv (.var 5) (.var 3)) .nil)))) .nil))) (L.map .int) [a, b, c, z, d, .cl (.int M), .cl (.int p)] = some (.nx [a, b, c, z', d, .cl (.int M), .cl (.int p')]) ∧ 0 ≤ p' ∧ ∀ t : Int, t ∣ p' ↔ t ∣ p ∧ ∀ x ∈ L, t ∣ M / x
  | [], p, z, _, _, hp => ⟨z, p, rfl, hp, fun t => by simp⟩
  | m :: L, p, z, hL, hd, hp => by
    have hm := hL m List.mem_cons_self
    have hL' : NOk L := fun x hx => hL x (List.mem_cons_of_mem _ hx)
    have q0 := Int.ediv_nonneg (show 0 ≤ M by omega) (show 0 ≤ m by omega)
    have c0 := r_common n hp q0
    have g0 := gcI_ok hp q0
    have b1 := bopI_fdiv (i := M) (j := m) (by omega) (log_of 251 (by omega))
    have b2 := bopI_mod (i := M) (j := m) (by omega)
    rw [Int.emod_eq_zero_of_dvd (hd m List.mem_cons_self)] at b2
    obtain ⟨z', p', h, h1, h2⟩ := l_parts n a b c d M hM L (gcI p (M / m)) (.cl (.int m)) hL' (fun x hx => hd x (List.mem_cons_of_mem _ hx)) g0.nn
    refine ⟨z', p', ?_, h1, fun t => ?_⟩
    · rw [List.map_cons, forL_turn]
      simp [c0, b1, b2, turnF]
      exact h
    · rw [h2, g0.dv]
      simp [and_assoc]
theorem parts_one {L : List Int} (hL : NOk L) {p : Int} (hp : 0 ≤ p) (h : ∀ t : Int, t ∣ p ↔ t ∣ 0 ∧ ∀ x ∈ L, t ∣ lcL 1 L / x) (hne : L ≠ []) : p = 1 := by
  have ok := lcL_ok (ns := L) (f := 1) (by omega) (fun x hx => (hL x hx).1)
  generalize lcL 1 L = M at *
  obtain ⟨o1, o2, o3, o4⟩ := ok
  have hx := ((h p).mp (Int.dvd_refl p)).2
  obtain ⟨m, hm⟩ := List.exists_mem_of_ne_nil L hne
  obtain ⟨k, hk⟩ := o3 m hm
  have m1 := (hL m hm).1
  have dk : M / m = k := by rw [hk, Int.mul_ediv_cancel_left _ (by omega)]
  have pk := hx m hm
  rw [dk] at pk
  have pM : p ∣ M := by rw [hk]; exact Int.dvd_trans pk (Int.dvd_mul_left ..)
  obtain ⟨N, hN⟩ := pM
  have p1 : 1 ≤ p := by
    rcases Int.lt_or_le p 1 with q | q
    · have : p = 0 := by omega
      rw [this] at hN
      omega
    · exact q
  have all : ∀ x ∈ L, x ∣ N := fun x hxL => by
    obtain ⟨u, hu⟩ := o3 x hxL
    have x1 := (hL x hxL).1
    have du : M / x = u := by rw [hu, Int.mul_ediv_cancel_left _ (by omega)]
    have pu := hx x hxL
    rw [du] at pu
    obtain ⟨t, ht⟩ := pu
    refine ⟨t, ?_⟩
    have : p * N = p * (x * t) := by rw [← hN, hu, ht]; grind
    exact Int.eq_of_mul_eq_mul_left (by omega) this
  obtain ⟨s, hs⟩ := o4 N (Int.one_dvd N) all
  have : M * (p * s) = M * 1 := by rw [Int.mul_one]; conv => rhs; rw [hN, hs]
                                   grind
  have ps : p * s = 1 := Int.eq_of_mul_eq_mul_left (by omega) this
  have := Int.dvd_antisymm hp (show (0 : Int) ≤ 1 by decide) ⟨s, ps.symm⟩ (Int.one_dvd p)
  exact this
theorem law_true (ns : List Int) (hl : ns.length ≤ 63) : run pg 9 "law" [.cl (scr ns)] = .ok (.cl (.bl true)) := by
  show evF (run pg 8) 1 7 b_law [.cl (scr ns)] = .ok (.cl (.bl true))
  refine evF_rt rfl ?_
  unfold b_law
  obtain ⟨L, n1, hN, hlen⟩ := r_numbers 5 ns hl
  have tl := r_told 5 hN
  obtain ⟨z1, l1⟩ := l_least 7 (.cl (scr ns)) (.cl (.lst (L.map .int))) .no .no .no L 1 1 .no hN (by omega) (by omega) (by decide) (by omega)
  have ok := lcL_ok (ns := L) (f := 1) (by omega) (fun x hx => (hN x hx).1)
  obtain ⟨z2, p, l2, p0, l3⟩ := l_parts 7 (.cl (scr ns)) (.cl (.lst (L.map .int))) (.cl (.int (lcL 1 L))) (.cl (.lst (L.map .int))) (lcL 1 L) ok.2.1 L 0 z1 hN ok.2.2.1 (by omega)
  rw [evSs_cons, show evS (run pg 8) (.asg 1 _) _ = some (.nx [.cl (scr ns), .cl (.lst (L.map .int)), .no, .no, .no, .no, .no]) from by simp [n1], seqO_nx,
    evSs_cons, show evS (run pg 8) (.asg 2 _) _ = some (.nx [.cl (scr ns), .cl (.lst (L.map .int)), .cl (.int 1), .no, .no, .no, .no]) from by simp, seqO_nx,
    evSs_cons, evS_for, show evIt (run pg 8) (.exp (.var 1)) _ = .ok (L.map .int) from by simp, out_ok, l1, seqO_nx,
    evSs_cons, show evS (run pg 8) (.asg 4 _) _ = some (.nx [.cl (scr ns), .cl (.lst (L.map .int)), .cl (.int (lcL 1 L)), z1, .cl (.lst (L.map .int)), .no, .no]) from by simp [toDL_comp], seqO_nx,
    evSs_cons, show evS (run pg 8) (.asg 5 _) _ = some (.nx [.cl (scr ns), .cl (.lst (L.map .int)), .cl (.int (lcL 1 L)), z1, .cl (.lst (L.map .int)), .cl (if GR ≤ lcL 1 L then .lst [.bl true, .bl true, .bl false] else .int (lcL 1 L)), .no]) from by simp [tl], seqO_nx,
    evSs_cons, show evS (run pg 8) (.ifs _ _ _) _ = some (.nx [.cl (scr ns), .cl (.lst (L.map .int)), .cl (.int (lcL 1 L)), z1, .cl (.lst (L.map .int)), .cl (if GR ≤ lcL 1 L then .lst [.bl true, .bl true, .bl false] else .int (lcL 1 L)), .no]) from by simp [eq_ints], seqO_nx]
  by_cases hg : GR ≤ lcL 1 L
  · rw [if_pos hg]
    simp [p10_60, hg, eq_marks]
  · rw [if_neg hg]
    have l1' : ¬ lcL 1 L < 1 := by have := ok.2.1; omega
    rw [evSs_cons, show evS (run pg 8) (.ifs _ _ _) _ = some (.nx [.cl (scr ns), .cl (.lst (L.map .int)), .cl (.int (lcL 1 L)), z1, .cl (.lst (L.map .int)), .cl (.int (lcL 1 L)), .no]) from by simp [p10_60, hg], seqO_nx,
      evSs_cons, show evS (run pg 8) (.ifs _ _ _) _ = some (.nx [.cl (scr ns), .cl (.lst (L.map .int)), .cl (.int (lcL 1 L)), z1, .cl (.lst (L.map .int)), .cl (.int (lcL 1 L)), .no]) from by simp [D.ty, isTy, Ty.nm, l1'], seqO_nx,
      evSs_cons, show evS (run pg 8) (.asg 6 _) _ = some (.nx [.cl (scr ns), .cl (.lst (L.map .int)), .cl (.int (lcL 1 L)), z1, .cl (.lst (L.map .int)), .cl (.int (lcL 1 L)), .cl (.int 0)]) from by simp, seqO_nx,
      evSs_cons, evS_for, show evIt (run pg 8) (.exp (.var 1)) _ = .ok (L.map .int) from by simp, out_ok, l2, seqO_nx]
    by_cases he : L = []
    · subst he
      simp [lcL]
    · have := parts_one hN p0 l3 he
      subst this
      simp
end Lw
open PySem PySem.W PySem.Calls PyProof.Rows
set_option maxRecDepth 100000 in
set_option maxHeartbeats 0 in
theorem PySem.Challenge.cw_moonrelay_k07_round_of_all_holds : PySem.Challenge.rw_moonrelay_k07_round_of_all.Holds := by
  w_on; o_law
  refine HandSHeadRun.head_any (r := OpenLaw.row PySem.Challenge.rw_moonrelay_k07_round_of_all) (q := view (OpenLaw.row PySem.Challenge.rw_moonrelay_k07_round_of_all).prog [24]) (H := Lw.hk) (ob := Lw.ob) (M := 20000) (loose := Lw.names) (d := HandSHeadRun.topDef (OpenLaw.row PySem.Challenge.rw_moonrelay_k07_round_of_all).prog 24) (kwd := []) Lw.ob_eq
    (by kernel_rfl) (fun s => by kernel_rfl) Lw.runT (by kernel_rfl) (by kernel_rfl) (by kernel_rfl) (by rfl) (by first | assumption | decide +kernel) (by decide +kernel) ⟨rfl, rfl, rfl, rfl, rfl, by decide +kernel⟩ ?hw ?hc
  case hw => w_witness2
  case hc =>
    refine L2.walk_ofE (l := PySem.Challenge.rw_moonrelay_k07_round_of_all) (n := 63) (k := 9) (x := "_law_script") (CX := L2.CX0) rfl (by decide) (by kernel_rfl) ⟨rfl, by decide, by decide⟩ ?F (fun _ _ _ _ z => z)
    intro w mg fa h Y G hmg0
    obtain ⟨K, KX, c, cx⟩ := Y
    have hmg : mg ("law" : PySem.Str) = some (.ref fa) := by
      have e : (HandSHeadRun.topDef (OpenLaw.row PySem.Challenge.rw_moonrelay_k07_round_of_all).prog 24).name = ("law" : PySem.Str) := by kernel_rfl
      rw [← e]
      exact hmg0
    obtain ⟨fd, sp, h1, h2, h3⟩ := Mo.law_facts (p := Lw.pg) (n := 9) (x := "_law_script") (P := (PySem.Challenge.rw_moonrelay_k07_round_of_all).prog) (w := w) Lw.chk Lw.bnd rfl rfl rfl KX G hmg c cx Lw.law_true
    exact ⟨K, fd, sp, KX, h1, fun H a ns hl _ hS => h2 H a ns hl hS, h3⟩
