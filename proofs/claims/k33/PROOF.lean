import PyProof.Rows.All
import Wide.All
import OpenK.AllK
import Wide.FinOn
import PyProof.EqAt
import PyProof.EqKinds
import PyProof.TupleCall
import HandS.ForMost
import HandS.Exc
import HandS.TryOnly
import HandS.ExcOwn
import HandS.CallSlots
import HandS.WordsExc
import HandS.Wide
import HandS.WideBits
import HandS.Flt
import HandS.TupLe
import HandS.Defaults
import HandS.More
import HandS.ExcValue
import HandS.ExcIs
import HandS.HeadEnd
import HandS.SortInts
import HandS.Conv
import HandS.HeadHook1
import HandS.HeadHook2
import HandS.Iter
import PyProof.LongRange
import PyProof.ListRange
import KE.SortKeyHeap
import HandS.SortKw
import HandS.TupAny
import PyProof.Rows.TupSub
import HandS.IsInst
import HandS.Flow
import HandS.Codes
import HandS.Head0
import HandS.Head1
import HandS.Head2
import PySem.Challenge.RW_moonrelay_k33_comings_walked
import Lean
set_option Elab.async false
set_option linter.all false
set_option maxRecDepth 100000
set_option maxHeartbeats 0
namespace Mo
open PySem PySem.Spec PyProof.Rows L2
/-- plain data -/
inductive D where
  | non | bl (b : Bool) | int (i : Int) | str (s : Str)
  | tup (xs : List D) | lst (xs : List D) | dct (ks vs : List D) | ins (c : Str) (ns : List Str) (vs : List D) | exn (c : String)
deriving Inhabited
def Ex (H H' : Hp) : Prop := ∀ a o, H a = some o → H' a = some o
theorem Ex.refl (H : Hp) : Ex H H := fun _ _ h => h
theorem Ex.trans {H H1 H2 : Hp} (a : Ex H H1) (b : Ex H1 H2) : Ex H H2 := fun x o h => b x o (a x o h)
theorem Ex.new {H : Hp} {p : Addr} {o : HO} (h : H p = none) : Ex H (upd H p o) := fun a u e => by
  rw [upd_ne (ne_of_none e h)]
  exact e
theorem Ex.upd2 {H H' : Hp} {p : Addr} {o : HO} (h : Ex H H') : Ex (upd H p o) (upd H' p o) := fun a u e => by
  by_cases q : a = p
  · subst q; rw [upd_same] at e ⊢; exact e
  · rw [upd_ne q] at e ⊢; exact h a u e
theorem Ex.mut {F H : Hp} {p : Addr} {o : HO} (h : Ex F H) (n : F p = none) : Ex F (upd H p o) := fun a u e => by
  rw [upd_ne (ne_of_none e n)]; exact h a u e
theorem Ex.free {H H' : Hp} (e : Ex H H') {l : Addr} (h : H' l = none) : H l = none := by
  cases q : H l with
  | none => rfl
  | some o => rw [e l o q] at h; cases h
theorem Ex.rd {H H' : Hp} {a : Addr} {u : HO} (e : Ex H H') (h : Rd H a u) : Rd H' a u := by
  rcases h with h | ⟨o, h⟩
  · exact .inl (e a _ h)
  · exact .inr ⟨o, e a _ h⟩
theorem Ex.sql {K : PySem.W.Frag} {H H' : Hp} {a : Addr} {xs : List V} (e : Ex H H') (h : SqL K H a xs) : SqL K H' a xs := by
  rcases h with h | h
  · exact .inl (e.rd h)
  · exact .inr h
theorem Ex.sqt {K : PySem.W.Frag} {H H' : Hp} {a : Addr} {xs : List V} (e : Ex H H') (h : SqT K H a xs) : SqT K H' a xs := by
  rcases h with h | h
  · exact .inl (e.rd h)
  · exact .inr h
/-- a key of a dict -/
def keyD : Key → D
  | .inl i => .int i
  | .inr s => .str s
def dKey : D → Option Key
  | .int i => some (.inl i)
  | .str s => some (.inr s)
  | _ => none
theorem dKey_eq {d : D} {k : Key} (h : dKey d = some k) : d = keyD k := by
  cases d <;> simp [dKey] at h <;> subst h <;> rfl
@[simp] theorem dKey_keyD (k : Key) : dKey (keyD k) = some k := by cases k <;> rfl
/-- an exception of a class, at its address -/
def ExH (cls : Value) (a : Addr) : HO := .ext fun h => ∃ (oe : Obj) (vs : Array Value), h.get? a = some oe ∧ Zc cls none oe ∧ oe.data = .fields vs
/-- no lock -/
def NF (u : HO) : Prop := ∀ o x, u ≠ .frz o x
/-- an instance, or a thing told by its object -/
def OB : HO → Prop
  | .ins _ _ _ => True
  | .ext _ => True
  | _ => False
/-- what is read at a in H is read there in H' -/
def Sa (H H' : Hp) (a : Addr) : Prop := (∀ u, NF u → Rd H a u → Rd H' a u) ∧ ∀ o, OB o → H a = some o → H' a = some o
def Sm (H H' : Hp) : Prop := ∀ a, Sa H H' a
theorem rd_keep {H H' : Hp} {a : Addr} {u : HO} (k : ∀ o, H a = some o → H' a = some o) (h : Rd H a u) : Rd H' a u := by
  rcases h with q | ⟨o, q⟩
  · exact .inl (k _ q)
  · exact .inr ⟨o, k _ q⟩
theorem Sa.of {H H' : Hp} {a : Addr} (k : ∀ o, H a = some o → H' a = some o) : Sa H H' a := ⟨fun _ _ r => rd_keep k r, fun o _ q => k o q⟩
theorem Ex.sm {H H' : Hp} (e : Ex H H') : Sm H H' := fun a => Sa.of (e a)
theorem Sm.refl (H : Hp) : Sm H H := (Ex.refl H).sm
theorem Sm.trans {H H1 H2 : Hp} (a : Sm H H1) (b : Sm H1 H2) : Sm H H2 := fun x => ⟨fun u n r => (b x).1 u n ((a x).1 u n r), fun o q e => (b x).2 o q ((a x).2 o q e)⟩
theorem rd_there {H : Hp} {a : Addr} {u : HO} (h : Rd H a u) : H a ≠ none := by
  rcases h with q | ⟨o, q⟩ <;> rw [q] <;> simp
theorem rd_inj {H : Hp} {a : Addr} {u u' : HO} (h : Rd H a u) (h' : Rd H a u') (n : NF u) (n' : NF u') : u = u' := by
  rcases h with h | ⟨o, h⟩
  · rcases h' with h' | ⟨o', h'⟩
    · rw [h] at h'; exact Option.some.inj h'
    · rw [h] at h'; exact absurd (Option.some.inj h') (n _ _)
  · rcases h' with h' | ⟨o', h'⟩
    · rw [h] at h'; exact absurd (Option.some.inj h').symm (n' _ _)
    · rw [h] at h'; cases h'; rfl
theorem nf_lst {xs : List V} : NF (.lst xs) := fun _ _ z => nomatch z
theorem nf_tup {xs : List V} : NF (.tup xs) := fun _ _ z => nomatch z
theorem nf_dK {xs : List (Key × V)} : NF (.dK xs) := fun _ _ z => nomatch z
theorem Sm.sql {K : PySem.W.Frag} {H H' : Hp} {a : Addr} {xs : List V} (e : Sm H H') (h : SqL K H a xs) : SqL K H' a xs := by
  rcases h with h | h
  · exact .inl ((e a).1 _ nf_lst h)
  · exact .inr h
theorem Sm.sqt {K : PySem.W.Frag} {H H' : Hp} {a : Addr} {xs : List V} (e : Sm H H') (h : SqT K H a xs) : SqT K H' a xs := by
  rcases h with h | h
  · exact .inl ((e a).1 _ nf_tup h)
  · exact .inr h
/-- at a stands a dict of the keys ks and the values vs -/
def DicR (H : Hp) (a : Addr) (ks : List D) (vs : List V) : Prop := ∃ kvs, Rd H a (.dK kvs) ∧ ks = kvs.map (fun p => keyD p.1) ∧ vs = kvs.map (·.2) ∧ (kvs.map (·.1)).Nodup
theorem DicR.sa {H H' : Hp} {a : Addr} {ks : List D} {vs : List V} (e : Sa H H' a) (h : DicR H a ks vs) : DicR H' a ks vs := by
  obtain ⟨kvs, h1, h2⟩ := h
  exact ⟨kvs, e.1 _ nf_dK h1, h2⟩
theorem DicR.there {H : Hp} {a : Addr} {ks : List D} {vs : List V} (h : DicR H a ks vs) : H a ≠ none := by
  obtain ⟨kvs, h1, h2⟩ := h
  exact rd_there h1
theorem DicR.inj {H : Hp} {a : Addr} {ks ks' : List D} {vs vs' : List V} (h : DicR H a ks vs) (h' : DicR H a ks' vs') : ks = ks' ∧ vs = vs' := by
  obtain ⟨kvs, h1, h2, h3, _⟩ := h
  obtain ⟨kvs', h1', h2', h3', _⟩ := h'
  cases rd_inj h1 h1' nf_dK nf_dK
  exact ⟨h2.trans h2'.symm, h3.trans h3'.symm⟩
theorem DicR.len {H : Hp} {a : Addr} {ks : List D} {vs : List V} (h : DicR H a ks vs) : ks.length = vs.length := by
  obtain ⟨kvs, h1, h2, h3, _⟩ := h
  rw [h2, h3, List.length_map, List.length_map]
mutual
/-- v stands for the data d, by what stands in T for ever -/
def Rep (K : PySem.W.Frag) (T : Hp) : D → V → Prop
  | .non, v => v = .non
  | .bl b, v => v = .bl b
  | .int i, v => v = .int i
  | .str s, v => v = .str s
  | .tup ds, v => ∃ a vs, v = .ref a ∧ SqT K T a vs ∧ RepL K T ds vs
  | .lst ds, v => ∃ a vs, v = .ref a ∧ SqL K T a vs ∧ RepL K T ds vs
  | .dct ks ds, v => ∃ a vs, v = .ref a ∧ DicR T a ks vs ∧ RepL K T ds vs
  | .ins c ns ds, v => ∃ a dx fs, v = .ref a ∧ T a = some (.ins (He.ga K c) dx fs) ∧ fs.map (·.1) = ns ∧ RepL K T ds (fs.map (·.2))
  | .exn c, v => ∃ a, v = .ref a ∧ T a = some (ExH (.ref (He.ga K (Str.ofString c))) a)
def RepL (K : PySem.W.Frag) (T : Hp) : List D → List V → Prop
  | [], vs => vs = []
  | d :: ds, vs => ∃ v r, vs = v :: r ∧ Rep K T d v ∧ RepL K T ds r
end
mutual
theorem Rep.sm {K : PySem.W.Frag} {T T' : Hp} (e : Sm T T') : ∀ {d : D} {v : V}, Rep K T d v → Rep K T' d v
  | .non, _, h => h
  | .bl _, _, h => h
  | .int _, _, h => h
  | .str _, _, h => h
  | .tup _, _, ⟨a, vs, e1, e2, e3⟩ => ⟨a, vs, e1, e.sqt e2, RepL.sm e e3⟩
  | .lst _, _, ⟨a, vs, e1, e2, e3⟩ => ⟨a, vs, e1, e.sql e2, RepL.sm e e3⟩
  | .dct _ _, _, ⟨a, vs, e1, e2, e3⟩ => ⟨a, vs, e1, e2.sa (e a), RepL.sm e e3⟩
  | .ins _ _ _, _, ⟨a, dx, fs, e1, e2, e3, e4⟩ => ⟨a, dx, fs, e1, (e a).2 _ trivial e2, e3, RepL.sm e e4⟩
  | .exn _, _, ⟨a, e1, e2⟩ => ⟨a, e1, (e a).2 _ trivial e2⟩
theorem RepL.sm {K : PySem.W.Frag} {T T' : Hp} (e : Sm T T') : ∀ {ds : List D} {vs : List V}, RepL K T ds vs → RepL K T' ds vs
  | [], _, h => h
  | _ :: _, _, ⟨v, r, e1, e2, e3⟩ => ⟨v, r, e1, Rep.sm e e2, RepL.sm e e3⟩
end
theorem Rep.mono {K : PySem.W.Frag} {T T' : Hp} (e : Ex T T') {d : D} {v : V} (h : Rep K T d v) : Rep K T' d v := h.sm e.sm
theorem RepL.mono {K : PySem.W.Frag} {T T' : Hp} (e : Ex T T') {ds : List D} {vs : List V} (h : RepL K T ds vs) : RepL K T' ds vs := h.sm e.sm
section
variable {K : PySem.W.Frag} {T : Hp}
theorem RepL.length : ∀ {ds : List D} {vs : List V}, RepL K T ds vs → ds.length = vs.length
  | [], vs, h => by
    have e : vs = [] := h
    subst e; rfl
  | _ :: _, _, ⟨v, r, e1, _, e3⟩ => by rw [e1]; simp [RepL.length e3]
theorem RepL.get : ∀ {ds : List D} {vs : List V} {i : Nat} {d : D}, RepL K T ds vs → ds[i]? = some d → ∃ v, vs[i]? = some v ∧ Rep K T d v
  | [], _, _, _, _, h => by simp at h
  | _ :: _, _, 0, _, ⟨v, r, e1, e2, _⟩, h => by simp at h; subst h; exact ⟨v, by rw [e1]; rfl, e2⟩
  | _ :: _, _, i + 1, _, ⟨v, r, e1, _, e3⟩, h => by
    obtain ⟨w, h1, h2⟩ := RepL.get (i := i) e3 (by simpa using h)
    exact ⟨w, by rw [e1]; simpa using h1, h2⟩
theorem RepL.getV : ∀ {ds : List D} {vs : List V} {i : Nat} {v : V}, RepL K T ds vs → vs[i]? = some v → ∃ d, ds[i]? = some d ∧ Rep K T d v
  | [], vs, _, _, h, q => by
    have e : vs = [] := h
    subst e; simp at q
  | d :: _, _, 0, _, ⟨v, r, e1, e2, _⟩, h => by rw [e1] at h; simp at h; subst h; exact ⟨d, rfl, e2⟩
  | _ :: _, _, i + 1, _, ⟨v, r, e1, _, e3⟩, h => by
    rw [e1] at h
    obtain ⟨w, h1, h2⟩ := RepL.getV (i := i) e3 (by simpa using h)
    exact ⟨w, by simpa using h1, h2⟩
theorem RepL.append : ∀ {ds es : List D} {vs ws : List V}, RepL K T ds vs → RepL K T es ws → RepL K T (ds ++ es) (vs ++ ws)
  | [], _, vs, _, h, q => by
    have e : vs = [] := h
    subst e; exact q
  | _ :: _, _, _, _, ⟨v, r, e1, e2, e3⟩, q => ⟨v, r ++ _, by rw [e1]; rfl, e2, RepL.append e3 q⟩
theorem RepL.one {d : D} {v : V} (h : Rep K T d v) : RepL K T [d] [v] := ⟨v, [], rfl, h, rfl⟩
theorem RepL.set {d : D} {v : V} (h : Rep K T d v) : ∀ {ds : List D} {vs : List V} (i : Nat), RepL K T ds vs → RepL K T (ds.set i d) (vs.set i v)
  | [], vs, _, h => by
    have e : vs = [] := h
    subst e; exact rfl
  | _ :: _, _, 0, ⟨w, r, e1, _, e3⟩ => ⟨v, r, by rw [e1]; rfl, h, e3⟩
  | _ :: _, _, i + 1, ⟨w, r, e1, e2, e3⟩ => ⟨w, r.set i v, by rw [e1]; rfl, e2, RepL.set h i e3⟩
theorem RepL.take : ∀ {ds : List D} {vs : List V} (n : Nat), RepL K T ds vs → RepL K T (ds.take n) (vs.take n)
  | _, _, 0, _ => by simp [RepL]
  | [], vs, _ + 1, h => by
    have e : vs = [] := h
    subst e; simp [RepL]
  | _ :: _, _, n + 1, ⟨v, r, e1, e2, e3⟩ => ⟨v, r.take n, by rw [e1]; rfl, e2, RepL.take n e3⟩
theorem RepL.drop : ∀ {ds : List D} {vs : List V} (n : Nat), RepL K T ds vs → RepL K T (ds.drop n) (vs.drop n)
  | _, _, 0, h => h
  | [], vs, _ + 1, h => by
    have e : vs = [] := h
    subst e; simp [RepL]
  | _ :: _, _, n + 1, ⟨v, r, e1, e2, e3⟩ => by rw [e1]; exact RepL.drop n e3
end
/-- what a frame holds: data, or objects of its own over such -/
inductive MO where
  | cl (d : D) | tup (ms : List MO) | lst (ms : List MO) | dct (ks : List D) (ms : List MO) | ins (c : Str) (ns : List Str) (ms : List MO)
deriving Inhabited
mutual
def MO.toD : MO → D
  | .cl d => d
  | .tup ms => .tup (MO.toDL ms)
  | .lst ms => .lst (MO.toDL ms)
  | .dct ks ms => .dct ks (MO.toDL ms)
  | .ins c ns ms => .ins c ns (MO.toDL ms)
def MO.toDL : List MO → List D
  | [] => []
  | m :: ms => m.toD :: MO.toDL ms
end
@[simp] theorem MO.toDL_cl (ds : List D) : MO.toDL (ds.map .cl) = ds := by
  induction ds with
  | nil => rfl
  | cons d r ih => simp [MO.toDL, MO.toD, ih]
theorem MO.toDL_map (ms : List MO) : MO.toDL ms = ms.map MO.toD := by
  induction ms with
  | nil => rfl
  | cons d r ih => simp [MO.toDL, ih]
mutual
/-- v stands for m: its own objects at A (in H), the data in F -/
def ORep (K : PySem.W.Frag) (F H : Hp) : MO → V → List Addr → Prop
  | .cl d, v, A => Rep K F d v ∧ A = []
  | .tup ms, v, A => ∃ a vs B, v = .ref a ∧ Rd H a (.tup vs) ∧ ORepL K F H ms vs B ∧ A = a :: B
  | .lst ms, v, A => ∃ a vs B, v = .ref a ∧ Rd H a (.lst vs) ∧ ORepL K F H ms vs B ∧ A = a :: B
  | .dct ks ms, v, A => ∃ a vs B, v = .ref a ∧ DicR H a ks vs ∧ ORepL K F H ms vs B ∧ A = a :: B
  | .ins c ns ms, v, A => ∃ a vs B, v = .ref a ∧ (∃ dx fs, H a = some (.ins (He.ga K c) dx fs) ∧ fs.map (·.1) = ns ∧ vs = fs.map (·.2)) ∧ ORepL K F H ms vs B ∧ A = a :: B
def ORepL (K : PySem.W.Frag) (F H : Hp) : List MO → List V → List Addr → Prop
  | [], vs, A => vs = [] ∧ A = []
  | m :: ms, vs, A => ∃ v r A1 A2, vs = v :: r ∧ ORep K F H m v A1 ∧ ORepL K F H ms r A2 ∧ A = A1 ++ A2
end
/-- an object's parts -/
def MO.ms : MO → Option (List MO)
  | .cl _ => none
  | .tup ms => some ms
  | .lst ms => some ms
  | .dct _ ms => some ms
  | .ins _ _ ms => some ms
def MO.wth : MO → List MO → MO
  | .cl d, _ => .cl d
  | .tup _, ms => .tup ms
  | .lst _, ms => .lst ms
  | .dct ks _, ms => .dct ks ms
  | .ins c ns _, ms => .ins c ns ms
def NodR (K : PySem.W.Frag) (H : Hp) : MO → Addr → List V → Prop
  | .cl _, _, _ => False
  | .tup _, a, vs => Rd H a (.tup vs)
  | .lst _, a, vs => Rd H a (.lst vs)
  | .dct ks _, a, vs => DicR H a ks vs
  | .ins c ns _, a, vs => ∃ dx fs, H a = some (.ins (He.ga K c) dx fs) ∧ fs.map (·.1) = ns ∧ vs = fs.map (·.2)
theorem ORep.nod {K : PySem.W.Frag} {F H : Hp} {m : MO} {ms : List MO} (hm : m.ms = some ms) {v : V} {A : List Addr} : ORep K F H m v A ↔ ∃ a vs B, v = .ref a ∧ NodR K H m a vs ∧ ORepL K F H ms vs B ∧ A = a :: B := by
  cases m <;> cases hm <;> exact Iff.rfl
theorem NodR.wth {K : PySem.W.Frag} {H : Hp} {m : MO} {a : Addr} {vs : List V} {ms : List MO} (h : NodR K H m a vs) : NodR K H (m.wth ms) a vs := by
  cases m <;> exact h
theorem MO.wth_ms {m : MO} {ms ms' : List MO} (hm : m.ms = some ms) : (m.wth ms').ms = some ms' := by
  cases m <;> cases hm <;> rfl
theorem NodR.sa {K : PySem.W.Frag} {H H' : Hp} {m : MO} {a : Addr} {vs : List V} (e : Sa H H' a) (h : NodR K H m a vs) : NodR K H' m a vs := by
  cases m with
  | cl _ => exact h
  | tup _ => exact e.1 _ nf_tup h
  | lst _ => exact e.1 _ nf_lst h
  | dct _ _ => exact DicR.sa e h
  | ins _ _ _ => obtain ⟨dx, fs, h1, h2⟩ := h; exact ⟨dx, fs, e.2 _ trivial h1, h2⟩
theorem NodR.there {K : PySem.W.Frag} {H : Hp} {m : MO} {a : Addr} {vs : List V} (h : NodR K H m a vs) : H a ≠ none := by
  cases m with
  | cl _ => exact h.elim
  | tup _ => exact rd_there h
  | lst _ => exact rd_there h
  | dct _ _ => exact DicR.there h
  | ins _ _ _ => obtain ⟨dx, fs, h1, h2⟩ := h; rw [h1]; simp
theorem NodR.inj {K : PySem.W.Frag} {H : Hp} {m : MO} {a : Addr} {vs vs' : List V} (h : NodR K H m a vs) (h' : NodR K H m a vs') : vs = vs' := by
  cases m with
  | cl _ => exact h.elim
  | tup _ => cases rd_inj h h' nf_tup nf_tup; rfl
  | lst _ => cases rd_inj h h' nf_lst nf_lst; rfl
  | dct _ _ => exact (DicR.inj h h').2
  | ins _ _ _ =>
    obtain ⟨dx, fs, h1, h2, h3⟩ := h
    obtain ⟨dx', fs', h1', h2', h3'⟩ := h'
    rw [h1] at h1'
    cases h1'
    rw [h3, h3']
mutual
theorem ORep.sm {K : PySem.W.Frag} {F F' H H' : Hp} (eF : Sm F F') : ∀ {m : MO} {v : V} {A : List Addr}, ORep K F H m v A → (∀ a ∈ A, Sa H H' a) → ORep K F' H' m v A
  | .cl _, _, _, ⟨h, e⟩, _ => ⟨h.sm eF, e⟩
  | .tup _, _, _, ⟨a, vs, B, e1, e2, e3, e4⟩, k => ⟨a, vs, B, e1, (k a (by rw [e4]; exact List.mem_cons_self)).1 _ nf_tup e2, ORepL.sm eF e3 (fun b hb => k b (by rw [e4]; exact List.mem_cons_of_mem _ hb)), e4⟩
  | .lst _, _, _, ⟨a, vs, B, e1, e2, e3, e4⟩, k => ⟨a, vs, B, e1, (k a (by rw [e4]; exact List.mem_cons_self)).1 _ nf_lst e2, ORepL.sm eF e3 (fun b hb => k b (by rw [e4]; exact List.mem_cons_of_mem _ hb)), e4⟩
  | .dct _ _, _, _, ⟨a, vs, B, e1, e2, e3, e4⟩, k => ⟨a, vs, B, e1, e2.sa (k a (by rw [e4]; exact List.mem_cons_self)), ORepL.sm eF e3 (fun b hb => k b (by rw [e4]; exact List.mem_cons_of_mem _ hb)), e4⟩
  | .ins _ _ _, _, _, ⟨a, vs, B, e1, ⟨dx, fs, e2, e5⟩, e3, e4⟩, k => ⟨a, vs, B, e1, ⟨dx, fs, (k a (by rw [e4]; exact List.mem_cons_self)).2 _ trivial e2, e5⟩, ORepL.sm eF e3 (fun b hb => k b (by rw [e4]; exact List.mem_cons_of_mem _ hb)), e4⟩
theorem ORepL.sm {K : PySem.W.Frag} {F F' H H' : Hp} (eF : Sm F F') : ∀ {ms : List MO} {vs : List V} {A : List Addr}, ORepL K F H ms vs A → (∀ a ∈ A, Sa H H' a) → ORepL K F' H' ms vs A
  | [], _, _, h, _ => h
  | _ :: _, _, _, ⟨v, r, A1, A2, e1, e2, e3, e4⟩, k => ⟨v, r, A1, A2, e1, ORep.sm eF e2 (fun a ha => k a (by rw [e4]; exact List.mem_append_left _ ha)), ORepL.sm eF e3 (fun a ha => k a (by rw [e4]; exact List.mem_append_right _ ha)), e4⟩
end
theorem ORep.mono {K : PySem.W.Frag} {F F' H H' : Hp} (eF : Ex F F') {m : MO} {v : V} {A : List Addr} (h : ORep K F H m v A) (k : ∀ a ∈ A, ∀ o, H a = some o → H' a = some o) : ORep K F' H' m v A := h.sm eF.sm fun a ha => Sa.of (k a ha)
theorem ORepL.mono {K : PySem.W.Frag} {F F' H H' : Hp} (eF : Ex F F') {ms : List MO} {vs : List V} {A : List Addr} (h : ORepL K F H ms vs A) (k : ∀ a ∈ A, ∀ o, H a = some o → H' a = some o) : ORepL K F' H' ms vs A := h.sm eF.sm fun a ha => Sa.of (k a ha)
mutual
/-- own objects are there -/
theorem ORep.there {K : PySem.W.Frag} {F H : Hp} : ∀ {m : MO} {v : V} {A : List Addr}, ORep K F H m v A → ∀ a ∈ A, H a ≠ none
  | .cl _, _, _, ⟨_, e⟩, a, ha => by rw [e] at ha; simp at ha
  | .tup _, _, _, ⟨b, vs, B, e1, e2, e3, e4⟩, a, ha => by
      rw [e4] at ha
      rcases List.mem_cons.mp ha with h | h
      · subst h; exact rd_there e2
      · exact ORepL.there e3 a h
  | .lst _, _, _, ⟨b, vs, B, e1, e2, e3, e4⟩, a, ha => by
      rw [e4] at ha
      rcases List.mem_cons.mp ha with h | h
      · subst h; exact rd_there e2
      · exact ORepL.there e3 a h
  | .dct _ _, _, _, ⟨b, vs, B, e1, e2, e3, e4⟩, a, ha => by
      rw [e4] at ha
      rcases List.mem_cons.mp ha with h | h
      · subst h; exact e2.there
      · exact ORepL.there e3 a h
  | .ins _ _ _, _, _, ⟨b, vs, B, e1, ⟨dx, fs, e2, e5⟩, e3, e4⟩, a, ha => by
      rw [e4] at ha
      rcases List.mem_cons.mp ha with h | h
      · subst h; rw [e2]; simp
      · exact ORepL.there e3 a h
theorem ORepL.there {K : PySem.W.Frag} {F H : Hp} : ∀ {ms : List MO} {vs : List V} {A : List Addr}, ORepL K F H ms vs A → ∀ a ∈ A, H a ≠ none
  | [], _, _, ⟨_, e⟩, a, ha => by rw [e] at ha; simp at ha
  | _ :: _, _, _, ⟨v, r, A1, A2, e1, e2, e3, e4⟩, a, ha => by
      rw [e4] at ha
      rcases List.mem_append.mp ha with h | h
      · exact ORep.there e2 a h
      · exact ORepL.there e3 a h
end
mutual
/-- what is read off a whole object as data -/
theorem ORep.rep {K : PySem.W.Frag} {F H : Hp} {T : Hp} (e : Ex F T) : ∀ {m : MO} {v : V} {A : List Addr}, ORep K F H m v A → (∀ a ∈ A, ∀ o, H a = some o → T a = some o) → Rep K T m.toD v
  | .cl _, _, _, ⟨h, _⟩, _ => h.mono e
  | .tup _, _, _, ⟨a, vs, B, e1, e2, e3, e4⟩, k => ⟨a, vs, e1, .inl (rd_keep (k a (by rw [e4]; exact List.mem_cons_self)) e2), ORepL.rep e e3 (fun b hb o q => k b (by rw [e4]; exact List.mem_cons_of_mem _ hb) o q)⟩
  | .lst _, _, _, ⟨a, vs, B, e1, e2, e3, e4⟩, k => ⟨a, vs, e1, .inl (rd_keep (k a (by rw [e4]; exact List.mem_cons_self)) e2), ORepL.rep e e3 (fun b hb o q => k b (by rw [e4]; exact List.mem_cons_of_mem _ hb) o q)⟩
  | .dct _ _, _, _, ⟨a, vs, B, e1, e2, e3, e4⟩, k => ⟨a, vs, e1, e2.sa (Sa.of (k a (by rw [e4]; exact List.mem_cons_self))), ORepL.rep e e3 (fun b hb o q => k b (by rw [e4]; exact List.mem_cons_of_mem _ hb) o q)⟩
  | .ins _ _ _, _, _, ⟨a, vs, B, e1, ⟨dx, fs, e2, e5, e6⟩, e3, e4⟩, k => ⟨a, dx, fs, e1, k a (by rw [e4]; exact List.mem_cons_self) _ e2, e5, by rw [← e6]; exact ORepL.rep e e3 (fun b hb o q => k b (by rw [e4]; exact List.mem_cons_of_mem _ hb) o q)⟩
theorem ORepL.rep {K : PySem.W.Frag} {F H : Hp} {T : Hp} (e : Ex F T) : ∀ {ms : List MO} {vs : List V} {A : List Addr}, ORepL K F H ms vs A → (∀ a ∈ A, ∀ o, H a = some o → T a = some o) → RepL K T (MO.toDL ms) vs
  | [], _, _, ⟨h, _⟩, _ => h
  | _ :: _, _, _, ⟨v, r, A1, A2, e1, e2, e3, e4⟩, k => ⟨v, r, e1, ORep.rep e e2 (fun a ha => k a (by rw [e4]; exact List.mem_append_left _ ha)), ORepL.rep e e3 (fun a ha => k a (by rw [e4]; exact List.mem_append_right _ ha))⟩
end
/-- a row of data as a row of objects -/
theorem ORepL.of {K : PySem.W.Frag} {F H : Hp} : ∀ {ds : List D} {vs : List V}, RepL K F ds vs → ORepL K F H (ds.map .cl) vs []
  | [], _, h => ⟨h, rfl⟩
  | _ :: _, _, ⟨v, r, e1, e2, e3⟩ => ⟨v, r, [], [], e1, ⟨e2, rfl⟩, ORepL.of e3, rfl⟩
theorem ORepL.length {K : PySem.W.Frag} {F H : Hp} : ∀ {ms : List MO} {vs : List V} {A : List Addr}, ORepL K F H ms vs A → ms.length = vs.length
  | [], vs, _, ⟨h, _⟩ => by subst h; rfl
  | _ :: _, _, _, ⟨v, r, A1, A2, e1, e2, e3, e4⟩ => by rw [e1]; simp [ORepL.length e3]
theorem ORepL.get {K : PySem.W.Frag} {F H : Hp} : ∀ {ms : List MO} {vs : List V} {A : List Addr} {i : Nat} {m : MO}, ORepL K F H ms vs A → ms[i]? = some m → ∃ v B, vs[i]? = some v ∧ ORep K F H m v B ∧ ∀ a ∈ B, a ∈ A
  | [], _, _, _, _, _, h => by simp at h
  | _ :: _, _, _, 0, _, ⟨v, r, A1, A2, e1, e2, e3, e4⟩, h => by
    simp at h; subst h
    exact ⟨v, A1, by rw [e1]; rfl, e2, fun a h => by rw [e4]; exact List.mem_append_left _ h⟩
  | _ :: _, _, _, i + 1, _, ⟨v, r, A1, A2, e1, e2, e3, e4⟩, h => by
    obtain ⟨v', B, h1, h2, h3⟩ := ORepL.get (i := i) e3 (by simpa using h)
    exact ⟨v', B, by rw [e1]; simpa using h1, h2, fun a h => by rw [e4]; exact List.mem_append_right _ (h3 a h)⟩
mutual
/-- an object's own places are told by its value -/
theorem ORep.addrs {K : PySem.W.Frag} {F H : Hp} : ∀ {m : MO} {v : V} {A A' : List Addr}, ORep K F H m v A → ORep K F H m v A' → A = A'
  | .cl _, _, _, _, ⟨_, e⟩, ⟨_, e'⟩ => by rw [e, e']
  | .tup _, _, _, _, ⟨a, vs, B, e1, e2, e3, e4⟩, ⟨a', vs', B', e1', e2', e3', e4'⟩ => by
    rw [e1] at e1'; cases e1'
    cases rd_inj e2 e2' nf_tup nf_tup
    rw [e4, e4', ORepL.addrs e3 e3']
  | .lst _, _, _, _, ⟨a, vs, B, e1, e2, e3, e4⟩, ⟨a', vs', B', e1', e2', e3', e4'⟩ => by
    rw [e1] at e1'; cases e1'
    cases rd_inj e2 e2' nf_lst nf_lst
    rw [e4, e4', ORepL.addrs e3 e3']
  | .dct _ _, _, _, _, ⟨a, vs, B, e1, e2, e3, e4⟩, ⟨a', vs', B', e1', e2', e3', e4'⟩ => by
    rw [e1] at e1'; cases e1'
    obtain rfl := (e2.inj e2').2
    rw [e4, e4', ORepL.addrs e3 e3']
  | .ins _ _ _, _, _, _, ⟨a, vs, B, e1, ⟨dx, fs, e2, e5, e6⟩, e3, e4⟩, ⟨a', vs', B', e1', ⟨dx', fs', e2', e5', e6'⟩, e3', e4'⟩ => by
    rw [e1] at e1'; cases e1'
    rw [e2] at e2'; cases e2'
    subst e6 e6'
    rw [e4, e4', ORepL.addrs e3 e3']
theorem ORepL.addrs {K : PySem.W.Frag} {F H : Hp} : ∀ {ms : List MO} {vs : List V} {A A' : List Addr}, ORepL K F H ms vs A → ORepL K F H ms vs A' → A = A'
  | [], _, _, _, ⟨_, e⟩, ⟨_, e'⟩ => by rw [e, e']
  | _ :: _, _, _, _, ⟨v, r, A1, A2, e1, e2, e3, e4⟩, ⟨v', r', A1', A2', e1', e2', e3', e4'⟩ => by
    rw [e1] at e1'; cases e1'
    rw [e4, e4', ORep.addrs e2 e2', ORepL.addrs e3 e3']
end
theorem ORepL.append {K : PySem.W.Frag} {F H : Hp} : ∀ {ms ns : List MO} {vs ws : List V} {A B : List Addr}, ORepL K F H ms vs A → ORepL K F H ns ws B → ORepL K F H (ms ++ ns) (vs ++ ws) (A ++ B)
  | [], _, vs, _, A, _, ⟨e1, e2⟩, q => by subst e1 e2; exact q
  | _ :: _, _, _, _, _, _, ⟨v, r, A1, A2, e1, e2, e3, e4⟩, q => ⟨v, r ++ _, A1, A2 ++ _, by rw [e1]; rfl, e2, ORepL.append e3 q, by rw [e4, List.append_assoc]⟩
/-- the heaps at a place: what stands for ever, that and what others own, all -/
structure Wd where
  F : Hp
  G : Hp
  H : Hp
  /-- what the frame's own things were handed in as -/
  bs : List V
structure WOk (w : Wd) : Prop where
  fg : Ex w.F w.G
  gh : Ex w.G w.H
theorem WOk.fh {w : Wd} (k : WOk w) : Ex w.F w.H := k.fg.trans k.gh
structure WLe (w w' : Wd) : Prop where
  f : Ex w.F w'.F
  g : Ex w.G w'.G
  h : Ex w.H w'.H
  ff : ∀ a, w.H a ≠ none → w.F a = none → w'.F a = none
  gg : ∀ a, w.H a ≠ none → w.G a = none → w'.G a = none
  bs : w'.bs = w.bs
theorem WLe.refl (w : Wd) : WLe w w := ⟨.refl _, .refl _, .refl _, fun _ _ h => h, fun _ _ h => h, rfl⟩
theorem ex_some {H H' : Hp} (e : Ex H H') {a : Addr} (h : H a ≠ none) : H' a ≠ none := by
  cases q : H a with
  | none => exact absurd q h
  | some o => rw [e a o q]; simp
theorem WLe.trans {w w1 w2 : Wd} (a : WLe w w1) (b : WLe w1 w2) : WLe w w2 :=
  ⟨a.f.trans b.f, a.g.trans b.g, a.h.trans b.h, fun x h q => b.ff x (ex_some a.h h) (a.ff x h q), fun x h q => b.gg x (ex_some a.h h) (a.gg x h q), b.bs.trans a.bs⟩
/-- a new thing that stands for ever -/
def Wd.add (w : Wd) (p : Addr) (o : HO) : Wd := ⟨upd w.F p o, upd w.G p o, upd w.H p o, w.bs⟩
/-- a new own thing -/
def Wd.own (w : Wd) (p : Addr) (o : HO) : Wd := ⟨w.F, w.G, upd w.H p o, w.bs⟩
theorem Wd.add_ok {w : Wd} (k : WOk w) {p : Addr} {o : HO} : WOk (w.add p o) := ⟨k.fg.upd2, k.gh.upd2⟩
theorem Wd.add_le {w : Wd} (k : WOk w) {p : Addr} {o : HO} (n : w.H p = none) : WLe w (w.add p o) := by
  have g := k.gh.free n
  refine ⟨.new (k.fg.free g), .new g, .new n, fun a h q => ?_, fun a h q => ?_, rfl⟩
  · show upd _ _ _ _ = _
    rw [upd_ne (by rintro rfl; exact h n)]; exact q
  · show upd _ _ _ _ = _
    rw [upd_ne (by rintro rfl; exact h n)]; exact q
theorem Wd.own_ok {w : Wd} (k : WOk w) {p : Addr} {o : HO} (n : w.H p = none) : WOk (w.own p o) := ⟨k.fg, k.gh.trans (.new n)⟩
theorem Wd.own_le {w : Wd} {p : Addr} {o : HO} (n : w.H p = none) : WLe w (w.own p o) := ⟨.refl _, .refl _, .new n, fun _ _ h => h, fun _ _ h => h, rfl⟩
/-- own objects may be changed: they are not known to stand, none is told twice -/
structure Own (w : Wd) (A : List Addr) : Prop where
  nd : A.Nodup
  no : ∀ a ∈ A, w.G a = none ∧ ∀ o u, w.H a ≠ some (.frz o u)
/-- own things stand for ever from now on -/
def Wd.frz (w : Wd) (A : List Addr) : Wd := ⟨fun a => if a ∈ A then w.H a else w.F a, fun a => if a ∈ A then w.H a else w.G a, w.H, w.bs⟩
theorem Wd.frz_ok {w : Wd} (k : WOk w) (A : List Addr) : WOk (w.frz A) := by
  refine ⟨fun a o h => ?_, fun a o h => ?_⟩
  · show (if a ∈ A then w.H a else w.G a) = some o
    have h' : (if a ∈ A then w.H a else w.F a) = some o := h
    split at h' <;> rename_i q
    · rw [if_pos q]; exact h'
    · rw [if_neg q]; exact k.fg a o h'
  · have h' : (if a ∈ A then w.H a else w.G a) = some o := h
    split at h' <;> rename_i q
    · exact h'
    · exact k.gh a o h'
theorem Wd.frz_f {w : Wd} (k : WOk w) {A : List Addr} (ow : ∀ a ∈ A, w.G a = none) : Ex w.F (w.frz A).F := fun a o h => by
  show (if a ∈ A then w.H a else w.F a) = some o
  split
  · exact k.fh a o h
  · exact h
theorem Wd.frz_g {w : Wd} (k : WOk w) {A : List Addr} (ow : ∀ a ∈ A, w.G a = none) : Ex w.G (w.frz A).G := fun a o h => by
  show (if a ∈ A then w.H a else w.G a) = some o
  split
  · exact k.gh a o h
  · exact h
theorem Wd.frz_at {w : Wd} {A : List Addr} {a : Addr} (h : a ∈ A) {o : HO} (e : w.H a = some o) : (w.frz A).F a = some o := by
  show (if a ∈ A then w.H a else w.F a) = some o
  rw [if_pos h]; exact e
theorem Wd.frz_no {w : Wd} {A : List Addr} {a : Addr} (h : a ∉ A) (e : w.G a = none) : (w.frz A).G a = none := by
  show (if a ∈ A then w.H a else w.G a) = none
  rw [if_neg h]; exact e
theorem Wd.frz_noF {w : Wd} {A : List Addr} {a : Addr} (h : a ∉ A) (e : w.F a = none) : (w.frz A).F a = none := by
  show (if a ∈ A then w.H a else w.F a) = none
  rw [if_neg h]; exact e
/-- .. freshly made ones, from the place w0 on -/
theorem Wd.frz_le {w0 w : Wd} (l : WLe w0 w) (k : WOk w) {A : List Addr} (ow : ∀ a ∈ A, w.G a = none) (nw : ∀ a ∈ A, w0.H a = none) : WLe w0 (w.frz A) := by
  refine ⟨l.f.trans (Wd.frz_f k ow), l.g.trans (Wd.frz_g k ow), l.h, fun a h q => Wd.frz_noF (fun z => h (nw a z)) (l.ff a h q), fun a h q => Wd.frz_no (fun z => h (nw a z)) (l.gg a h q), l.bs⟩
inductive SV where
  | no | cl (d : D) | lk (m : MO) | ow (m : MO) | bo (i : Nat) (m : MO)
deriving Inhabited
/-- an expression's value: data, a locked object, an own object that is read, a new own object -/
inductive XV where
  | cl (d : D) | lk (m : MO) | tm (m : MO) | nw (m : MO) | al | mu (x : XV) (ms : List MO)
deriving Inhabited
def SvR (K : PySem.W.Frag) (w : Wd) : SV → Option V → List Addr → Prop
  | .no, _, A => A = []
  | .cl d, o, A => ∃ v, o = some v ∧ Rep K w.F d v ∧ A = []
  | .lk m, o, A => ∃ v B, o = some v ∧ ORep K w.F w.G m v B ∧ A = []
  | .ow m, o, A => ∃ v, o = some v ∧ ORep K w.F w.H m v A
  | .bo i m, o, A => ∃ v, o = some v ∧ w.bs[i]? = some v ∧ ORep K w.F w.H m v A
def SlR (K : PySem.W.Frag) (w : Wd) : List SV → L2.St → List Addr → Prop
  | [], σ, A => σ = [] ∧ A = []
  | s :: r, σ, A => ∃ o σ' A1 A2, σ = o :: σ' ∧ SvR K w s o A1 ∧ SlR K w r σ' A2 ∧ A = A1 ++ A2
/-- .. its own objects at B -/
def XR1 (K : PySem.W.Frag) (w : Wd) : XV → V → List Addr → Prop
  | .cl d, v, B => Rep K w.F d v ∧ B = []
  | .lk m, v, B => (∃ A, ORep K w.F w.G m v A) ∧ B = []
  | .tm m, v, B => (∃ A, ORep K w.F w.H m v A) ∧ B = []
  | .nw m, v, B => ORep K w.F w.H m v B
  | .al, v, B => (∃ a, v = .ref a) ∧ B = []
  | .mu _ _, _, _ => False
def XsR1 (K : PySem.W.Frag) (w : Wd) : List XV → List V → List Addr → Prop
  | [], vs, B => vs = [] ∧ B = []
  | x :: xs, vs, B => ∃ v r B1 B2, vs = v :: r ∧ XR1 K w x v B1 ∧ XsR1 K w xs r B2 ∧ B = B1 ++ B2
def XRep (K : PySem.W.Frag) (old : Addr → Prop) (w : Wd) (x : XV) (v : V) : Prop := ∃ B, XR1 K w x v B ∧ Own w B ∧ ∀ a ∈ B, ¬ old a
def XsRep (K : PySem.W.Frag) (old : Addr → Prop) (w : Wd) (xs : List XV) (vs : List V) : Prop := ∃ B, XsR1 K w xs vs B ∧ Own w B ∧ ∀ a ∈ B, ¬ old a
section
variable {K : PySem.W.Frag} {w w' w2 : Wd}
theorem SvR.mono (l : WLe w w') {s : SV} {o : Option V} {A : List Addr} (h : SvR K w s o A) : SvR K w' s o A := by
  cases s with
  | no => exact h
  | cl d => obtain ⟨v, e1, e2, e3⟩ := h; exact ⟨v, e1, e2.mono l.f, e3⟩
  | lk m => obtain ⟨v, B, e1, e2, e3⟩ := h; exact ⟨v, B, e1, e2.mono l.f (fun a _ o q => l.g a o q), e3⟩
  | ow m => obtain ⟨v, e1, e2⟩ := h; exact ⟨v, e1, e2.mono l.f (fun a _ o q => l.h a o q)⟩
  | bo i m => obtain ⟨v, e1, e0, e2⟩ := h; exact ⟨v, e1, by rw [l.bs]; exact e0, e2.mono l.f (fun a _ o q => l.h a o q)⟩
theorem SlR.mono (l : WLe w w') : ∀ {sl : List SV} {σ : L2.St} {A : List Addr}, SlR K w sl σ A → SlR K w' sl σ A
  | [], _, _, h => h
  | _ :: _, _, _, ⟨o, σ', A1, A2, e1, e2, e3, e4⟩ => ⟨o, σ', A1, A2, e1, e2.mono l, SlR.mono l e3, e4⟩
theorem SvR.there {s : SV} {o : Option V} {A : List Addr} (h : SvR K w s o A) : ∀ a ∈ A, w.H a ≠ none := by
  cases s with
  | no => rw [show A = [] from h]; simp
  | cl d => obtain ⟨v, e1, e2, e3⟩ := h; rw [e3]; simp
  | lk m => obtain ⟨v, B, e1, e2, e3⟩ := h; rw [e3]; simp
  | ow m => obtain ⟨v, e1, e2⟩ := h; exact e2.there
  | bo i m => obtain ⟨v, e1, e0, e2⟩ := h; exact e2.there
theorem SlR.there : ∀ {sl : List SV} {σ : L2.St} {A : List Addr}, SlR K w sl σ A → ∀ a ∈ A, w.H a ≠ none
  | [], _, _, ⟨_, e⟩, a, h => by rw [e] at h; simp at h
  | _ :: _, _, _, ⟨o, σ', A1, A2, e1, e2, e3, e4⟩, a, h => by
    rw [e4] at h
    rcases List.mem_append.mp h with q | q
    · exact e2.there a q
    · exact SlR.there e3 a q
theorem Own.mono (l : WLe w w') {A : List Addr} (h : Own w A) (t : ∀ a ∈ A, w.H a ≠ none) : Own w' A :=
  ⟨h.nd, fun a ha => ⟨l.gg a (t a ha) (h.no a ha).1, fun o u q => by
    cases z : w.H a with
    | none => exact t a ha z
    | some o' =>
      have := l.h a o' z
      rw [q] at this
      cases this
      exact (h.no a ha).2 _ _ z⟩⟩
theorem XR1.mono (l : WLe w w') {x : XV} {v : V} {B : List Addr} (h : XR1 K w x v B) : XR1 K w' x v B := by
  cases x with
  | cl d => exact ⟨Rep.mono l.f h.1, h.2⟩
  | lk m => obtain ⟨⟨A, e⟩, q⟩ := h; exact ⟨⟨A, e.mono l.f (fun a _ o q => l.g a o q)⟩, q⟩
  | tm m => obtain ⟨⟨A, e⟩, q⟩ := h; exact ⟨⟨A, e.mono l.f (fun a _ o q => l.h a o q)⟩, q⟩
  | nw m => exact ORep.mono l.f h (fun a _ o q => l.h a o q)
  | al => exact h
  | mu _ _ => exact h.elim
theorem XsR1.mono (l : WLe w w') : ∀ {xs : List XV} {vs : List V} {B : List Addr}, XsR1 K w xs vs B → XsR1 K w' xs vs B
  | [], _, _, h => h
  | _ :: _, _, _, ⟨v, r, B1, B2, e1, e2, e3, e4⟩ => ⟨v, r, B1, B2, e1, e2.mono l, XsR1.mono l e3, e4⟩
theorem XR1.there {x : XV} {v : V} {B : List Addr} (h : XR1 K w x v B) : ∀ a ∈ B, w.H a ≠ none := by
  cases x with
  | nw m => exact ORep.there h
  | mu _ _ => exact h.elim
  | _ => rw [h.2]; simp
theorem XsR1.there : ∀ {xs : List XV} {vs : List V} {B : List Addr}, XsR1 K w xs vs B → ∀ a ∈ B, w.H a ≠ none
  | [], _, _, ⟨_, e⟩, a, h => by rw [e] at h; simp at h
  | _ :: _, _, _, ⟨v, r, B1, B2, e1, e2, e3, e4⟩, a, h => by
    rw [e4] at h
    rcases List.mem_append.mp h with q | q
    · exact e2.there a q
    · exact XsR1.there e3 a q
theorem XRep.mono {old : Addr → Prop} (l : WLe w w') {x : XV} {v : V} (h : XRep K old w x v) : XRep K old w' x v := by
  obtain ⟨B, e1, e2, e3⟩ := h
  exact ⟨B, e1.mono l, e2.mono l e1.there, e3⟩
theorem XRep.weak {old old' : Addr → Prop} {x : XV} {v : V} (h : XRep K old w x v) (i : ∀ a, old' a → old a) : XRep K old' w x v := by
  obtain ⟨B, e1, e2, e3⟩ := h
  exact ⟨B, e1, e2, fun a ha q => e3 a ha (i a q)⟩
theorem XRep.cl {old : Addr → Prop} {d : D} {v : V} (h : Rep K w.F d v) : XRep K old w (.cl d) v := ⟨[], ⟨h, rfl⟩, ⟨List.nodup_nil, fun a h => absurd h (by simp)⟩, fun a h => absurd h (by simp)⟩
theorem XRep.cl_of {old : Addr → Prop} {d : D} {v : V} (h : XRep K old w (.cl d) v) : Rep K w.F d v := by
  obtain ⟨_, e, _, _⟩ := h
  exact e.1
theorem SlR.length : ∀ {sl : List SV} {σ : L2.St} {A : List Addr}, SlR K w sl σ A → σ.length = sl.length
  | [], _, _, ⟨e, _⟩ => by rw [e]; rfl
  | _ :: _, _, _, ⟨o, σ', A1, A2, e1, _, e3, _⟩ => by rw [e1]; simp [SlR.length e3]
/-- a slot -/
theorem SlR.get : ∀ {sl : List SV} {σ : L2.St} {A : List Addr} {i : Nat} {s : SV}, SlR K w sl σ A → sl[i]? = some s → ∃ o B, σ[i]? = some o ∧ SvR K w s o B ∧ ∀ a ∈ B, a ∈ A
  | [], _, _, _, _, _, h => by simp at h
  | _ :: _, _, _, 0, _, ⟨o, σ', A1, A2, e1, e2, e3, e4⟩, h => by
    simp at h; subst h
    exact ⟨o, A1, by rw [e1]; rfl, e2, fun a h => by rw [e4]; exact List.mem_append_left _ h⟩
  | _ :: _, _, _, i + 1, _, ⟨o, σ', A1, A2, e1, e2, e3, e4⟩, h => by
    obtain ⟨o', B, h1, h2, h3⟩ := SlR.get (i := i) e3 (by simpa using h)
    exact ⟨o', B, by rw [e1]; simpa using h1, h2, fun a h => by rw [e4]; exact List.mem_append_right _ (h3 a h)⟩
/-- a slot is overwritten: what it owned is forgotten -/
theorem SlR.set {s' : SV} {o' : Option V} {B : List Addr} (h' : SvR K w s' o' B) : ∀ {sl : List SV} {σ : L2.St} {A : List Addr} (i : Nat), SlR K w sl σ A → A.Nodup → B.Nodup → (∀ a ∈ B, a ∉ A) →
    ∃ A', SlR K w (sl.set i s') (σ.set i o') A' ∧ A'.Nodup ∧ ∀ a ∈ A', a ∈ A ∨ a ∈ B
  | [], _, _, _, ⟨e, e'⟩, _, _, _ => ⟨[], by subst e; exact ⟨rfl, rfl⟩, List.nodup_nil, fun a h => absurd h (by simp)⟩
  | _ :: r, _, _, 0, ⟨o, σ', A1, A2, e1, e2, e3, e4⟩, nA, nB, dj => by
    subst e1 e4
    refine ⟨B ++ A2, ⟨o', σ', B, A2, rfl, h', e3, rfl⟩, ?_, fun a h => ?_⟩
    · rw [List.nodup_append] at nA ⊢
      exact ⟨nB, nA.2.1, fun a ha b hb => by rintro rfl; exact dj a ha (List.mem_append_right _ hb)⟩
    · rcases List.mem_append.mp h with q | q
      · exact .inr q
      · exact .inl (List.mem_append_right _ q)
  | _ :: r, _, _, i + 1, ⟨o, σ', A1, A2, e1, e2, e3, e4⟩, nA, nB, dj => by
    subst e1 e4
    have nA' := List.nodup_append.mp nA
    obtain ⟨A', h1, h2, h3⟩ := SlR.set h' i e3 nA'.2.1 nB (fun a ha hb => dj a ha (List.mem_append_right _ hb))
    refine ⟨A1 ++ A', ⟨o, σ'.set i o', A1, A', rfl, e2, h1, rfl⟩, ?_, fun a h => ?_⟩
    · rw [List.nodup_append]
      refine ⟨nA'.1, h2, fun a ha b hb => ?_⟩
      rintro rfl
      rcases h3 a hb with q | q
      · exact nA'.2.2 a ha a q rfl
      · exact dj a q (List.mem_append_left _ ha)
    · rcases List.mem_append.mp h with q | q
      · exact .inl (List.mem_append_left _ q)
      · rcases h3 a q with z | z
        · exact .inl (List.mem_append_right _ z)
        · exact .inr z
end
end Mo
namespace Mo
open PySem PySem.Spec PyProof.Rows L2
/-! ### what is raised; results -/
structure Exn where
  c : String
  fs : List (String × D) := []
  ms : List MO := []
inductive R (α : Type) where
  | stuck | ok (a : α) | exc (e : Exn)
def R.bind {α β : Type} : R α → (α → R β) → R β
  | .stuck, _ => .stuck
  | .ok a, f => f a
  | .exc e, _ => .exc e
def R.of {α : Type} : Option α → R α
  | some a => .ok a
  | none => .stuck
@[simp] theorem R.bind_ok {α β : Type} (a : α) (f : α → R β) : (R.ok a).bind f = f a := rfl
@[simp] theorem R.bind_stuck {α β : Type} (f : α → R β) : (R.stuck : R α).bind f = .stuck := rfl
@[simp] theorem R.bind_exc {α β : Type} (e : Exn) (f : α → R β) : (R.exc e : R α).bind f = .exc e := rfl
@[simp] theorem R.of_some {α : Type} (a : α) : R.of (some a) = .ok a := rfl
@[simp] theorem R.of_none {α : Type} : R.of (none : Option α) = .stuck := rfl
/-! ### the syntax -/
inductive BOp where | add | sub | mul | fdiv | mod | pow | shr
deriving DecidableEq
inductive COp where | lt | le | gt | ge | eq | ne | in_ | notIn | is_ | isnt
deriving DecidableEq
inductive Blt where | len | max2 | min2 | abs | divmod | int1 | max3 | list1 | sum | any | all | sortI | sortS | str1 | intS | maxL | minL
deriving DecidableEq
/-- methods of texts -/
inductive SM where | join | split | find | isdigit | partition | startswith
deriving DecidableEq
inductive Tg where
  | n (i : Nat) | t (ts : List Tg)
inductive Ty where | int | bool | str | tuple | list | dict
deriving DecidableEq
mutual
inductive E where
  | var (i : Nat) | int (i : Int) | bl (b : Bool) | non | str (s : Str) | gi (x : String) (i : Int) | gs (x : String) (s : Str)
  | bin (o : BOp) (a b : E) | neg (a : E) | cmp (o : COp) (a b : E) | isN (a : E) | notN (a : E) | chn (o o' : COp) (a b c : E)
  | and (a b : E) | or (a b : E) | not (a : E) | ife (c a b : E)
  | tup (es : Es) | lst (es : Es) | sub (a i : E) | call (f : String) (es : Es) | blt (b : Blt) (es : Es) | fz (a : E) | isi (t : Ty) (a : E) | isx (ds cs : List String) (a : E) | comp (elt : E) (t : Tg) (it : It) (cs : Es)
  | fld (c : String) (a : E) (f : String) | mth (c m : String) (o : E) (es : Es) | mk (c : String) (es : Es) | dnew | disp (ps : Eps) | sli (a : E) (lo hi : Eo) | dgt (a k x : E) | dg1 (a k : E) | srt (f : String) (j : Nat) (a : E) | sm0 (m : SM) (o : E) | sm1 (m : SM) (o e : E) | lrng (a b : E)
inductive Es where
  | nil | cons (e : E) (es : Es)
inductive Eps where
  | nil | cons (k v : E) (r : Eps)
inductive Eo where
  | no | so (e : E)
inductive It where
  | exp (e : E) | rng1 (a : E) | rng2 (a b : E) | rng3 (a b c : E) | enum (e : E) | zip (a b : E)
end
/-- places: a slot, a field, a part -/
inductive Pl where
  | v (i : Nat) | f (p : Pl) (c : String) (f : String) | x (p : Pl) (k : E)
/-- an argument: a value, or a place that is changed -/
inductive Ar where
  | e (e : E) | p (p : Pl)
/-- what changes places and has a value -/
inductive Mx where
  | mth (c m : String) (o : Pl) (es : Es) | mcl (f : String) (as : List Ar) | pop (q : Pl) (e : E) | pop0 (q : Pl)
/-- what becomes of such a value -/
inductive Ds where
  | drop | asg (i : Nat) | ret
mutual
inductive S where
  | asg (i : Nat) (e : E) | unp (t : Tg) (e : E) | par (i j : Nat) (a b : E)
  | ifs (c : E) (a b : Ss) | whl (c : E) (b : Ss) | for_ (t : Tg) (it : It) (b : Ss)
  | ret (e : E) | retn | mv (i : Nat) | brk | cnt | pas | rse (x : String) | frz (i : Nat) | tryk (ds : List String) (cl : String) (i j : Nat) (b : Ss) | tryx (ds : List String) (cl : String) (i : Nat) (b h : Ss)
  | papp (p : Pl) (e : E) | pst (p : Pl) (k e : E) | pfs (p : Pl) (c f : String) (e : E) | pins (p : Pl) (a e : E) | prev (p : Pl)
  | apop (i j : Nat) (e : E) | mx (d : Ds) (m : Mx)
  | fork (t : Tg) (e : E) (b : Ss) | forit (t : Tg) (e : E) (b : Ss) | lck (i : Nat) (s : S) | ex (e : E)
inductive Ss where
  | nil | cons (s : S) (ss : Ss)
end
/-! ### data -/
/-- the scalars -/
def D.sc : D → Option V
  | .non => some .non
  | .bl b => some (.bl b)
  | .int i => some (.int i)
  | .str s => some (.str s)
  | _ => none
mutual
def D.py : D → Option PyData
  | .non => some .none
  | .bl b => some (.bool b)
  | .int i => some (.int i)
  | .str s => some (.str s)
  | .tup xs => (D.pyL xs).map .tuple
  | .lst xs => (D.pyL xs).map .list
  | .dct _ _ => none
  | .ins _ _ _ => none
  | .exn _ => none
def D.pyL : List D → Option (List PyData)
  | [] => some []
  | d :: ds => match d.py, D.pyL ds with
    | some p, some ps => some (p :: ps)
    | _, _ => none
end
/-- equal keys -/
def eqK : D → D → Bool
  | .int i, .int j => decide (i = j)
  | .str s, .str t => decide (s = t)
  | _, _ => false
/-- may be a key -/
def isK : D → Bool
  | .int _ => true
  | .str _ => true
  | _ => false
/-- a key's place -/
def dfind (ks : List D) (k : D) : Option Nat := ks.findIdx? (eqK · k)
/-- a == b, of data -/
def eqD (a b : D) : Option Bool := match a.py, b.py with
  | some p, some q => if PySem.SeqAt.shaped p = true ∧ PySem.SeqAt.shaped q = true then some (PyData.eqv p q) else none
  | _, _ => none
def scL : List D → Option (List V)
  | [] => some []
  | d :: ds => match d.sc, scL ds with
    | some v, some vs => some (v :: vs)
    | _, _ => none
/-- a text within a text -/
def inS (s t : Str) : Bool := !(Builtin.Str.occurrences t s 0 t.length 1).isEmpty
def inD (a : D) (ds : List D) : Option Bool := match a.sc, scL ds with
  | some v, some vs => some (inV v vs)
  | _, _ => none
/-- what is read as a row -/
def D.seq : D → Option (List D)
  | .tup ds => some ds
  | .lst ds => some ds
  | _ => none
def mulOk (i j : Int) : Bool := decide (i.natAbs.log2 + j.natAbs.log2 < 1000000)
def bopI : BOp → Int → Int → Option D
  | .add, i, j => some (.int (i + j))
  | .sub, i, j => some (.int (i - j))
  | .mul, i, j => if i.natAbs.log2 + j.natAbs.log2 < 1000000 then some (.int (i * j)) else none
  | .fdiv, i, j => if 0 < j ∧ j.natAbs.log2 < 9000 then some (.int (i / j)) else none
  | .mod, i, j => if 0 < j then some (.int (i % j)) else none
  | .pow, i, j => if 0 ≤ j ∧ j ≤ 1000000 ∧ i.natAbs < 2 ^ 64 then some (.int (i ^ j.toNat)) else none
  | .shr, i, j => if 0 ≤ j then some (.int (i / 2 ^ j.toNat)) else none
/-- a text so many times -/
def repS (s : Str) (n : Nat) : Str := ⟨(List.replicate n s.cps.toList).flatten.toArray⟩
def bop (o : BOp) : D → D → Option XV
  | .int i, .int j => (bopI o i j).map .cl
  | .str s, .str t => if o = .add ∧ s.length + t.length ≤ sizeLine then some (.cl (.str (s ++ t))) else none
  | .str s, .int n => if o = .mul ∧ (2 ≤ n ∧ n ≤ 1000 ∧ s.length ≠ 0 ∧ s.length ≤ 1000) then some (.cl (.str (repS s n.toNat))) else none
  | _, _ => none
def copI : COp → Int → Int → Option Bool
  | .lt, i, j => some (decide (i < j))
  | .le, i, j => some (decide (i ≤ j))
  | .gt, i, j => some (decide (j < i))
  | .ge, i, j => some (decide (j ≤ i))
  | _, _, _ => none
def cop (o : COp) (a b : D) : Option Bool := match o with
  | .eq => eqD a b
  | .ne => (eqD a b).map (!·)
  | .in_ => match b with
    | .lst ds => inD a ds
    | .tup ds => inD a ds
    | .dct ks _ => if isK a then some (dfind ks a).isSome else none
    | .str t => match a with
      | .str s => some (inS s t)
      | _ => none
    | _ => none
  | .notIn => match b with
    | .lst ds => (inD a ds).map (!·)
    | .tup ds => (inD a ds).map (!·)
    | .dct ks _ => if isK a then some (dfind ks a).isNone else none
    | .str t => match a with
      | .str s => some (!inS s t)
      | _ => none
    | _ => none
  | .is_ => match a, b with
    | .bl x, .bl y => some (decide (x = y))
    | _, _ => none
  | .isnt => match a, b with
    | .bl x, .bl y => some (!decide (x = y))
    | _, _ => none
  | o => match a, b with
    | .int i, .int j => copI o i j
    | _, _ => none
/-! ### values -/
def XV.d : XV → Option D
  | .cl d => some d
  | .lk m => some m.toD
  | .tm m => some m.toD
  | _ => none
def XV.sub (x : XV) (m : MO) : XV := match m with
  | .cl d => .cl d
  | m => match x with
    | .lk _ => .lk m
    | _ => .tm m
def XV.mo : XV → Option MO
  | .cl d => some (.cl d)
  | .lk m => some m
  | .tm m => some m
  | _ => none
/-- a dict's keys and values -/
def MO.dic : MO → Option (List D × List MO)
  | .cl (.dct ks ds) => some (ks, ds.map .cl)
  | .dct ks ms => some (ks, ms)
  | _ => none
/-- an instance's attributes -/
def MO.inst : MO → Option (Str × List Str × List MO)
  | .cl (.ins c ns ds) => some (c, ns, ds.map .cl)
  | .ins c ns ms => some (c, ns, ms)
  | _ => none
def MO.islst : MO → Option (List MO)
  | .cl (.lst ds) => some (ds.map .cl)
  | .lst ms => some ms
  | _ => none
/-- a row's items -/
def MO.kids : MO → Option (List MO)
  | .cl (.tup ds) => some (ds.map .cl)
  | .cl (.lst ds) => some (ds.map .cl)
  | .tup ms => some ms
  | .lst ms => some ms
  | _ => none
/-- a sign of a text -/
def sgn (c : Nat) : Str := ⟨#[c]⟩
def dget (ks : List D) (ms : List MO) (k : D) : Option MO := (dfind ks k).bind fun j => ms[j]?
def idx (x i : XV) : Option XV := match x.mo, i with
  | some m, .cl k => match m.dic with
    | some (ks, ms) => if isK k then (dget ks ms k).map x.sub else none
    | none => match k with
      | .int n => match m.kids with
        | some ms => (atI ms n).map x.sub
        | none => match m with
          | .cl (.str s) => if s.length ≤ sizeLine then (atI s.cps.toList n).map fun c => .cl (.str (sgn c)) else none
          | _ => none
      | _ => none
  | _, _ => none
def XV.isD (x : XV) : Bool := match x.mo with
  | some m => m.dic.isSome
  | none => false
/-- d.get(k, y) -/
def dgtF (x k y : XV) : Option XV := match x.mo, k, y with
  | some m, .cl k, .cl d => match m.dic with
    | some (ks, ms) => if isK k then (match dget ks ms k with
      | some m' => some (x.sub m')
      | none => some (.cl d)) else none
    | none => none
  | some m, .cl k, .nw m0 => match m.dic with
    | some (ks, ms) => if isK k then (match dget ks ms k with
      | some m' => some (x.sub m')
      | none => some (.tm m0)) else none
    | none => none
  | _, _, _ => none
/-- an attribute -/
def fldF (c : String) (f : Str) (x : XV) : Option XV := x.mo.bind fun m => match m.inst with
  | some (c', ns, ms) => if Str.ofString c = c' then (ns.findIdx? (fun g => decide (g = f))).bind fun j => (ms[j]?).map x.sub else none
  | none => none
/-- an instance without a field of the name -/
def isIns (c : String) (m : Str) (x : XV) : Bool := match x.mo with
  | some o => match o.inst with
    | some (c', ns, _) => decide (Str.ofString c = c') && !(ns.any fun g => decide (g = m))
    | none => false
  | none => false
/-- a slice -/
def cutL {α : Type} (xs : List α) (lo hi : Option Int) : List α := (xs.drop (HT.sIx xs.length 0 lo)).take (HT.sIx xs.length xs.length hi - HT.sIx xs.length 0 lo)
def clM : List MO → Option (List D)
  | [] => some []
  | .cl d :: ms => (clM ms).map (d :: ·)
  | _ :: _ => none
def bnd : XV → Option (Option Int)
  | .cl (.int i) => some (some i)
  | _ => none
def sliF (x : XV) (l h : Option Int) : Option XV := match x.mo with
  | some m => match m with
    | .cl (.str s) => if s.length ≤ sizeLine then some (.cl (.str ⟨(cutL s.cps.toList l h).toArray⟩)) else none
    | .cl (.tup ds) => some (.cl (.tup (cutL ds l h)))
    | m => match m.islst with
      | some ms => (clM ms).map fun ds => .nw (.lst ((cutL ds l h).map .cl))
      | none => none
  | none => none
def smallB (i : Int) : Bool := decide (-(2 ^ 62) ≤ i) && decide (i < 2 ^ 62)
def lenX (x : XV) : Option Int := match x.mo with
  | some m => match m.kids with
    | some ms => some ms.length
    | none => match m.dic with
      | some (_, ms) => some ms.length
      | none => match m with
        | .cl (.str s) => if s.length ≤ sizeLine then some s.length else none
        | _ => none
  | none => none
def lenB : List XV → Option XV
  | [x] => (lenX x).map fun n => .cl (.int n)
  | _ => none
def max2B : List XV → Option XV
  | [.cl (.int i), .cl (.int j)] => some (.cl (.int (if j > i then j else i)))
  | _ => none
def min2B : List XV → Option XV
  | [.cl (.int i), .cl (.int j)] => some (.cl (.int (if j < i then j else i)))
  | _ => none
def absB : List XV → Option XV
  | [.cl (.int i)] => some (.cl (.int (if i < 0 then -i else i)))
  | _ => none
def divmodB : List XV → Option XV
  | [.cl (.int i), .cl (.int j)] => if 0 < j ∧ j.natAbs.log2 < 9000 then some (.cl (.tup [.int (i / j), .int (i % j)])) else none
  | _ => none
def int1B : List XV → Option XV
  | [.cl (.int i)] => some (.cl (.int i))
  | [.cl (.bl k)] => some (.cl (.int (if k then 1 else 0)))
  | _ => none
def maxI (i j : Int) : Int := if i < j then j else i
def max3B : List XV → Option XV
  | [.cl (.int i), .cl (.int j), .cl (.int k)] => some (.cl (.int (maxI (maxI i j) k)))
  | _ => none
def listB : List XV → Option XV
  | [x] => x.mo.bind fun m => match m.kids with
    | some ms => (clM ms).map fun ds => .nw (.lst (ds.map .cl))
    | none => match m.dic with
      | some (ks, _) => some (.nw (.lst (ks.map .cl)))
      | none => none
  | _ => none
/-- whole numbers -/
def intsD : List D → Option (List Int)
  | [] => some []
  | .int i :: ds => (intsD ds).map (i :: ·)
  | _ :: _ => none
def strsD : List D → Option (List Str)
  | [] => some []
  | .str s :: ds => (strsD ds).map (s :: ·)
  | _ :: _ => none
def blsD : List D → Option (List Bool)
  | [] => some []
  | .bl b :: ds => (blsD ds).map (b :: ·)
  | _ :: _ => none
/-- a list's items, all data -/
def XV.lds (x : XV) : Option (List D) := (x.mo.bind MO.islst).bind clM
/-- what comes of a new list that is read at once -/
def XV.rd (x : XV) : XV := match x with
  | .nw m => .tm m
  | x => x
def sumB : List XV → Option XV
  | [x] => (x.rd.lds.bind intsD).map fun ns => .cl (.int ns.sum)
  | _ => none
def anyB : List XV → Option XV
  | [x] => (x.rd.lds.bind blsD).map fun bs => .cl (.bl (bs.any id))
  | _ => none
def allB : List XV → Option XV
  | [x] => (x.rd.lds.bind blsD).map fun bs => .cl (.bl (bs.all id))
  | _ => none
def maxL : List Int → Int
  | [] => 0
  | i :: is => is.foldl (fun a b => if a < b then b else a) i
def minL : List Int → Int
  | [] => 0
  | i :: is => is.foldl (fun a b => if b < a then b else a) i
def maxLB : List XV → Option XV
  | [x] => (x.rd.lds.bind intsD).bind fun ns => if ns.isEmpty then none else some (.cl (.int (maxL ns)))
  | _ => none
def minLB : List XV → Option XV
  | [x] => (x.rd.lds.bind intsD).bind fun ns => if ns.isEmpty then none else some (.cl (.int (minL ns)))
  | _ => none
/-- sorted whole numbers -/
def sortI (ns : List Int) : List Int := ns.mergeSort (fun a b => decide (a ≤ b))
def leS (a b : Str) : Bool := !decide (b.cps.toList < a.cps.toList)
def sortS (ss : List Str) : List Str := ss.mergeSort leS
/-- what sorted walks: a list's items, a dict's keys (not too many) -/
def XV.its (x : XV) : Option (List D) := match x.rd.lds with
  | some ds => some ds
  | none => (x.rd.mo.bind MO.dic).bind fun p => if p.1.length < 64 then some p.1 else none
def sortIB : List XV → Option XV
  | [x] => (x.its.bind intsD).map fun ns => .nw (.lst (((sortI ns).map D.int).map .cl))
  | _ => none
def sortSB : List XV → Option XV
  | [x] => (x.its.bind strsD).bind fun ss => if ss.length < 64 then some (.nw (.lst (((sortS ss).map D.str).map .cl))) else none
  | _ => none
def str1B : List XV → Option XV
  | [.cl (.int i)] => if i.natAbs.log2 < 1920 then some (.cl (.str (toString i))) else none
  | _ => none
def intSB : List XV → Option XV
  | [.cl (.str s)] => if s.length ≤ 640 then (PySem.intText? s).map fun n => .cl (.int n) else none
  | _ => none
def blt : Blt → List XV → Option XV
  | .sum, xs => sumB xs
  | .any, xs => anyB xs
  | .all, xs => allB xs
  | .sortI, xs => sortIB xs
  | .sortS, xs => sortSB xs
  | .str1, xs => str1B xs
  | .intS, xs => intSB xs
  | .maxL, xs => maxLB xs
  | .minL, xs => minLB xs
  | .list1, xs => listB xs
  | .divmod, xs => divmodB xs
  | .int1, xs => int1B xs
  | .max3, xs => max3B xs
  | .len, xs => lenB xs
  | .max2, xs => max2B xs
  | .min2, xs => min2B xs
  | .abs, xs => absB xs
/-- an argument of a def -/
def XV.arg : XV → Option SV
  | .cl d => some (.cl d)
  | .lk m => some (.lk m)
  | .tm m => some (.lk m)
  | _ => none
/-- .. of a call that changes places -/
def XV.argS : XV → Option SV
  | .cl d => some (.cl d)
  | .lk m => some (.lk m)
  | _ => none
def argsSL : List XV → Option (List SV)
  | [] => some []
  | x :: xs => match x.argS, argsSL xs with
    | some s, some r => some (s :: r)
    | _, _ => none
def argsOf : List XV → Option (List SV)
  | [] => some []
  | x :: xs => match x.arg, argsOf xs with
    | some s, some r => some (s :: r)
    | _, _ => none
def SV.x : SV → Option XV
  | .no => none
  | .cl d => some (.cl d)
  | .lk m => some (.lk m)
  | .ow m => some (.tm m)
  | .bo _ m => some (.tm m)
def clL : List XV → Option (List D)
  | [] => some []
  | .cl d :: xs => (clL xs).map (d :: ·)
  | _ :: _ => none
/-- items of a new list -/
def moL : List XV → Option (List MO)
  | [] => some []
  | .cl d :: xs => (moL xs).map (.cl d :: ·)
  | .nw m :: xs => (moL xs).map (m :: ·)
  | _ :: _ => none
def XV.b : XV → Option Bool
  | .cl (.bl b) => some b
  | _ => none
/-- list + list -/
def catF (o : BOp) (x y : XV) : R XV := match x.rd.lds, y.rd.lds with
  | some ds, some es => if o = .add ∧ ds.length + es.length ≤ sizeLine then .ok (.nw (.lst ((ds ++ es).map .cl))) else .stuck
  | _, _ => .stuck
/-- a new list so many times -/
def repL (o : BOp) (ms : List MO) (n : Int) : R XV := match clM ms with
  | some ds => if o = .mul ∧ (0 ≤ n ∧ n ≤ 1000 ∧ ds.length ≤ 1000) then .ok (.nw (.lst ((List.replicate n.toNat ds).flatten.map .cl))) else .stuck
  | none => .stuck
def bopF (o : BOp) (x y : XV) : R XV := match x, y with
  | .cl (.int i), .cl (.int j) => R.of (bop o (.int i) (.int j))
  | .cl (.str s), .cl (.str t) => R.of (bop o (.str s) (.str t))
  | .cl (.str s), .cl (.int n) => R.of (bop o (.str s) (.int n))
  | .nw (.lst ms), .cl (.int n) => repL o ms n
  | x, y => catF o x y
def negF (x : XV) : R XV := match x with
  | .cl (.int i) => .ok (.cl (.int (-i)))
  | _ => .stuck
def cmpF (o : COp) (x y : XV) : R XV := match x.d, y.d with
  | some d, some e => (R.of (cop o d e)).bind fun k => .ok (.cl (.bl k))
  | _, _ => .stuck
def isNF (x : XV) : Option Bool := match x with
  | .al => some false
  | .nw (.cl _) => none
  | .nw _ => some false
  | x => match x.d with
    | some .non => some true
    | some _ => some false
    | none => none
/-- the second of and, or -/
def boolF (y : XV) : R XV := match y.b with
  | some k => .ok (.cl (.bl k))
  | none => .stuck
def chnF (o' : COp) (y z : XV) (r : R XV) : R XV := match z.b with
  | some true => r.bind fun z' => cmpF o' y z'
  | some false => .ok (.cl (.bl false))
  | none => .stuck
def andF (x : XV) (r : R XV) : R XV := match x.b with
  | some true => r.bind boolF
  | some false => .ok (.cl (.bl false))
  | none => .stuck
def orF (x : XV) (r : R XV) : R XV := match x.b with
  | some false => r.bind boolF
  | some true => .ok (.cl (.bl true))
  | none => .stuck
def notF (x : XV) : R XV := match x.b with
  | some k => .ok (.cl (.bl (!k)))
  | none => .stuck
def fzF (x : XV) : R XV := match x with
  | .nw m => .ok (.cl m.toD)
  | .cl d => .ok (.cl d)
  | _ => .stuck
def tupF (xs : List XV) : R XV := if xs.length ≤ 1000 then (match clL xs with
  | some ds => .ok (.cl (.tup ds))
  | none => match moL xs with
    | some ms => .ok (.nw (.tup ms))
    | none => .stuck) else .stuck
def lstF (xs : List XV) : R XV := if xs.length ≤ 1000 then (match moL xs with
  | some ms => .ok (.nw (.lst ms))
  | none => .stuck) else .stuck
abbrev Sl := List SV
abbrev Calls := String → List SV → R XV
mutual
def tgo : Tg → D → Sl → Option Sl
  | .n i, d, sl => some (sl.set i (.cl d))
  | .t ts, .tup ds, sl => tgoL ts ds sl
  | .t _, _, _ => none
def tgoL : List Tg → List D → Sl → Option Sl
  | [], [], sl => some sl
  | t :: ts, d :: ds, sl => match tgo t d sl with
    | some sl' => tgoL ts ds sl'
    | none => none
  | _, _, _ => none
end
/-- a part of a value -/
def XV.kid (x : XV) (m : MO) : XV := match x, m with
  | .nw _, .cl d => .cl d
  | .nw _, m => .nw m
  | x, m => x.sub m
/-- a value is put into a slot -/
def XV.keep : XV → Option SV
  | .cl d => some (.cl d)
  | .lk m => some (.lk m)
  | .nw m => some (.ow m)
  | _ => none
def XV.tup (x : XV) : Option (List XV) := match x with
  | .cl (.tup ds) => some (ds.map .cl)
  | .lk (.tup ms) => some (ms.map (XV.lk (.tup ms)).sub)
  | .nw (.tup ms) => some (ms.map (XV.nw (.tup ms)).kid)
  | _ => none
mutual
def tgx : Tg → XV → Sl → Option Sl
  | .n i, x, sl => x.keep.map fun s => sl.set i s
  | .t ts, x, sl => x.tup.bind fun xs => tgxL ts xs sl
def tgxL : List Tg → List XV → Sl → Option Sl
  | [], [], sl => some sl
  | t :: ts, x :: xs, sl => (tgx t x sl).bind fun sl' => tgxL ts xs sl'
  | _, _, _ => none
end
/-- a value's truth, of True and False alone -/
def tst (r : R XV) : R Bool := r.bind fun x => R.of x.b
def rangeD (lo : Int) (n : Nat) : List D := (List.range n).map fun (i : Nat) => D.int (lo + (i : Int))
def smallR (i : Int) : Prop := -(2 ^ 62) ≤ i ∧ i < 2 ^ 62
instance (i : Int) : Decidable (smallR i) := by unfold smallR; exact inferInstance
/-- what is walked: data, or values -/
inductive Its where
  | ds (l : List D) | xs (l : List XV)
def chars (s : Str) : List D := s.cps.toList.map fun c => .str (sgn c)
def itF (x : XV) : R Its := match x with
  | .cl (.lst ds) => .ok (.ds ds)
  | .cl (.tup ds) => .ok (.ds ds)
  | .cl (.str s) => if s.length ≤ sizeLine then .ok (.ds (chars s)) else .stuck
  | .lk (.lst ms) => match clM ms with
    | some ds => .ok (.ds ds)
    | none => .ok (.xs (ms.map (XV.lk (.lst ms)).sub))
  | _ => .stuck
def pairsD (i : Nat) : List D → List D
  | [] => []
  | d :: ds => .tup [.int (i : Nat), d] :: pairsD (i + 1) ds
def enumF (x : XV) : R Its := match x with
  | .cl (.lst ds) => .ok (.ds (pairsD 0 ds))
  | .lk (.lst ms) => match clM ms with
    | some ds => .ok (.ds (pairsD 0 ds))
    | none => .stuck
  | _ => .stuck
def zipD : List D → List D → List D
  | a :: as, b :: bs => .tup [a, b] :: zipD as bs
  | _, _ => []
def XV.fls (x : XV) : Option (List D) := match x with
  | .cl (.lst ds) => some ds
  | .lk (.lst ms) => clM ms
  | _ => none
def zipF (x y : XV) : R Its := match x.fls, y.fls with
  | some ds, some es => if ds.length = es.length then .ok (.ds (zipD ds es)) else .stuck
  | _, _ => .stuck
def rng1F (x : XV) : R Its := match x with
  | .cl (.int j) => .ok (.ds (rangeD 0 j.toNat))
  | _ => .stuck
def rng2F (x y : XV) : R Its := match x, y with
  | .cl (.int i), .cl (.int j) => .ok (.ds (rangeD i (j - i).toNat))
  | _, _ => .stuck
/-- how many turns range(i, j, c) has -/
def cntR (i j c : Int) : Nat := if i < j then ((j - i - 1) / c + 1).toNat else 0
def rangeC (lo c : Int) (n : Nat) : List D := (List.range n).map fun (i : Nat) => D.int (lo + (i : Int) * c)
def rng3F (x y z : XV) : R Its := match x, y, z with
  | .cl (.int i), .cl (.int j), .cl (.int c) => if 0 < c ∧ c.natAbs.log2 < 9000 then .ok (.ds (rangeC i c (cntR i j c))) else .stuck
  | _, _, _ => .stuck
mutual
/-- a target's slots -/
def Tg.slots : Tg → List Nat
  | .n i => [i]
  | .t ts => Tg.slotsL ts
def Tg.slotsL : List Tg → List Nat
  | [] => []
  | x :: r => x.slots ++ Tg.slotsL r
end
/-- the slots forgotten -/
def wipeS (sl : Sl) : List Nat → Sl
  | [] => sl
  | v :: vs => (wipeS sl vs).set v .no
/-- no error comes out -/
def nox {α : Type} (r : R α) : R α := match r with
  | .exc _ => .stuck
  | r => r
def XV.item : XV → Option MO
  | .cl d => some (.cl d)
  | .nw m => some m
  | _ => none
/-- a comprehension's items -/
def compL (g : D → Sl → Option Sl) (cnd : Sl → R Bool) (elt : Sl → R XV) (sl : Sl) : List D → R (List MO)
  | [] => .ok []
  | d :: ds => match g d sl with
    | none => .stuck
    | some s1 => (nox (cnd s1)).bind fun q => if q then (nox (elt s1)).bind fun x => (R.of x.item).bind fun m => (compL g cnd elt sl ds).bind fun r => .ok (m :: r) else compL g cnd elt sl ds
def compF (g : D → Sl → Option Sl) (cnd : Sl → R Bool) (elt : Sl → R XV) (sl : Sl) (ds : List D) : R XV := if ds.length < sizeLine then (compL g cnd elt sl ds).bind fun ms => .ok (.nw (.lst ms)) else .stuck
def compX (g : XV → Sl → Option Sl) (cnd : Sl → R Bool) (elt : Sl → R XV) (sl : Sl) : List XV → R (List MO)
  | [] => .ok []
  | d :: ds => match g d sl with
    | none => .stuck
    | some s1 => (nox (cnd s1)).bind fun q => if q then (nox (elt s1)).bind fun x => (R.of x.item).bind fun m => (compX g cnd elt sl ds).bind fun r => .ok (m :: r) else compX g cnd elt sl ds
def compI (t : Tg) (cnd : Sl → R Bool) (elt : Sl → R XV) (sl : Sl) : Its → R XV
  | .ds ds => compF (tgo t) cnd elt sl ds
  | .xs xs => if xs.length < sizeLine then (compX (tgx t) cnd elt sl xs).bind fun ms => .ok (.nw (.lst ms)) else .stuck
def Ty.nm : Ty → String
  | .int => "int" | .bool => "bool" | .str => "str" | .tuple => "tuple" | .list => "list" | .dict => "dict"
/-- a datum's type -/
def D.ty : D → Option String
  | .non => some "NoneType" | .bl _ => some "bool" | .int _ => some "int" | .str _ => some "str" | .tup _ => some "tuple" | .lst _ => some "list" | .dct _ _ => some "dict" | .ins _ _ _ => none | .exn _ => none
def isTy (a : String) (t : Ty) : Bool := a == t.nm || (a == "bool" && t.nm == "int")
def isiF (t : Ty) (x : XV) : R XV := match x.d with
  | some d => match d.ty with
    | some a => .ok (.cl (.bl (isTy a t)))
    | none => .stuck
  | none => .stuck
/-- the error classes: each its own, a RelayError, a ValueError -/
def exnIs (d c : String) : Bool := d == c || (c == "RelayError" || c == "ValueError")
def isxF (ds cs : List String) (x : XV) : R XV := match x.d with
  | some (.exn d) => if ds.contains d then .ok (.cl (.bl (cs.any (exnIs d)))) else .stuck
  | _ => .stuck
/-- a dict with a key put -/
def dput (ks : List D) (ms : List MO) (k : D) (m : MO) : List D × List MO := match dfind ks k with
  | some j => (ks, ms.set j m)
  | none => (ks ++ [k], ms ++ [m])
/-- unlike keys -/
def distK : List D → Bool
  | [] => true
  | k :: ks => isK k && !(ks.any (eqK k)) && distK ks
def dispF (xs ys : List XV) : R XV := match clL xs, moL ys with
  | some ks, some ms => if ks.length ≤ 15 ∧ ks.length ≠ 0 ∧ distK ks = true then .ok (.nw (.dct ks ms)) else .stuck
  | _, _ => .stuck
/-- sorted by the whole number at place j of each tuple, in turn -/
def keyJ (j : Nat) : D → Option Int
  | .tup es => match es[j]? with
    | some (.int k) => some k
    | _ => none
  | _ => none
def keyN (j : Nat) (d : D) : Int := (keyJ j d).getD 0
def sortKD (j : Nat) (ds : List D) : List D := ds.mergeSort (fun a b => decide (keyN j a ≤ keyN j b))
def srtF (j : Nat) (x : XV) : R XV := match x.rd.lds with
  | some ds => if ds.length ≤ 100000 ∧ ds.all (fun d => (keyJ j d).isSome) = true then .ok (.nw (.lst ((sortKD j ds).map .cl))) else .stuck
  | none => .stuck
def sm0F (m : SM) (x : XV) : R XV := match m, x with
  | .isdigit, .cl (.str s) => .ok (.cl (.bl (Txt.isdigit s)))
  | _, _ => .stuck
def XV.isS (x : XV) : Bool := match x with
  | .cl (.str _) => true
  | _ => false
def sm1F (m : SM) (x y : XV) : R XV := match m, x with
  | .join, .cl (.str s) => match y.rd.lds.bind strsD with
    | some ss => if (ss.map (·.length)).sum + ss.length * s.length ≤ 16777216 then .ok (.cl (.str (Txt.join s ss))) else .stuck
    | none => .stuck
  | .split, .cl (.str s) => match y with
    | .cl (.str t) => if (t.length == 0) = false ∧ s.length + 2 ≤ sizeLine then .ok (.nw (.lst (((Txt.split s t).map D.str).map .cl))) else .stuck
    | _ => .stuck
  | .find, .cl (.str s) => match y with
    | .cl (.str t) => .ok (.cl (.int (Txt.find s t)))
    | _ => .stuck
  | _, _ => .stuck
/-- a call that changes nothing -/
def noMu (r : R XV) : R XV := match r with
  | .ok (.mu _ _) => .stuck
  | .exc e => if e.ms.isEmpty then .exc e else .stuck
  | r => r
@[simp] theorem noMu_cl (d : D) : noMu (.ok (.cl d)) = .ok (.cl d) := rfl
@[simp] theorem noMu_nw (m : MO) : noMu (.ok (.nw m)) = .ok (.nw m) := rfl
@[simp] theorem noMu_exc (x : String) (fs : List (String × D)) : noMu (.exc ⟨x, fs, []⟩) = .exc ⟨x, fs, []⟩ := rfl
def lrngF (x y : XV) : R XV := match x, y with
  | .cl (.int i), .cl (.int j) => if (j - i).toNat ≤ 1000000 then .ok (.nw (.lst ((rangeD i (j - i).toNat).map .cl))) else .stuck
  | _, _ => .stuck
/-- a new instance -/
def mkF (r : R XV) : R XV := match r with
  | .ok (.mu (.cl .non) [m]) => .ok (.nw m)
  | .exc e => .exc { e with ms := [] }
  | _ => .stuck
mutual
def evE (c : Calls) : E → Sl → R XV
  | .var i, sl => match sl[i]? with
    | some s => R.of s.x
    | none => .stuck
  | .int i, _ => .ok (.cl (.int i))
  | .bl b, _ => .ok (.cl (.bl b))
  | .non, _ => .ok (.cl .non)
  | .str s, _ => .ok (.cl (.str s))
  | .gi _ i, _ => .ok (.cl (.int i))
  | .gs _ s, _ => .ok (.cl (.str s))
  | .bin o a b, sl => (evE c a sl).bind fun x => (evE c b sl).bind fun y => bopF o x y
  | .neg a, sl => (evE c a sl).bind negF
  | .cmp o a b, sl => (evE c a sl).bind fun x => (evE c b sl).bind fun y => cmpF o x y
  | .isN a, sl => (evE c a sl).bind fun x => R.of ((isNF x).map fun q => .cl (.bl q))
  | .notN a, sl => (evE c a sl).bind fun x => R.of ((isNF x).map fun q => .cl (.bl (!q)))
  | .chn o o' a b e, sl => (evE c a sl).bind fun x => (evE c b sl).bind fun y => (cmpF o x y).bind fun z => chnF o' y z (evE c e sl)
  | .and a b, sl => (evE c a sl).bind fun x => andF x (evE c b sl)
  | .or a b, sl => (evE c a sl).bind fun x => orF x (evE c b sl)
  | .not a, sl => (evE c a sl).bind notF
  | .ife t a b, sl => (evE c t sl).bind fun x => match x.b with
    | some true => evE c a sl
    | some false => evE c b sl
    | none => .stuck
  | .tup es, sl => (evEs c es sl).bind tupF
  | .lst es, sl => (evEs c es sl).bind lstF
  | .sub a i, sl => (evE c a sl).bind fun x => (evE c i sl).bind fun y => R.of (idx x y)
  | .call f es, sl => (evEs c es sl).bind fun xs => match argsOf xs with
    | some ss => noMu (c f ss)
    | none => .stuck
  | .blt b es, sl => (evEs c es sl).bind fun xs => R.of (blt b xs)
  | .fz a, sl => (evE c a sl).bind fzF
  | .isi t a, sl => (evE c a sl).bind (isiF t)
  | .isx ds cs a, sl => (evE c a sl).bind (isxF ds cs)
  | .comp elt t it cs, sl => (evIt c it sl).bind (compI t (evCnd c cs) (evE c elt) (wipeS sl t.slots))
  | .fld cl a f, sl => (evE c a sl).bind fun x => R.of (fldF cl (Str.ofString f) x)
  | .mth cl m o es, sl => (evE c o sl).bind fun x => if isIns cl (Str.ofString m) x then (evEs c es sl).bind fun xs => (match argsOf (x :: xs) with
    | some ss => noMu (c (cl ++ "." ++ m) ss)
    | none => .stuck) else .stuck
  | .mk cl es, sl => (evEs c es sl).bind fun xs => match argsOf xs with
    | some ss => mkF (c (cl ++ ".__init__") (.bo 0 (.ins (Str.ofString cl) [] []) :: ss))
    | none => .stuck
  | .dnew, _ => .ok (.nw (.dct [] []))
  | .disp ps, sl => (evPs c ps sl).bind fun p => dispF p.1 p.2
  | .sli a lo hi, sl => (evE c a sl).bind fun x => (evO c lo sl).bind fun y => (evO c hi sl).bind fun z => R.of (sliF x y z)
  | .dgt a k y, sl => (evE c a sl).bind fun x => if x.isD then (evE c k sl).bind fun k => (evE c y sl).bind fun y => R.of (dgtF x k y) else .stuck
  | .dg1 a k, sl => (evE c a sl).bind fun x => if x.isD then (evE c k sl).bind fun k => R.of (dgtF x k (.cl .non)) else .stuck
  | .srt _ j a, sl => (evE c a sl).bind (srtF j)
  | .lrng a b, sl => (evE c a sl).bind fun x => (evE c b sl).bind fun y => lrngF x y
  | .sm0 m o, sl => (evE c o sl).bind (sm0F m)
  | .sm1 m o e, sl => (evE c o sl).bind fun x => if x.isS then (evE c e sl).bind fun y => sm1F m x y else .stuck
def evEs (c : Calls) : Es → Sl → R (List XV)
  | .nil, _ => .ok []
  | .cons e es, sl => (evE c e sl).bind fun x => (evEs c es sl).bind fun xs => .ok (x :: xs)
def evO (c : Calls) : Eo → Sl → R (Option Int)
  | .no, _ => .ok none
  | .so e, sl => (evE c e sl).bind fun x => R.of (bnd x)
/-- a display's keys and values, pair by pair -/
def evPs (c : Calls) : Eps → Sl → R (List XV × List XV)
  | .nil, _ => .ok ([], [])
  | .cons k v r, sl => (evE c k sl).bind fun x => (evE c v sl).bind fun y => (evPs c r sl).bind fun p => .ok (x :: p.1, y :: p.2)
def evIt (c : Calls) : It → Sl → R Its
  | .exp e, sl => (evE c e sl).bind itF
  | .rng1 a, sl => (evE c a sl).bind rng1F
  | .rng2 a b, sl => (evE c a sl).bind fun x => (evE c b sl).bind fun y => rng2F x y
  | .rng3 a b d, sl => (evE c a sl).bind fun x => (evE c b sl).bind fun y => (evE c d sl).bind fun z => rng3F x y z
  | .enum e, sl => (evE c e sl).bind enumF
  | .zip a b, sl => (evE c a sl).bind fun x => (evE c b sl).bind fun y => zipF x y
/-- a comprehension's test -/
def evCnd (c : Calls) : Es → Sl → R Bool
  | .nil, _ => .ok true
  | .cons e _, sl => tst (evE c e sl)
end
/-! ### statements -/
inductive Out where
  | nx (sl : Sl) | rt (x : XV) (sl : Sl) | bk (sl : Sl) | ct (sl : Sl) | ex (e : Exn) (sl : Sl)
abbrev RO := Option Out
def R.out {α : Type} (sl : Sl) (r : R α) (f : α → RO) : RO := match r with
  | .stuck => none
  | .ok a => f a
  | .exc e => some (.ex e sl)
def seqO (r : RO) (f : Sl → RO) : RO := match r with
  | some (.nx sl) => f sl
  | r => r
/-- a loop's turns, n at most -/
def loopN (t : Sl → R XV) (b : Sl → RO) : Nat → Sl → RO
  | 0, _ => none
  | n + 1, sl => (t sl).out sl fun x => match x.b with
    | some false => some (.nx sl)
    | some true => match b sl with
      | some (.nx s') => loopN t b n s'
      | some (.ct s') => loopN t b n s'
      | some (.bk s') => some (.nx s')
      | r => r
    | none => none
open Classical in
noncomputable def whl (t : Sl → R XV) (b : Sl → RO) (sl : Sl) : RO := if h : ∃ n, loopN t b n sl ≠ none then loopN t b (Classical.choose h) sl else none
def forL (g : D → Sl → Option Sl) (b : Sl → RO) : List D → Sl → RO
  | [], sl => some (.nx sl)
  | d :: ds, sl => match g d sl with
    | none => none
    | some s1 => match b s1 with
      | some (.nx s') => forL g b ds s'
      | some (.ct s') => forL g b ds s'
      | some (.bk s') => some (.nx s')
      | r => r
def forX (g : XV → Sl → Option Sl) (b : Sl → RO) : List XV → Sl → RO
  | [], sl => some (.nx sl)
  | d :: ds, sl => match g d sl with
    | none => none
    | some s1 => match b s1 with
      | some (.nx s') => forX g b ds s'
      | some (.ct s') => forX g b ds s'
      | some (.bk s') => some (.nx s')
      | r => r
def forI (t : Tg) (b : Sl → RO) (sl : Sl) : Its → RO
  | .ds ds => forL (tgo t) b ds sl
  | .xs xs => forX (tgx t) b xs sl
def retF (sl : Sl) (x : XV) : RO := match x with
  | .cl d => some (.rt (.cl d) sl)
  | .nw m => some (.rt (.nw m) sl)
  | _ => none
def unpF (t : Tg) (sl : Sl) (x : XV) : RO := match x with
  | .cl d => (tgo t d sl).map .nx
  | x => (tgx t x sl).map .nx
def frzF (sl : Sl) (i : Nat) : RO := match sl[i]? with
  | some (.ow m) => some (.nx (sl.set i (.cl m.toD)))
  | _ => none
/-- a part at a place -/
def MO.at_ : MO → List Nat → Option MO
  | m, [] => some m
  | m, j :: π => (m.ms.bind fun ms => ms[j]?).bind fun m' => m'.at_ π
def MO.put : MO → List Nat → MO → MO
  | _, [], m' => m'
  | m, j :: π, m' => match m.ms with
    | some ms => match ms[j]? with
      | some mj => m.wth (ms.set j (mj.put π m'))
      | none => m
    | none => m
/-- the place's object put anew -/
def putS (sl : Sl) (i : Nat) (π : List Nat) (m' : MO) : Sl := match sl[i]? with
  | some (.ow m) => sl.set i (.ow (m.put π m'))
  | some (.bo j m) => sl.set i (.bo j (m.put π m'))
  | _ => sl
/-- a slot, a road in it, what stands there -/
structure Pt where
  i : Nat
  π : List Nat
  m : MO
def ptV (sl : Sl) (i : Nat) : R Pt := match sl[i]? with
  | some (.ow m) => .ok ⟨i, [], m⟩
  | some (.bo _ m) => .ok ⟨i, [], m⟩
  | _ => .stuck
def Pt.kid (p : Pt) (j : Nat) : R Pt := match p.m.ms with
  | some ms => match ms[j]? with
    | some m => .ok ⟨p.i, p.π ++ [j], m⟩
    | none => .stuck
  | none => .stuck
def Pt.fld (p : Pt) (c : String) (f : Str) : R Pt := match p.m with
  | .ins c' ns _ => if Str.ofString c = c' then (match ns.findIdx? (fun g => decide (g = f)) with
    | some j => p.kid j
    | none => .stuck) else .stuck
  | _ => .stuck
def Pt.ix (p : Pt) (y : XV) : R Pt := match p.m, y with
  | .lst ms, .cl (.int n) => (match ixN ms.length n with
    | some j => p.kid j
    | none => .stuck)
  | .dct ks _, .cl k => if isK k then (match dfind ks k with
    | some j => p.kid j
    | none => .stuck) else .stuck
  | _, _ => .stuck
def plF (c : Calls) : Pl → Sl → R Pt
  | .v i, sl => ptV sl i
  | .f p cl f, sl => (plF c p sl).bind fun q => q.fld cl (Str.ofString f)
  | .x p e, sl => (plF c p sl).bind fun q => (evE c e sl).bind fun y => q.ix y
def MO.isL : MO → Bool
  | .lst _ => true
  | _ => false
def pappF (sl : Sl) (p : Pt) (x : XV) : RO := match p.m, x.item with
  | .lst ms, some m => if ms.length < sizeLine then some (.nx (putS sl p.i p.π (.lst (ms ++ [m])))) else none
  | _, _ => none
def pstF (sl : Sl) (p : Pt) (y x : XV) : RO := match p.m, y, x.item with
  | .lst ms, .cl (.int n), some m => (match ixN ms.length n with
    | some j => some (.nx (putS sl p.i p.π (.lst (ms.set j m))))
    | none => none)
  | .dct ks ms, .cl k, some m => if isK k && decide (ks.length < sizeLine) then some (.nx (putS sl p.i p.π (.dct (dput ks ms k m).1 (dput ks ms k m).2))) else none
  | _, _, _ => none
/-- an attribute stored -/
def fput (ns : List Str) (ms : List MO) (f : Str) (m : MO) : List Str × List MO := match ns.findIdx? (fun g => decide (g = f)) with
  | some j => (ns, ms.set j m)
  | none => (ns ++ [f], ms ++ [m])
def pfsF (sl : Sl) (p : Pt) (c : String) (f : Str) (x : XV) : RO := match p.m, x.item with
  | .ins c' ns ms, some m => if Str.ofString c = c' ∧ ns.length < 1000 then some (.nx (putS sl p.i p.π (.ins c' (fput ns ms f m).1 (fput ns ms f m).2))) else none
  | _, _ => none
def pinsF (sl : Sl) (p : Pt) (y x : XV) : RO := match p.m, y, x.item with
  | .lst ms, .cl (.int n), some m => if ms.length < sizeLine ∧ 0 ≤ n ∧ n < 2 ^ 63 then some (.nx (putS sl p.i p.π (.lst (ms.take n.toNat ++ [m] ++ ms.drop n.toNat)))) else none
  | _, _, _ => none
def prevF (sl : Sl) (p : Pt) : RO := match p.m with
  | .lst ms => some (.nx (putS sl p.i p.π (.lst ms.reverse)))
  | _ => none
/-- an item popped: what is left, the item -/
def popF (m : MO) (n : Int) : Option (MO × MO) := match m with
  | .lst ms => if -(2 ^ 63) ≤ n ∧ n < 2 ^ 63 then ((ixN ms.length n).bind fun j => (ms[j]?).map fun m => (.lst (ms.eraseIdx j), m)) else none
  | _ => none
def pop0F (m : MO) : Option (MO × MO) := match m with
  | .lst ms => (ms[ms.length - 1]?).map fun m => (.lst ms.dropLast, m)
  | _ => none
def MO.xv : MO → XV
  | .cl d => .cl d
  | m => .nw m
/-- a value, and the slots behind it -/
inductive RM where
  | stuck | ok (x : XV) (sl : Sl) | exc (e : Exn) (sl : Sl)
def R.outM {α : Type} (sl : Sl) (r : R α) (f : α → RM) : RM := match r with
  | .stuck => .stuck
  | .ok a => f a
  | .exc e => .exc e sl
/-- the arguments of a call that changes a place -/
def evAr (c : Calls) (k : Nat) : List Ar → Sl → R (List SV × List Pt)
  | [], _ => .ok ([], [])
  | .e e :: r, sl => (evE c e sl).bind fun x => (R.of x.argS).bind fun s => (evAr c k r sl).bind fun q => .ok (s :: q.1, q.2)
  | .p p :: r, sl => (plF c p sl).bind fun p => (evAr c (k + 1) r sl).bind fun q => .ok (.bo k p.m :: q.1, p :: q.2)
/-- behind a call that changes a place -/
def callF (sl : Sl) (p : Pt) (r : R XV) : RM := match r with
  | .ok (.mu x [m]) => .ok x (putS sl p.i p.π m)
  | .exc e => match e.ms with
    | [m] => .exc { e with ms := [] } (putS sl p.i p.π m)
    | _ => .stuck
  | _ => .stuck
def popR (sl : Sl) (p : Pt) (r : Option (MO × MO)) : RM := match r with
  | some (m1, m) => .ok m.xv (putS sl p.i p.π m1)
  | none => .stuck
def evM (c : Calls) : Mx → Sl → RM
  | .mth cl m o es, sl => (plF c o sl).outM sl fun p => if isIns cl (Str.ofString m) (.tm p.m) then (evEs c es sl).outM sl fun xs => (match argsSL xs with
    | some ss => callF sl p (c (cl ++ "." ++ m) (.bo 0 p.m :: ss))
    | none => .stuck) else .stuck
  | .mcl f as, sl => (evAr c 0 as sl).outM sl fun q => (match q.2 with
    | [p] => callF sl p (c f q.1)
    | _ => .stuck)
  | .pop q e, sl => (plF c q sl).outM sl fun p => (evE c e sl).outM sl fun y => (match y with
    | .cl (.int n) => popR sl p (popF p.m n)
    | _ => .stuck)
  | .pop0 q, sl => (plF c q sl).outM sl fun p => popR sl p (pop0F p.m)
def dstF (d : Ds) (r : RM) : RO := match r with
  | .stuck => none
  | .exc e sl => some (.ex e sl)
  | .ok x sl => match d with
    | .drop => some (.nx sl)
    | .asg i => match x.keep with
      | some s => some (.nx (sl.set i s))
      | none => none
    | .ret => match x with
      | .cl d => some (.rt (.cl d) sl)
      | .nw m => some (.rt (.nw m) sl)
      | _ => none
/-- no error comes out -/
def noxO (r : RO) : RO := match r with
  | some (.ex _ _) => none
  | r => r
/-- an item popped from one list and put behind another -/
def apopF (sl : Sl) (i : Nat) (q : Pt) (y : XV) : RO := match q.m, y with
  | .lst ms, .cl (.int n) => if -(2 ^ 63) ≤ n ∧ n < 2 ^ 63 then (match ixN ms.length n with
    | some k => (match ms[k]? with
      | some (.cl d) => (match ptV (putS sl q.i q.π (.lst (ms.eraseIdx k))) i with
        | .ok p2 => pappF (putS sl q.i q.π (.lst (ms.eraseIdx k))) p2 (.cl d)
        | _ => none)
      | _ => none)
    | none => none) else none
  | _, _ => none
/-- a dict's keys; its entries -/
def keysI (x : XV) : R (List D) := match x with
  | .lk m => match m.dic with
    | some (ks, _) => .ok ks
    | none => .stuck
  | .cl (.dct ks _) => .ok ks
  | _ => .stuck
def itemsI (x : XV) : R (List D) := match x with
  | .lk m => match m.dic with
    | some (ks, ms) => match clM ms with
      | some ds => .ok (zipD ks ds)
      | none => .stuck
    | none => .stuck
  | .cl (.dct ks ds) => .ok (zipD ks ds)
  | _ => .stuck
/-- slot i is read alone -/
def lckF (i : Nat) (sl : Sl) (f : Sl → RO) : RO := match sl[i]? with
  | some (.ow m) => match f (sl.set i (.lk m)) with
    | some (.nx s') => some (.nx (s'.set i (.ow m)))
    | some (.rt (.cl d) s') => some (.rt (.cl d) (s'.set i .no))
    | _ => none
  | _ => none
/-- an error of the body is kept at slot j; slot i, its name's, goes -/
def catchF (ds : List String) (cl : String) (i j : Nat) (r : RO) : RO := match r with
  | some (.ex e s1) => if ds.contains e.c && (e.fs.isEmpty && decide (i < s1.length)) then (if exnIs e.c cl then some (.nx (((s1.set i (.cl (.exn e.c))).set j (.cl (.exn e.c))).set i .no)) else some (.ex e s1)) else none
  | r => r
/-- .. a suite follows -/
def catchH (ds : List String) (cl : String) (i : Nat) (r : RO) (h : Sl → RO) : RO := match r with
  | some (.ex e s1) => if ds.contains e.c && (e.fs.isEmpty && decide (i < s1.length)) then (if exnIs e.c cl then (match h (s1.set i (.cl (.exn e.c))) with
    | some (.nx s2) => some (.nx (s2.set i .no))
    | _ => none) else some (.ex e s1)) else none
  | r => r
mutual
noncomputable def evS (c : Calls) : S → Sl → RO
  | .asg i e, sl => (evE c e sl).out sl fun x => match x.keep with
    | some s => some (.nx (sl.set i s))
    | none => none
  | .unp t e, sl => (evE c e sl).out sl (unpF t sl)
  | .par i j a b, sl => (evE c a sl).out sl fun x => (evE c b sl).out sl fun y => match x, y with
    | .cl d, .cl e => some (.nx ((sl.set i (.cl d)).set j (.cl e)))
    | _, _ => none
  | .ifs t a b, sl => (tst (evE c t sl)).out sl fun q => if q then evSs c a sl else evSs c b sl
  | .whl t b, sl => whl (evE c t) (evSs c b) sl
  | .for_ t it b, sl => (evIt c it sl).out sl (forI t (evSs c b) sl)
  | .ret e, sl => (evE c e sl).out sl (retF sl)
  | .retn, sl => some (.rt (.cl .non) sl)
  | .mv i, sl => match sl[i]? with
    | some (.ow m) => some (.rt (.nw m) (sl.set i .no))
    | some (.bo _ m) => if m.ms.isSome then some (.rt .al sl) else none
    | _ => none
  | .brk, sl => some (.bk sl)
  | .cnt, sl => some (.ct sl)
  | .pas, sl => some (.nx sl)
  | .rse x, sl => some (.ex ⟨x, [], []⟩ sl)
  | .frz i, sl => frzF sl i
  | .tryk ds cl i j b, sl => catchF ds cl i j (evSs c b sl)
  | .tryx ds cl i b h, sl => catchH ds cl i (evSs c b sl) (evSs c h)
  | .papp p e, sl => (plF c p sl).out sl fun p => if p.m.isL then (evE c e sl).out sl (pappF sl p) else none
  | .pst p k e, sl => (evE c e sl).out sl fun x => (plF c p sl).out sl fun p => (evE c k sl).out sl fun y => pstF sl p y x
  | .pfs p cl f e, sl => (evE c e sl).out sl fun x => (plF c p sl).out sl fun p => pfsF sl p cl (Str.ofString f) x
  | .pins p a e, sl => (plF c p sl).out sl fun p => if p.m.isL then (evE c a sl).out sl fun y => (evE c e sl).out sl fun x => pinsF sl p y x else none
  | .prev p, sl => (plF c p sl).out sl (prevF sl)
  | .apop i j e, sl => (ptV sl i).out sl fun p => if p.m.isL then (ptV sl j).out sl fun q => if q.m.isL then (evE c e sl).out sl fun y => apopF sl i q y else none else none
  | .mx d m, sl => dstF d (evM c m sl)
  | .fork t e b, sl => (evE c e sl).out sl fun x => (keysI x).out sl fun ds => noxO (forL (tgo t) (evSs c b) ds sl)
  | .forit t e b, sl => (evE c e sl).out sl fun x => (itemsI x).out sl fun ds => noxO (forL (tgo t) (evSs c b) ds sl)
  | .lck i s, sl => lckF i sl (evS c s)
  | .ex e, sl => (evE c e sl).out sl fun _ => some (.nx sl)
noncomputable def evSs (c : Calls) : Ss → Sl → RO
  | .nil, sl => some (.nx sl)
  | .cons s ss, sl => seqO (evS c s sl) (evSs c ss)
end
/-- what was handed in to be changed, at the end -/
def bosF : List SV → Sl → Option (List MO)
  | [], _ => some []
  | .bo i _ :: r, .bo j m :: sl => if i = j then (bosF r sl).map (m :: ·) else none
  | .bo _ _ :: _, _ => none
  | _ :: r, _ :: sl => bosF r sl
  | _ :: _, [] => none
def noBo : List SV → Bool
  | [] => true
  | .bo _ _ :: _ => false
  | _ :: r => noBo r
def bosG (args : List SV) (sl : Sl) : Option (List MO) := if noBo args then some [] else bosF args sl
def boOk (k : Nat) : List SV → Bool
  | [] => true
  | .bo i _ :: r => decide (i = k) && boOk (k + 1) r
  | .ow _ :: _ => false
  | .no :: _ => false
  | _ :: r => boOk k r
def muF (x : XV) : List MO → XV
  | [] => x
  | ms => .mu x ms
/-- a def's value -/
def retX (x : XV) : Option XV := match x with
  | .cl d => some (.cl d)
  | .nw m => some (.nw m)
  | .al => some .al
  | _ => none
def retR (args : List SV) (o : RO) : R XV := match o with
  | some (.rt x sl) => match retX x, bosG args sl with
    | some x, some ms => .ok (muF x ms)
    | _, _ => .stuck
  | some (.nx sl) => match bosG args sl with
    | some ms => .ok (muF (.cl .non) ms)
    | none => .stuck
  | some (.ex e sl) => match bosG args sl with
    | some ms => .exc { e with ms := ms }
    | none => .stuck
  | _ => .stuck
noncomputable def evF (c : Calls) (np n : Nat) (body : Ss) (args : List SV) : R XV := if args.length = np ∧ boOk 0 args = true then retR args (evSs c body (args ++ List.replicate (n - np) .no)) else .stuck
/-! ### loops -/
theorem loopN_mono {t : Sl → R XV} {b : Sl → RO} : ∀ {n : Nat} {sl : Sl} {m : Nat}, loopN t b n sl ≠ none → n ≤ m → loopN t b m sl = loopN t b n sl
  | 0, _, _, h, _ => absurd rfl h
  | n + 1, sl, 0, _, h => by omega
  | n + 1, sl, m + 1, h, hm => by
    have ih := fun (s' : Sl) (h : loopN t b n s' ≠ none) => loopN_mono (m := m) h (by omega)
    unfold loopN at h ⊢
    cases ht : t sl with
    | stuck => rfl
    | exc e => rfl
    | ok x =>
      rw [ht] at h
      simp only [R.out] at h ⊢
      cases hx : x.b with
      | none => rfl
      | some k =>
        cases k with
        | false => rfl
        | true =>
          rw [hx] at h
          simp only at h ⊢
          cases hb : b sl with
          | none => rfl
          | some o =>
            rw [hb] at h
            cases o with
            | nx s' => exact ih s' h
            | ct s' => exact ih s' h
            | bk s' => rfl
            | rt x s' => rfl
            | ex e s' => rfl
theorem whl_of {t : Sl → R XV} {b : Sl → RO} {sl : Sl} {n : Nat} (h : loopN t b n sl ≠ none) : whl t b sl = loopN t b n sl := by
  have hh : ∃ n, loopN t b n sl ≠ none := ⟨n, h⟩
  unfold whl
  rw [dif_pos hh]
  have h2 := Classical.choose_spec hh
  rcases Nat.le_total n (Classical.choose hh) with q | q
  · exact loopN_mono h q
  · exact (loopN_mono h2 q).symm
theorem whl_some {t : Sl → R XV} {b : Sl → RO} {sl : Sl} {o : Out} (h : whl t b sl = some o) : ∃ n, loopN t b n sl = some o := by
  unfold whl at h
  split at h
  · exact ⟨_, h⟩
  · cases h
/-- one turn of a while -/
theorem whl_eq (t : Sl → R XV) (b : Sl → RO) (sl : Sl) : whl t b sl = (t sl).out sl fun x => match x.b with
    | some false => some (.nx sl)
    | some true => match b sl with
      | some (.nx s') => whl t b s'
      | some (.ct s') => whl t b s'
      | some (.bk s') => some (.nx s')
      | r => r
    | none => none := by
  have key : ∀ s', (∀ n, loopN t b n s' = none) → whl t b s' = none := fun s' h => by
    unfold whl
    rw [dif_neg (fun ⟨n, q⟩ => q (h n))]
  by_cases hh : ∃ n, loopN t b n sl ≠ none
  · obtain ⟨n, h⟩ := hh
    rw [whl_of h]
    cases n with
    | zero => exact absurd rfl h
    | succ n =>
      unfold loopN at h ⊢
      cases ht : t sl with
      | stuck => rfl
      | exc e => rfl
      | ok x =>
        rw [ht] at h
        simp only [R.out] at h ⊢
        cases hx : x.b with
        | none => rfl
        | some k =>
          cases k with
          | false => rfl
          | true =>
            rw [hx] at h
            simp only at h ⊢
            cases hb : b sl with
            | none => rfl
            | some o =>
              rw [hb] at h
              cases o with
              | nx s' => exact (whl_of h).symm
              | ct s' => exact (whl_of h).symm
              | bk s' => rfl
              | rt x s' => rfl
              | ex e s' => rfl
  · have all : ∀ n, loopN t b n sl = none := fun n => Classical.byContradiction fun q => hh ⟨n, q⟩
    rw [key sl all]
    have nxt := fun n => all (n + 1)
    unfold loopN at nxt
    cases ht : t sl with
    | stuck => rfl
    | exc e => rw [ht] at nxt; exact absurd (nxt 0) (by simp [R.out])
    | ok x =>
      rw [ht] at nxt
      simp only [R.out] at nxt ⊢
      cases hx : x.b with
      | none => rfl
      | some k =>
        rw [hx] at nxt
        cases k with
        | false => exact absurd (nxt 0) (by simp)
        | true =>
          simp only at nxt ⊢
          cases hb : b sl with
          | none => rfl
          | some o =>
            rw [hb] at nxt
            cases o with
            | nx s' => exact (key s' nxt).symm
            | ct s' => exact (key s' nxt).symm
            | bk s' => exact absurd (nxt 0) (by simp)
            | rt x s' => exact absurd (nxt 0) (by simp)
            | ex e s' => exact absurd (nxt 0) (by simp)
end Mo
namespace Mo
open PySem PySem.Spec PyProof.Rows L2
/-! ### all that a piece of syntax may promise -/
def weE (X : Cx) (e : Expr) : TE := fun σ H Q => ∃ t, PE X e t ∧ t σ H Q
theorem pe_we {X : Cx} {e : Expr} : PE X e (weE X e) := ⟨fun pins s σ H Q I ⟨t, h, q⟩ => h.run pins s σ H Q I q⟩
def weT (X : Cx) (e : Expr) : TT := fun σ H Q => ∃ t, PT X e t ∧ t σ H Q
theorem pt_we {X : Cx} {e : Expr} : PT X e (weT X e) := ⟨fun pins s σ H Q I ⟨t, h, q⟩ => h.run pins s σ H Q I q⟩
def weW (X : Cx) (e : Expr) : TT := fun σ H Q => ∃ t, PW X e t ∧ t σ H Q
theorem pw_we {X : Cx} {e : Expr} : PW X e (weW X e) := ⟨fun wh pins s σ H Q I ⟨t, h, q⟩ => h.run wh pins s σ H Q I q⟩
def weA (X : Cx) (es : List Expr) : TA := fun σ H Q => ∃ t, PA X es t ∧ t σ H Q
theorem pa_we {X : Cx} {es : List Expr} : PA X es (weA X es) := ⟨fun pos pins s σ H Q I ⟨t, h, q⟩ => h.run pos pins s σ H Q I q⟩
/-- what an error is -/
def ExnR (K : PySem.W.Frag) (H : Hp) (e : Exn) (cls : Value) (d : Option Addr) : Prop := cls = .ref (He.ga K (Str.ofString e.c)) ∧ e.fs = [] ∧ d = none
def PostR {α β : Type} (K : PySem.W.Frag) (Wx : WX) (rep : Wd → α → β → Prop) (σ : L2.St) (w : Wd) (r : R α) (T : (β → Hp → Prop) → Prop) : Prop := match r with
  | .stuck => True
  | .ok x => ∀ Q : β → Hp → Prop, (∀ w' v, WOk w' → WLe w w' → rep w' x v → Q v w'.H) → T Q
  | .exc e => ∀ Q : β → Hp → Prop, (∀ w' cls d, WOk w' → WLe w w' → ExnR K w'.H e cls d → Wx cls d σ w'.H) → T Q
structure At (K : PySem.W.Frag) (sl : Sl) (σ : L2.St) (A : List Addr) (w : Wd) : Prop where
  ok : WOk w
  sl : SlR K w sl σ A
  ow : Own w A
theorem At.mono {K : PySem.W.Frag} {sl : Sl} {σ : L2.St} {A : List Addr} {w w' : Wd} (h : At K sl σ A w) (l : WLe w w') (k : WOk w') : At K sl σ A w' := ⟨k, h.sl.mono l, h.ow.mono l h.sl.there⟩
abbrev old (w : Wd) : Addr → Prop := fun a => w.H a ≠ none
theorem old_le {w w' : Wd} (l : WLe w w') : ∀ a, old w a → old w' a := fun a h => ex_some l.h h
def OkE (X : Cx) (Wx : WX) (e : Expr) (f : Sl → R XV) : Prop := ∀ sl σ A w, At X.K sl σ A w → PostR X.K Wx (fun w' x v => XRep X.K (old w) w' x v) σ w (f sl) (weE X e σ w.H)
def OkT (X : Cx) (Wx : WX) (e : Expr) (f : Sl → R XV) : Prop := ∀ sl σ A w, At X.K sl σ A w → PostR X.K Wx (fun _ x b => x = b) σ w (tst (f sl)) (weT X e σ w.H)
def OkW (X : Cx) (Wx : WX) (e : Expr) (f : Sl → R XV) : Prop := ∀ sl σ A w, At X.K sl σ A w → PostR X.K Wx (fun _ x b => x = b) σ w (tst (f sl)) (weW X e σ w.H)
def OkA (X : Cx) (Wx : WX) (es : List Expr) (f : Sl → R (List XV)) : Prop := ∀ sl σ A w, At X.K sl σ A w → PostR X.K Wx (fun w' x v => XsRep X.K (old w) w' x v) σ w (f sl) (weA X es σ w.H)
section
variable {X : Cx} {Wx : WX} {K : PySem.W.Frag} {sl : Sl} {σ : L2.St} {A : List Addr} {w : Wd} {a b e : Expr} {f g : Sl → R XV}
theorem PostR.imp {α β : Type} {rep rep' : Wd → α → β → Prop} {r : R α} {T T' : (β → Hp → Prop) → Prop} (h : PostR K Wx rep σ w r T) (hT : ∀ Q, T Q → T' Q) (hr : ∀ w' x v, WLe w w' → rep w' x v → rep' w' x v) : PostR K Wx rep' σ w r T' := by
  cases r with
  | stuck => trivial
  | ok x => exact fun Q q => hT Q (h Q fun w' v k l r => q w' v k l (hr w' x v l r))
  | exc e => exact fun Q q => hT Q (h Q q)
/-- one piece, then what comes of its value -/
theorem PostR.bind {α β α' β' : Type} {rep : Wd → α → β → Prop} {rep' : Wd → α' → β' → Prop} {r : R α} {T : (β → Hp → Prop) → Prop} {T' : (β' → Hp → Prop) → Prop} {F : α → R α'} {body : β → Hp → (β' → Hp → Prop) → Prop}
    (h : PostR K Wx rep σ w r T) (hT : ∀ Q, T (fun v H1 => body v H1 Q) → T' Q)
    (hF : ∀ x w1 v, r = .ok x → WOk w1 → WLe w w1 → rep w1 x v → PostR K Wx rep' σ w1 (F x) (body v w1.H)) : PostR K Wx rep' σ w (r.bind F) T' := by
  cases r with
  | stuck => trivial
  | exc e => exact fun Q q => hT Q (h _ q)
  | ok x =>
    show PostR K Wx rep' σ w (F x) T'
    have hF' := fun w1 v => hF x w1 v rfl
    cases hx : F x with
    | stuck => trivial
    | exc e =>
      rw [hx] at hF'
      exact fun Q q => hT Q (h _ fun w1 v k l r => hF' w1 v k l r Q fun w' cls d k' l' => q w' cls d k' (l.trans l'))
    | ok z =>
      rw [hx] at hF'
      exact fun Q q => hT Q (h _ fun w1 v k l r => hF' w1 v k l r Q fun w' u k' l' => q w' u k' (l.trans l'))
theorem PostR.ret {α β : Type} {rep : Wd → α → β → Prop} {x : α} {v : β} (k : WOk w) (r : rep w x v) : PostR K Wx rep σ w (.ok x) (fun Q => Q v w.H) := fun Q q => q w v k (WLe.refl w) r
/-- the second one at the place behind the first -/
theorem OkE.at1 (h : OkE X Wx e f) {w0 : Wd} (t : At X.K sl σ A w) (l : WLe w0 w) : PostR X.K Wx (fun w' x v => XRep X.K (old w0) w' x v) σ w (f sl) (weE X e σ w.H) :=
  (h sl σ A w t).imp (fun _ q => q) fun w' x v _ r => r.weak (old_le l)
theorem OkE.bind2 (ha : OkE X Wx a f) (hb : OkE X Wx b g) (t : At X.K sl σ A w) {F : XV → XV → R XV} {body : V → V → Hp → VK → Prop} {T : VK → Prop}
    (hT : ∀ Q, (weE X a σ w.H fun v H1 => weE X b σ H1 fun u H2 => body v u H2 Q) → T Q)
    (hF : ∀ x y w2 v u, f sl = .ok x → g sl = .ok y → At X.K sl σ A w2 → WLe w w2 → XRep X.K (old w) w2 x v → XRep X.K (old w) w2 y u → PostR X.K Wx (fun w' x v => XRep X.K (old w) w' x v) σ w2 (F x y) (body v u w2.H)) :
    PostR X.K Wx (fun w' x v => XRep X.K (old w) w' x v) σ w ((f sl).bind fun x => (g sl).bind fun y => F x y) T := by
  refine (ha sl σ A w t).bind (body := fun v H1 Q => weE X b σ H1 fun u H2 => body v u H2 Q) hT fun x w1 v hx k1 l1 r1 => ?_
  refine (hb.at1 (t.mono l1 k1) l1).bind (body := fun u H2 Q => body v u H2 Q) (fun Q q => q) fun y w2 u hy k2 l2 r2 => ?_
  exact hF x y w2 v u hx hy (t.mono (l1.trans l2) k2) (l1.trans l2) (r1.mono l2) r2
theorem OkE.bind1 (ha : OkE X Wx a f) (t : At X.K sl σ A w) {F : XV → R XV} {body : V → Hp → VK → Prop} {T : VK → Prop}
    (hT : ∀ Q, (weE X a σ w.H fun v H1 => body v H1 Q) → T Q)
    (hF : ∀ x w2 v, f sl = .ok x → At X.K sl σ A w2 → WLe w w2 → XRep X.K (old w) w2 x v → PostR X.K Wx (fun w' x v => XRep X.K (old w) w' x v) σ w2 (F x) (body v w2.H)) :
    PostR X.K Wx (fun w' x v => XRep X.K (old w) w' x v) σ w ((f sl).bind F) T :=
  (ha sl σ A w t).bind hT fun x w1 v hx k1 l1 r1 => hF x w1 v hx (t.mono l1 k1) l1 r1
end
/-! ### data read off values -/
section
variable {K : PySem.W.Frag} {w : Wd} {O : Addr → Prop}
theorem XRep.dat {x : XV} {v : V} {d : D} (k : WOk w) (h : XRep K O w x v) (e : x.d = some d) : Rep K w.H d v := by
  obtain ⟨B, h, _, _⟩ := h
  cases x with
  | cl d' => cases e; exact h.1.mono k.fh
  | lk m => cases e; obtain ⟨A, q⟩ := h.1; exact q.rep k.fh fun a _ o z => k.gh a o z
  | tm m => cases e; obtain ⟨A, q⟩ := h.1; exact q.rep k.fh fun a _ o z => z
  | nw m => cases e
  | al => cases e
  | mu _ _ => cases e
theorem XRep.mo {x : XV} {v : V} {m : MO} (k : WOk w) (h : XRep K O w x v) (e : x.mo = some m) : ∃ A, ORep K w.F w.H m v A := by
  obtain ⟨B, h, _, _⟩ := h
  cases x with
  | cl d' => cases e; exact ⟨[], h.1, rfl⟩
  | lk m => cases e; obtain ⟨A, q⟩ := h.1; exact ⟨A, q.mono (Ex.refl _) fun a _ o z => k.gh a o z⟩
  | tm m => cases e; exact h.1
  | nw m => cases e
  | al => cases e
  | mu _ _ => cases e
theorem own_nil : Own w [] := ⟨List.nodup_nil, fun a h => absurd h (by simp)⟩
/-- a row and its items -/
theorem XRep.kids {x : XV} {v : V} {m : MO} {ms : List MO} (k : WOk w) (h : XRep K O w x v) (e : x.mo = some m) (q : m.kids = some ms) :
    ∃ a vs, v = .ref a ∧ (SqL K w.H a vs ∨ SqT K w.H a vs) ∧ ms.length = vs.length ∧ ∀ (i : Nat) (m' : MO), ms[i]? = some m' → ∃ u, vs[i]? = some u ∧ XRep K O w (x.sub m') u := by
  obtain ⟨B, h, _, _⟩ := h
  have clsub : ∀ {ds : List D} {vs : List V} (i : Nat) (m' : MO), RepL K w.F ds vs → (ds.map MO.cl)[i]? = some m' → ∃ u, vs[i]? = some u ∧ XRep K O w (x.sub m') u := fun {ds vs} i m' r hi => by
    rw [List.getElem?_map] at hi
    cases hd : ds[i]? with
    | none => rw [hd] at hi; cases hi
    | some d =>
      rw [hd] at hi
      cases hi
      obtain ⟨u, h1, h2⟩ := r.get hd
      exact ⟨u, h1, XRep.cl h2⟩
  have sub1 : ∀ {m' : MO} {u : V}, (∃ d, m' = .cl d ∧ Rep K w.F d u) → XRep K O w (x.sub m') u := fun {m' u} ⟨d, e, r⟩ => by subst e; exact XRep.cl r
  cases x with
  | cl d =>
    cases e
    cases d with
    | tup ds =>
      cases q
      obtain ⟨⟨a, vs, e1, e2, e3⟩, _⟩ := h
      exact ⟨a, vs, e1, .inr (k.fh.sqt e2), by rw [List.length_map]; exact e3.length, fun i m' hi => clsub i m' e3 hi⟩
    | lst ds =>
      cases q
      obtain ⟨⟨a, vs, e1, e2, e3⟩, _⟩ := h
      exact ⟨a, vs, e1, .inl (k.fh.sql e2), by rw [List.length_map]; exact e3.length, fun i m' hi => clsub i m' e3 hi⟩
    | _ => cases q
  | lk m =>
    cases e
    obtain ⟨⟨A, h⟩, _⟩ := h
    have sub2 : ∀ {m' : MO} {u : V} {B : List Addr}, ORep K w.F w.G m' u B → XRep K O w ((XV.lk m).sub m') u := fun {m' u B} o => by
      cases m' with
      | cl d => exact XRep.cl o.1
      | _ => exact ⟨[], ⟨⟨B, o⟩, rfl⟩, own_nil, fun a h => absurd h (by simp)⟩
    cases m with
    | cl d =>
      cases d with
      | tup ds =>
        cases q
        obtain ⟨⟨a, vs, e1, e2, e3⟩, _⟩ := h
        exact ⟨a, vs, e1, .inr (k.fh.sqt e2), by rw [List.length_map]; exact e3.length, fun i m' hi => clsub i m' e3 hi⟩
      | lst ds =>
        cases q
        obtain ⟨⟨a, vs, e1, e2, e3⟩, _⟩ := h
        exact ⟨a, vs, e1, .inl (k.fh.sql e2), by rw [List.length_map]; exact e3.length, fun i m' hi => clsub i m' e3 hi⟩
      | _ => cases q
    | tup ms' =>
      cases q
      obtain ⟨a, vs, B', e1, e2, e3, e4⟩ := h
      exact ⟨a, vs, e1, .inr (.inl (k.gh.rd e2)), e3.length, fun i m' hi => by
        obtain ⟨u, B2, h1, h2, _⟩ := e3.get hi
        exact ⟨u, h1, sub2 h2⟩⟩
    | lst ms' =>
      cases q
      obtain ⟨a, vs, B', e1, e2, e3, e4⟩ := h
      exact ⟨a, vs, e1, .inl (.inl (k.gh.rd e2)), e3.length, fun i m' hi => by
        obtain ⟨u, B2, h1, h2, _⟩ := e3.get hi
        exact ⟨u, h1, sub2 h2⟩⟩
    | dct _ _ => cases q
    | ins _ _ _ => cases q
  | tm m =>
    cases e
    obtain ⟨⟨A, h⟩, _⟩ := h
    have sub2 : ∀ {m' : MO} {u : V} {B : List Addr}, ORep K w.F w.H m' u B → XRep K O w ((XV.tm m).sub m') u := fun {m' u B} o => by
      cases m' with
      | cl d => exact XRep.cl o.1
      | _ => exact ⟨[], ⟨⟨B, o⟩, rfl⟩, own_nil, fun a h => absurd h (by simp)⟩
    cases m with
    | cl d =>
      cases d with
      | tup ds =>
        cases q
        obtain ⟨⟨a, vs, e1, e2, e3⟩, _⟩ := h
        exact ⟨a, vs, e1, .inr (k.fh.sqt e2), by rw [List.length_map]; exact e3.length, fun i m' hi => clsub i m' e3 hi⟩
      | lst ds =>
        cases q
        obtain ⟨⟨a, vs, e1, e2, e3⟩, _⟩ := h
        exact ⟨a, vs, e1, .inl (k.fh.sql e2), by rw [List.length_map]; exact e3.length, fun i m' hi => clsub i m' e3 hi⟩
      | _ => cases q
    | tup ms' =>
      cases q
      obtain ⟨a, vs, B', e1, e2, e3, e4⟩ := h
      exact ⟨a, vs, e1, .inr (.inl e2), e3.length, fun i m' hi => by
        obtain ⟨u, B2, h1, h2, _⟩ := e3.get hi
        exact ⟨u, h1, sub2 h2⟩⟩
    | lst ms' =>
      cases q
      obtain ⟨a, vs, B', e1, e2, e3, e4⟩ := h
      exact ⟨a, vs, e1, .inl (.inl e2), e3.length, fun i m' hi => by
        obtain ⟨u, B2, h1, h2, _⟩ := e3.get hi
        exact ⟨u, h1, sub2 h2⟩⟩
    | dct _ _ => cases q
    | ins _ _ _ => cases q
  | nw m => cases e
  | al => cases e
  | mu _ _ => cases e
theorem XRep.b_of {x : XV} {v : V} {c : Bool} (h : XRep K O w x v) (e : x.b = some c) : v = .bl c := by
  cases x with
  | cl d =>
    cases d with
    | bl b => cases e; exact h.cl_of
    | _ => cases e
  | _ => cases e
theorem XRep.b_to {x : XV} {c : Bool} (h : XRep K O w x (.bl c)) {c' : Bool} (e : x.b = some c') : c = c' := by
  have := h.b_of e
  cases this; rfl
/-! ### data as the layer has it -/
mutual
theorem rep_py {H : Hp} : ∀ {d : D} {v : V} {p : PyData}, Rep K H d v → d.py = some p → Dp K H v p
  | .non, _, _, h, e => by cases e; rw [show _ = V.non from h]; exact .non
  | .bl b, _, _, h, e => by cases e; rw [show _ = V.bl b from h]; exact .bl b
  | .int i, _, _, h, e => by cases e; rw [show _ = V.int i from h]; exact .int i
  | .str s, _, _, h, e => by cases e; rw [show _ = V.str s from h]; exact .str s
  | .tup ds, _, _, ⟨a, vs, e1, e2, e3⟩, e => by
    subst e1
    cases q : D.pyL ds with
    | none => simp only [D.py, q] at e; cases e
    | some ps =>
      simp only [D.py, q] at e
      cases e
      exact .tup e2 (repL_py e3 q)
  | .lst ds, _, _, ⟨a, vs, e1, e2, e3⟩, e => by
    subst e1
    cases q : D.pyL ds with
    | none => simp only [D.py, q] at e; cases e
    | some ps =>
      simp only [D.py, q] at e
      cases e
      exact .lst e2 (repL_py e3 q)
  | .dct _ _, _, _, _, e => by cases e
  | .ins _ _ _, _, _, _, e => by cases e
  | .exn _, _, _, _, e => by cases e
theorem repL_py {H : Hp} : ∀ {ds : List D} {vs : List V} {ps : List PyData}, RepL K H ds vs → D.pyL ds = some ps → DpAll K H vs ps
  | [], vs, _, h, e => by
    have q : vs = [] := h
    subst q; cases e; exact .nil
  | d :: ds, _, _, ⟨v, r, e1, e2, e3⟩, e => by
    subst e1
    cases q : d.py with
    | none => simp only [D.pyL, q] at e; cases e
    | some p =>
      cases q2 : D.pyL ds with
      | none => simp only [D.pyL, q, q2] at e; cases e
      | some ps =>
        simp only [D.pyL, q, q2] at e
        cases e
        exact .cons (rep_py e2 q) (repL_py e3 q2)
end
theorem rep_sc {H : Hp} {d : D} {v u : V} (h : Rep K H d v) (e : d.sc = some u) : v = u := by
  cases d <;> cases e <;> exact h
theorem sc_flat {d : D} {u : V} (e : d.sc = some u) : flatV u = true := by
  cases d <;> cases e <;> rfl
theorem repL_sc {H : Hp} : ∀ {ds : List D} {vs us : List V}, RepL K H ds vs → scL ds = some us → vs = us ∧ us.all flatV = true
  | [], vs, us, h, e => by
    have q : vs = [] := h
    subst q; cases e; exact ⟨rfl, rfl⟩
  | d :: ds, _, _, ⟨v, r, e1, e2, e3⟩, e => by
    subst e1
    cases q : d.sc with
    | none => simp only [scL, q] at e; cases e
    | some u =>
      cases q2 : scL ds with
      | none => simp only [scL, q, q2] at e; cases e
      | some us =>
        simp only [scL, q, q2] at e
        cases e
        obtain ⟨h1, h2⟩ := repL_sc e3 q2
        rw [rep_sc e2 q, h1]
        exact ⟨rfl, by simp [sc_flat q, h2]⟩
end
/-! ### parts of objects -/
section
variable {K : PySem.W.Frag} {w : Wd} {O : Addr → Prop}
theorem XRep.rd {x : XV} {v : V} (h : XRep K O w x v) : XRep K O w x.rd v := by
  cases x with
  | nw m =>
    obtain ⟨B, h1, h2, h3⟩ := h
    exact ⟨[], ⟨⟨B, h1⟩, rfl⟩, own_nil, fun a h => absurd h (by simp)⟩
  | _ => exact h
/-- an own or locked object, and its parts -/
theorem XRep.node {x : XV} {v : V} {m : MO} {ms : List MO} (k : WOk w) (h : XRep K O w x v) (e : x.mo = some m) (hm : m.ms = some ms) :
    ∃ a vs, v = .ref a ∧ NodR K w.H m a vs ∧ ms.length = vs.length ∧ ∀ (i : Nat) (m' : MO), ms[i]? = some m' → ∃ u, vs[i]? = some u ∧ XRep K O w (x.sub m') u := by
  obtain ⟨B, h, _, _⟩ := h
  cases x with
  | cl d => cases e; cases hm
  | lk m1 =>
    cases e
    obtain ⟨⟨A, h⟩, _⟩ := h
    obtain ⟨a, vs, C, e1, e2, e3, e4⟩ := (ORep.nod hm).mp h
    refine ⟨a, vs, e1, e2.sa (k.gh.sm a), e3.length, fun i m' hi => ?_⟩
    obtain ⟨u, B2, h1, h2, _⟩ := e3.get hi
    refine ⟨u, h1, ?_⟩
    cases m' with
    | cl d => exact XRep.cl h2.1
    | _ => exact ⟨[], ⟨⟨_, h2⟩, rfl⟩, own_nil, fun a h => absurd h (by simp)⟩
  | tm m1 =>
    cases e
    obtain ⟨⟨A, h⟩, _⟩ := h
    obtain ⟨a, vs, C, e1, e2, e3, e4⟩ := (ORep.nod hm).mp h
    refine ⟨a, vs, e1, e2, e3.length, fun i m' hi => ?_⟩
    obtain ⟨u, B2, h1, h2, _⟩ := e3.get hi
    refine ⟨u, h1, ?_⟩
    cases m' with
    | cl d => exact XRep.cl h2.1
    | _ => exact ⟨[], ⟨⟨_, h2⟩, rfl⟩, own_nil, fun a h => absurd h (by simp)⟩
  | nw m => cases e
  | al => cases e
  | mu _ _ => cases e
theorem XRep.clR {x : XV} {v : V} {d : D} (h : XRep K O w x v) (e : x.mo = some (.cl d)) : Rep K w.F d v := by
  obtain ⟨B, h, _, _⟩ := h
  cases x with
  | cl d' => cases e; exact h.1
  | lk m => cases e; obtain ⟨⟨A, h⟩, _⟩ := h; exact h.1
  | tm m => cases e; obtain ⟨⟨A, h⟩, _⟩ := h; exact h.1
  | nw m => cases e
  | al => cases e
  | mu _ _ => cases e
theorem sub_cl (x : XV) (d : D) : x.sub (.cl d) = .cl d := by cases x <;> rfl
theorem cls_get {ds : List D} {vs : List V} (r : RepL K w.F ds vs) (x : XV) {i : Nat} {m' : MO} (hi : (ds.map MO.cl)[i]? = some m') : ∃ u, vs[i]? = some u ∧ XRep K O w (x.sub m') u := by
  rw [List.getElem?_map] at hi
  cases hd : ds[i]? with
  | none => rw [hd] at hi; cases hi
  | some d =>
    rw [hd] at hi
    cases hi
    obtain ⟨u, h1, h2⟩ := r.get hd
    exact ⟨u, h1, by rw [sub_cl]; exact XRep.cl h2⟩
theorem XRep.lst {x : XV} {v : V} {m : MO} {ms : List MO} (k : WOk w) (h : XRep K O w x v) (e : x.mo = some m) (hm : m.islst = some ms) :
    ∃ a vs, v = .ref a ∧ SqL K w.H a vs ∧ ms.length = vs.length ∧ ∀ (i : Nat) (m' : MO), ms[i]? = some m' → ∃ u, vs[i]? = some u ∧ XRep K O w (x.sub m') u := by
  cases m with
  | cl d =>
    cases d with
    | lst ds =>
      cases hm
      obtain ⟨a, vs, e1, e2, e3⟩ := h.clR e
      exact ⟨a, vs, e1, k.fh.sql e2, by rw [List.length_map]; exact e3.length, fun i m' hi => cls_get e3 x hi⟩
    | _ => cases hm
  | lst ms' =>
    cases hm
    obtain ⟨a, vs, e1, e2, e3, e4⟩ := h.node k e rfl
    exact ⟨a, vs, e1, .inl e2, e3, e4⟩
  | _ => cases hm
theorem XRep.dic {x : XV} {v : V} {m : MO} {ks : List D} {ms : List MO} (k : WOk w) (h : XRep K O w x v) (e : x.mo = some m) (hm : m.dic = some (ks, ms)) :
    ∃ a vs, v = .ref a ∧ DicR w.H a ks vs ∧ ms.length = vs.length ∧ ∀ (i : Nat) (m' : MO), ms[i]? = some m' → ∃ u, vs[i]? = some u ∧ XRep K O w (x.sub m') u := by
  cases m with
  | cl d =>
    cases d with
    | dct ks' ds =>
      cases hm
      obtain ⟨a, vs, e1, e2, e3⟩ := h.clR e
      exact ⟨a, vs, e1, e2.sa (k.fh.sm a), by rw [List.length_map]; exact e3.length, fun i m' hi => cls_get e3 x hi⟩
    | _ => cases hm
  | dct ks' ms' =>
    cases hm
    obtain ⟨a, vs, e1, e2, e3, e4⟩ := h.node k e rfl
    exact ⟨a, vs, e1, e2, e3, e4⟩
  | _ => cases hm
theorem XRep.inst {x : XV} {v : V} {m : MO} {c : Str} {ns : List Str} {ms : List MO} (k : WOk w) (h : XRep K O w x v) (e : x.mo = some m) (hm : m.inst = some (c, ns, ms)) :
    ∃ a dx fs, v = .ref a ∧ w.H a = some (.ins (He.ga K c) dx fs) ∧ fs.map (·.1) = ns ∧ ∀ (i : Nat) (m' : MO), ms[i]? = some m' → ∃ u, (fs.map (·.2))[i]? = some u ∧ XRep K O w (x.sub m') u := by
  cases m with
  | cl d =>
    cases d with
    | ins c' ns' ds =>
      cases hm
      obtain ⟨a, dx, fs, e1, e2, e3, e4⟩ := h.clR e
      exact ⟨a, dx, fs, e1, k.fh _ _ e2, e3, fun i m' hi => cls_get e4 x hi⟩
    | _ => cases hm
  | ins c' ns' ms' =>
    cases hm
    obtain ⟨a, vs, e1, ⟨dx, fs, e2, e5, e6⟩, e3, e4⟩ := h.node k e rfl
    subst e6
    exact ⟨a, dx, fs, e1, e2, e5, e4⟩
  | _ => cases hm
theorem clM_map : ∀ {ms : List MO} {ds : List D}, clM ms = some ds → ms = ds.map .cl
  | [], _, h => by cases h; rfl
  | .cl d :: ms, _, h => by
    cases q : clM ms with
    | none => simp only [clM, q] at h; cases h
    | some es => simp only [clM, q] at h; cases h; rw [clM_map q]; rfl
  | .tup _ :: _, _, h => by cases h
  | .lst _ :: _, _, h => by cases h
  | .dct _ _ :: _, _, h => by cases h
  | .ins _ _ _ :: _, _, h => by cases h
@[simp] theorem clM_cl (ds : List D) : clM (ds.map .cl) = some ds := by
  induction ds with
  | nil => rfl
  | cons d r ih => simp [clM, ih]
theorem repL_of {T : Hp} : ∀ {ds : List D} {vs : List V}, ds.length = vs.length → (∀ (i : Nat) d, ds[i]? = some d → ∃ u, vs[i]? = some u ∧ Rep K T d u) → RepL K T ds vs
  | [], [], _, _ => rfl
  | [], _ :: _, h, _ => by simp at h
  | _ :: _, [], h, _ => by simp at h
  | d :: ds, v :: vs, h, q => by
    obtain ⟨u, h1, h2⟩ := q 0 d rfl
    simp at h1
    subst h1
    exact ⟨v, vs, rfl, h2, repL_of (by simpa using h) fun i d' hi => by
      obtain ⟨u, h1, h2⟩ := q (i + 1) d' (by simpa using hi)
      exact ⟨u, by simpa using h1, h2⟩⟩
/-- a list of data -/
theorem XRep.ldsR {x : XV} {v : V} {ds : List D} (k : WOk w) (h : XRep K O w x v) (e : x.lds = some ds) : ∃ a vs, v = .ref a ∧ SqL K w.H a vs ∧ RepL K w.F ds vs := by
  unfold XV.lds at e
  cases hm : x.mo with
  | none => rw [hm] at e; cases e
  | some m =>
    rw [hm] at e
    simp only [Option.bind_some] at e
    cases hl : m.islst with
    | none => rw [hl] at e; cases e
    | some ms =>
      rw [hl] at e
      simp only [Option.bind_some] at e
      obtain rfl := clM_map e
      obtain ⟨a, vs, e1, e2, e3, e4⟩ := h.lst k hm hl
      refine ⟨a, vs, e1, e2, repL_of (by rw [← e3, List.length_map]) fun i d hi => ?_⟩
      obtain ⟨u, h1, h2⟩ := e4 i (.cl d) (by rw [List.getElem?_map, hi]; rfl)
      rw [sub_cl] at h2
      exact ⟨u, h1, h2.cl_of⟩
end
end Mo
namespace Mo
open PySem PySem.Spec PyProof.Rows L2
/-! ### a def's promise by its value -/
/-- the heap without A -/
def minus (H : Hp) (A : List Addr) : Hp := fun a => if a ∈ A then none else H a
theorem minus_nil (H : Hp) : minus H [] = H := by funext a; unfold minus; simp
theorem minus_ex (H : Hp) (A : List Addr) : Ex (minus H A) H := fun a o h => by
  unfold minus at h
  split at h
  · cases h
  · exact h
/-- the arguments: data and what is read by F, G; what is changed in H, at A -/
def ArgR (K : PySem.W.Frag) (F G H : Hp) : SV → V → List Addr → Prop
  | .cl d, v, A => Rep K F d v ∧ A = []
  | .lk m, v, A => (∃ B, ORep K F G m v B) ∧ A = []
  | .bo _ m, v, A => ORep K F H m v A
  | _, _, _ => False
def ArgsR (K : PySem.W.Frag) (F G H : Hp) : List SV → List V → List Addr → Prop
  | [], vs, A => vs = [] ∧ A = []
  | s :: ss, vs, A => ∃ v r A1 A2, vs = v :: r ∧ ArgR K F G H s v A1 ∧ ArgsR K F G H ss r A2 ∧ A = A1 ++ A2
/-- the values of what is changed -/
def bvs : List SV → List V → List V
  | .bo _ _ :: ss, v :: vs => v :: bvs ss vs
  | _ :: ss, _ :: vs => bvs ss vs
  | _, _ => []
/-- a value told: its own things at B -/
def XR0 (K : PySem.W.Frag) (F H : Hp) : XV → V → List Addr → Prop
  | .cl d, v, B => Rep K F d v ∧ B = []
  | .nw m, v, B => ORep K F H m v B
  | .al, v, B => (∃ a, v = .ref a) ∧ B = []
  | _, _, _ => False
/-- what was handed in to be changed stands at A', new or from A; what is told is new, at B -/
structure EndR (K : PySem.W.Frag) (H : Hp) (A : List Addr) (F' H' : Hp) (us : List V) (ms : List MO) (B A' : List Addr) : Prop where
  ms : ORepL K F' H' ms us A'
  nd : (B ++ A').Nodup
  nb : ∀ a ∈ B, a ∈ A ∨ H a = none
  na : ∀ a ∈ A', a ∈ A ∨ H a = none
  no : ∀ a ∈ B ++ A', F' a = none ∧ ∀ o u, H' a ≠ some (.frz o u)
def XV.muP : XV → XV × List MO
  | .mu x ms => (x, ms)
  | x => (x, [])
def RetR (K : PySem.W.Frag) (H : Hp) (A : List Addr) (F' H' : Hp) (us : List V) (x : XV) (v : V) : Prop := ∃ B A', XR0 K F' H' x.muP.1 v B ∧ EndR K H A F' H' us x.muP.2 B A'
def NewF (H F F' : Hp) : Prop := ∀ a, H a ≠ none → F a = none → F' a = none
def RetP (K : PySem.W.Frag) (F H : Hp) (A : List Addr) (us : List V) (r : R XV) (Q : VK) (E : XK) : Prop := match r with
  | .stuck => False
  | .ok x => ∀ F' H' v, Ex F F' → Ex F' H' → Ex (minus H A) H' → NewF (minus H A) F F' → RetR K H A F' H' us x v → Q v H'
  | .exc e => ∀ F' H' A' cls d, Ex F F' → Ex F' H' → Ex (minus H A) H' → NewF (minus H A) F F' → EndR K H A F' H' us e.ms [] A' → ExnR K H' e cls d → E cls d H'
def spR (K : PySem.W.Frag) (m : List SV → R XV) : Sp := fun vs H Q E => ∃ ss F A, Ex F (minus H A) ∧ ArgsR K F (minus H A) H ss vs A ∧ A.Nodup ∧ (∀ a ∈ A, ∀ o u, H a ≠ some (.frz o u)) ∧ RetP K F H A (bvs ss vs) (m ss) Q E
/-! ### the check that a piece of the text is a term -/
structure Ck where
  N : List Str
  sc : Scope
  fns : List String
  free : List String
  gi : List (String × Int)
  gs : List (String × Str)
  excs : List String
  xp : List (String × String)
  /-- classes; names that a class has not; their methods; such as are made -/
  cls : List String
  nat : List (String × String)
  mth : List (String × String)
  mks : List String
  /-- defs that tell an item of a tuple -/
  ixf : List (String × Nat)
def visB (sc : Scope) (x : Str) : Bool := match sc.names.lookup x with
  | some .local => true
  | some .cell => true
  | some .free => true
  | _ => false
def glB (sc : Scope) (x : Str) : Bool := match sc.names.lookup x with
  | some .globalImplicit => true
  | _ => false
def BOp.is : BOp → Operator → Bool
  | .add, .Add => true | .sub, .Sub => true | .mul, .Mult => true | .fdiv, .FloorDiv => true | .mod, .Mod => true | .pow, .Pow => true | .shr, .RShift => true
  | _, _ => false
def COp.is : COp → CmpOp → Bool
  | .lt, .Lt => true | .le, .LtE => true | .gt, .Gt => true | .ge, .GtE => true | .eq, .Eq => true | .ne, .NotEq => true | .in_, .In => true | .notIn, .NotIn => true | .is_, .Is => true | .isnt, .IsNot => true
  | _, _ => false
def BOp.py : BOp → Operator
  | .add => .Add | .sub => .Sub | .mul => .Mult | .fdiv => .FloorDiv | .mod => .Mod | .pow => .Pow | .shr => .RShift
theorem BOp.is_eq {o : BOp} {op : Operator} (h : o.is op = true) : op = o.py := by
  cases o <;> cases op <;> first | rfl | cases h
def COp.py : COp → CmpOp
  | .lt => .Lt | .le => .LtE | .gt => .Gt | .ge => .GtE | .eq => .Eq | .ne => .NotEq | .in_ => .In | .notIn => .NotIn | .is_ => .Is | .isnt => .IsNot
theorem COp.is_eq {o : COp} {op : CmpOp} (h : o.is op = true) : op = o.py := by
  cases o <;> cases op <;> first | rfl | cases h
def Blt.nm : Blt → String
  | .len => "len" | .max2 => "max" | .min2 => "min" | .abs => "abs" | .divmod => "divmod" | .int1 => "int" | .max3 => "max" | .list1 => "list"
  | .sum => "sum" | .any => "any" | .all => "all" | .sortI => "sorted" | .sortS => "sorted" | .str1 => "str" | .intS => "int" | .maxL => "max" | .minL => "min"
def SM.nm : SM → String
  | .join => "join" | .split => "split" | .find => "find" | .isdigit => "isdigit" | .partition => "partition" | .startswith => "startswith"
def nameOk (x : Str) : Bool := decide (x ≠ "__debug__") && decide (x ≠ "__classdict__") && decide (x ≠ "__name__")
def plainIx (e : Expr) : Bool := match e with
  | .Slice _ _ _ _ => false
  | _ => true
def notStar (e : Expr) : Bool := match e with
  | .Starred _ _ => false
  | _ => true
def notSet (e : Expr) : Bool := match e with
  | .Set _ _ _ => false
  | _ => true
def locB (sc : Scope) (x : Str) : Bool := match sc.names.lookup x with
  | some .local => true
  | some .cell => true
  | _ => false
/-- a plain local -/
def lclB (sc : Scope) (x : Str) : Bool := match sc.names.lookup x with
  | some .local => true
  | _ => false
mutual
def chkT (N : List Str) (tl : Str → Bool) : Tg → Expr → Bool
  | .n i, ex => match ex with
    | .Name x _ => decide (N[i]? = some x) && tl x
    | _ => false
  | .t ts, ex => match ex with
    | .Tuple xs _ _ => chkTs N tl ts xs
    | _ => false
def chkTs (N : List Str) (tl : Str → Bool) : List Tg → List Expr → Bool
  | [], xs => xs.isEmpty
  | t :: ts, xs => match xs with
    | x :: xs => chkT N tl t x && chkTs N tl ts xs
    | [] => false
end
/-- a block's own names -/
def ownOf (N : List Str) (t : Tg) : List (Str × Nat) := t.slots.map fun i => (N.getD i "", i)
def Ck.blk (k : Ck) (scope : Scope) : Ck := { k with sc := L2.relS scope k.sc }
/-- may stand as a test -/
def tOk : E → Bool
  | .and a b => tOk a && tOk b
  | .or a b => tOk a && tOk b
  | .not a => tOk a
  | .ife _ _ _ => false
  | .fz _ => false
  | .comp _ _ _ _ => false
  | _ => true
/-- no super() ahead of a dot -/
def attOk (e : Expr) : Bool := match e with
  | .Call (.Name _ _) [] [] _ => false
  | _ => true
def clsNames (sc : Scope) : List String → List Expr → Bool
  | [], ys => ys.isEmpty
  | c :: cs, ys => match ys with
    | .Name y _ :: ys => decide (Str.ofString c = y) && glB sc y && nameOk y && clsNames sc cs ys
    | _ => false
mutual
def chkE (k : Ck) : E → Expr → Bool
  | .var i, ex => match ex with
    | .Name x _ => decide (k.N[i]? = some x) && visB k.sc x && nameOk x
    | _ => false
  | .int i, ex => match ex with
    | .Constant (.int j) _ _ => decide (i = j)
    | _ => false
  | .bl b, ex => match ex with
    | .Constant (.bool c) _ _ => b == c
    | _ => false
  | .non, ex => match ex with
    | .Constant .none _ _ => true
    | _ => false
  | .str s, ex => match ex with
    | .Constant (.str t) _ _ => decide (s = t)
    | _ => false
  | .gi x i, ex => match ex with
    | .Name y _ => decide (Str.ofString x = y) && glB k.sc y && nameOk y && k.gi.contains (x, i)
    | _ => false
  | .gs x s, ex => match ex with
    | .Name y _ => decide (Str.ofString x = y) && glB k.sc y && nameOk y && k.gs.contains (x, s)
    | _ => false
  | .bin o a b, ex => match ex with
    | .BinOp l op r _ => o.is op && chkE k a l && chkE k b r
    | _ => false
  | .neg a, ex => match ex with
    | .UnaryOp .USub l _ => chkE k a l
    | _ => false
  | .cmp o a b, ex => match ex with
    | .Compare l [op] [r] _ => o.is op && chkE k a l && chkE k b r && notSet r
    | _ => false
  | .isN a, ex => match ex with
    | .Compare l [.Is] [.Constant .none _ _] _ => chkE k a l
    | _ => false
  | .notN a, ex => match ex with
    | .Compare l [.IsNot] [.Constant .none _ _] _ => chkE k a l
    | _ => false
  | .chn o o' a b c, ex => match ex with
    | .Compare l [op, op'] [r, r'] _ => o.is op && o'.is op' && chkE k a l && chkE k b r && chkE k c r' && notSet r'
    | _ => false
  | .and a b, ex => match ex with
    | .BoolOp .And (l :: r :: rs) _ => chkE k a l && (match rs with
    | [] => chkE k b r
    | _ => chkB k .And b (r :: rs))
    | _ => false
  | .or a b, ex => match ex with
    | .BoolOp .Or (l :: r :: rs) _ => chkE k a l && (match rs with
    | [] => chkE k b r
    | _ => chkB k .Or b (r :: rs))
    | _ => false
  | .not a, ex => match ex with
    | .UnaryOp .Not l _ => chkE k a l
    | _ => false
  | .ife t a b, ex => match ex with
    | .IfExp c l r _ => chkE k t c && chkE k a l && chkE k b r && tOk t
    | _ => false
  | .tup es, ex => match ex with
    | .Tuple xs _ _ => chkEs k es xs
    | _ => false
  | .lst es, ex => match ex with
    | .List xs _ => chkEs k es xs
    | _ => false
  | .sub a i, ex => match ex with
    | .Subscript l r _ => chkE k a l && chkE k i r && plainIx r
    | _ => false
  | .fld c a f, ex => match ex with
    | .Attribute l x _ => decide (Str.ofString f = x) && chkE k a l && k.cls.contains c && k.nat.contains (c, f) && attOk l
    | _ => false
  | .mth c m o es, ex => match ex with
    | .Call (.Attribute l x apos) ls [] cpos => decide (Str.ofString m = x) && chkE k o l && k.cls.contains c && k.mth.contains (c, m) && attOk l && chkEs k es ls && decide (ls.length < 20) && (apos.endLine == cpos.line)
    | _ => false
  | .mk c es, ex => match ex with
    | .Call (.Name x _) ls [] _ => decide (Str.ofString c = x) && glB k.sc x && nameOk x && k.mks.contains c && chkEs k es ls
    | _ => false
  | .dnew, ex => match ex with
    | .Dict [] [] _ => true
    | _ => false
  | .disp ps, ex => match ex with
    | .Dict ks vs _ => decide (ks.length ≠ 0) && decide (ks.length ≤ 15) && chkPs k ps ks vs
    | _ => false
  | .sli a lo hi, ex => match ex with
    | .Subscript l (.Slice x y none _) _ => chkE k a l && chkO k lo x && chkO k hi y
    | _ => false
  | .dgt a q y, ex => match ex with
    | .Call (.Attribute l x apos) [r, t] [] cpos => decide (x = "get") && chkE k a l && chkE k q r && chkE k y t && attOk l && notStar r && notStar t && (apos.endLine == cpos.line)
    | _ => false
  | .dg1 a q, ex => match ex with
    | .Call (.Attribute l x apos) [r] [] cpos => decide (x = "get") && chkE k a l && chkE k q r && attOk l && notStar r && (apos.endLine == cpos.line)
    | _ => false
  | .srt f j a, ex => match ex with
    | .Call (.Name x _) [l] [⟨some kx, .Name y _, _⟩] _ => decide (x = "sorted") && glB k.sc x && k.free.contains "sorted" && decide (kx = "key") && decide (Str.ofString f = y) && glB k.sc y && nameOk y && k.ixf.contains (f, j) && notStar l && chkE k a l
    | _ => false
  | .lrng a b, ex => match ex with
    | .Call (.Name z _) [.Call (.Name x _) [l, r] [] _] [] _ => decide (z = "list") && glB k.sc z && k.free.contains "list" && decide (x = "range") && glB k.sc x && k.free.contains "range" && chkE k a l && chkE k b r && notStar l && notStar r
    | _ => false
  | .sm0 m o, ex => match ex with
    | .Call (.Attribute l x apos) [] [] cpos => decide (m = .isdigit) && decide (Str.ofString m.nm = x) && chkE k o l && attOk l && (apos.endLine == cpos.line)
    | _ => false
  | .sm1 m o e, ex => match ex with
    | .Call (.Attribute l x apos) [r] [] cpos => (decide (m = .join) || decide (m = .split) || decide (m = .find)) && decide (Str.ofString m.nm = x) && chkE k o l && attOk l && chkE k e r && notStar r && (apos.endLine == cpos.line)
    | _ => false
  | .call f es, ex => match ex with
    | .Call (.Name x _) (l :: ls) [] _ => decide (Str.ofString f = x) && glB k.sc x && nameOk x && k.fns.contains f && chkEs k es (l :: ls)
    | _ => false
  | .blt b es, ex => match ex with
    | .Call (.Name x _) (l :: ls) [] _ => decide (Str.ofString b.nm = x) && glB k.sc x && nameOk x && k.free.contains b.nm && chkEs k es (l :: ls)
    | _ => false
  | .fz a, l => chkE k a l
  | .isi t a, ex => match ex with
    | .Call (.Name x _) [l, .Name y _] [] _ => decide (x = "isinstance") && glB k.sc x && k.free.contains "isinstance" && decide (Str.ofString t.nm = y) && glB k.sc y && nameOk y && k.free.contains t.nm && notStar l && chkE k a l
    | _ => false
  | .isx ds cs a, ex => match ex with
    | .Call (.Name x _) [l, .Name y _] [] _ => decide (x = "isinstance") && glB k.sc x && k.free.contains "isinstance" && decide (cs.map Str.ofString = [y]) && glB k.sc y && nameOk y && (ds.all fun d => cs.all fun c => k.xp.contains (d, c)) && notStar l && chkE k a l && (match ds with | [] => false | _ => true)
    | .Call (.Name x _) [l, .Tuple ys _ _] [] _ => decide (x = "isinstance") && glB k.sc x && k.free.contains "isinstance" && clsNames k.sc cs ys && (ds.all fun d => cs.all fun c => k.xp.contains (d, c)) && notStar l && chkE k a l && decide (cs.length ≤ 100) && (match ds with | [] => false | _ => true) && (match cs with | [] => false | _ => true)
    | _ => false
  | .comp elt t it cs, ex => match ex with
    | .ListComp el [⟨tg, iter, ifs, 0⟩] scope _ => chkIt k it tg iter && notSet iter && L2.blkC k.N k.sc scope (ownOf k.N t) && chkT k.N (lclB (k.blk scope).sc) t tg && chkE (k.blk scope) elt el && chkCnd (k.blk scope) cs ifs
    | _ => false
def chkB (k : Ck) (op : BoolOp) : E → List Expr → Bool
  | .and a b, xs => match xs with
    | l :: r :: rs => decide (op = .And) && chkE k a l && (match rs with
      | [] => chkE k b r
      | _ => chkB k op b (r :: rs))
    | _ => false
  | .or a b, xs => match xs with
    | l :: r :: rs => decide (op = .Or) && chkE k a l && (match rs with
      | [] => chkE k b r
      | _ => chkB k op b (r :: rs))
    | _ => false
  | _, _ => false
def chkEs (k : Ck) : Es → List Expr → Bool
  | .nil, xs => xs.isEmpty
  | .cons e es, xs => match xs with
    | x :: xs => chkE k e x && chkEs k es xs && notStar x
    | [] => false
/-- a slice's part -/
def chkO (k : Ck) : Eo → Option Expr → Bool
  | .no, ex => match ex with
    | none => true
    | _ => false
  | .so e, ex => match ex with
    | some x => chkE k e x
    | none => false
def chkPs (k : Ck) : Eps → List (Option Expr) → List Expr → Bool
  | .nil, ks, vs => ks.isEmpty && vs.isEmpty
  | .cons a b r, ks, vs => match ks, vs with
    | some x :: ks, y :: vs => chkE k a x && chkE k b y && chkPs k r ks vs
    | _, _ => false
def chkIt (k : Ck) : It → Expr → Expr → Bool
  | .exp e, _, ex => chkE k e ex
  | .enum a, tg, ex => match tg, ex with
    | .Tuple _ _ _, .Call (.Name x _) [l] [] _ => decide (x = "enumerate") && glB k.sc x && k.free.contains "enumerate" && chkE k a l && notStar l
    | _, _ => false
  | .zip a b, tg, ex => match tg, ex with
    | .Tuple _ _ _, .Call (.Name x _) [l, r] [] _ => decide (x = "zip") && glB k.sc x && k.free.contains "zip" && chkE k a l && chkE k b r && notStar l && notStar r
    | _, _ => false
  | .rng1 a, _, ex => match ex with
    | .Call (.Name x _) [l] [] _ => decide (x = "range") && glB k.sc x && k.free.contains "range" && chkE k a l && notStar l
    | _ => false
  | .rng2 a b, _, ex => match ex with
    | .Call (.Name x _) [l, r] [] _ => decide (x = "range") && glB k.sc x && k.free.contains "range" && chkE k a l && chkE k b r && notStar l && notStar r
    | _ => false
  | .rng3 a b c, _, ex => match ex with
    | .Call (.Name x _) [l, r, t] [] _ => decide (x = "range") && glB k.sc x && k.free.contains "range" && chkE k a l && chkE k b r && chkE k c t && notStar l && notStar r && notStar t
    | _ => false
def chkCnd (k : Ck) : Es → List Expr → Bool
  | .nil, xs => xs.isEmpty
  | .cons e es, xs => match xs with
    | [x] => chkE k e x && tOk e && (match es with | .nil => true | _ => false)
    | _ => false
end
/-- an error class and a class that is asked of it -/
structure XpOk (K : PySem.W.Frag) (mg : Str → Option Value) (d c : String) : Prop where
  ex : ExcC K (He.ga K (Str.ofString d))
  nm : if c = "ValueError" then mg (Str.ofString c) = none else mg (Str.ofString c) = some (.ref (He.ga K (Str.ofString c)))
  ki : PySem.W.kitOne K (.ref (He.ga K (Str.ofString d))) (if c = "ValueError" then .type "ValueError" else .ref (He.ga K (Str.ofString c))) = some (exnIs d c)
  xm : PySem.W.exmOne K (.ref (He.ga K (Str.ofString d))) (if c = "ValueError" then .type "ValueError" else .ref (He.ga K (Str.ofString c))) = some (exnIs d c)
/-- a def with one name that tells the item at a written place -/
structure IxFn (K : PySem.W.Frag) (fa : Addr) (j : Nat) : Prop where
  ex : ∃ (nm qual p : Str) (params : Arguments) (scope : Scope) (fd : FuncData) (p1 p2 p3 p4 : Pos) (jk : Nat),
    FunD K nm qual params [.Return (some (.Subscript (.Name p p1) (.Constant (.int j) jk p2) p3)) p4] scope [] [] fa fd ∧ FnScope [p] [p] scope ∧ scope.names.lookup p = some .local ∧ (∀ x ∈ scope.names, x.2 ≠ .cell) ∧ nameOk p = true ∧ j < 1000 ∧
      ∀ (s : Shared) (u : Value), K.In s.heap → BindsTo s fd ⟨[u], []⟩ [(p, u)]
/-- what the context gives, also where an error is being handled -/
structure CxLo (c : Calls) (k : Nat) (ck : Ck) (X : Cx) : Prop where
  N : X.N = ck.N
  nd : X.N.Nodup
  sc : X.env.scope = ck.sc
  fn : ∀ f, f ∈ ck.fns → ∃ (fa : Addr) (fd : FuncData) (ps : List Str), X.mg (Str.ofString f) = some (.ref fa) ∧ PySem.W.keepIn X.K (.ref fa) = true ∧ Binds X.K fd ps [] ∧ FnOk X.prog X.w X.K X.mg X.base (L2.CX X.prog X.w) k fa fd ps (spR X.K (c f))
  free : ∀ x, x ∈ ck.free → X.mg (Str.ofString x) = none
  gi : ∀ x i, (x, i) ∈ ck.gi → ∃ t, X.mg (Str.ofString x) = some (.int i t)
  gs : ∀ x s, (x, s) ∈ ck.gs → ∃ t, X.mg (Str.ofString x) = some (.str s t)
  exc : ∀ x, x ∈ ck.excs → X.mg (Str.ofString x) = some (.ref (He.ga X.K (Str.ofString x))) ∧ PySem.W.excIn X.K (He.ga X.K (Str.ofString x)) He.veBase "ValueError.__new__" = true ∧ PySem.W.keepIn X.K (.ref (He.ga X.K (Str.ofString x))) = true ∧
    PySem.W.subIn X.K (.ref (He.ga X.K (Str.ofString x))) (.type "BaseException") = some true ∧ PySem.W.typeIn X.K (.ref (He.ga X.K (Str.ofString x))) = some (.type "type")
  xp : ∀ d y, (d, y) ∈ ck.xp → XpOk X.K X.mg d y
  cls : ∀ x, x ∈ ck.cls → Cls X.K (He.ga X.K (Str.ofString x))
  nat : ∀ x f, (x, f) ∈ ck.nat → NoAttr X.K (He.ga X.K (Str.ofString x)) (Str.ofString f)
  mth : ∀ x m, (x, m) ∈ ck.mth → ∃ (fa : Addr) (fd : FuncData) (ps : List Str), Meth X.K (He.ga X.K (Str.ofString x)) (Str.ofString m) fa ∧ Binds X.K fd ps [] ∧ FnOk X.prog X.w X.K X.mg X.base (L2.CX X.prog X.w) k fa fd ps (spR X.K (c (x ++ "." ++ m)))
  mks : ∀ x, x ∈ ck.mks → ∃ (fa : Addr) (fd : FuncData) (ps : List Str), Mk X.K (He.ga X.K (Str.ofString x)) fa ∧ X.mg (Str.ofString x) = some (.ref (He.ga X.K (Str.ofString x))) ∧ Binds X.K fd ps [] ∧ FnOk X.prog X.w X.K X.mg X.base (L2.CX X.prog X.w) k fa fd ps (spR X.K (c (x ++ ".__init__")))
  ixf : ∀ f j, (f, j) ∈ ck.ixf → ∃ fa, X.mg (Str.ofString f) = some (.ref fa) ∧ IxFn X.K fa j
/-- .. where none is -/
structure CxOk (c : Calls) (k : Nat) (ck : Ck) (X : Cx) : Prop extends CxLo c k ck X where
  calm : X.calm = true
  room : Room (k + 1) X.A
theorem nameOk_d {x : Str} (h : nameOk x = true) : (x == ("__debug__" : Str)) = false ∧ (x == ("__classdict__" : Str)) = false ∧ x ≠ "__name__" := by
  unfold nameOk at h
  simp only [Bool.and_eq_true, decide_eq_true_eq] at h
  exact ⟨by simpa using h.1.1, by simpa using h.1.2, h.2⟩
theorem visB_ok {X : Cx} {x : Str} (h : visB X.env.scope x = true) : Vis X.env.scope x := by
  unfold visB at h
  unfold Vis
  split at h <;> first | exact .inl (by assumption) | exact .inr (.inl (by assumption)) | exact .inr (.inr (by assumption)) | cases h
theorem glB_ok {X : Cx} {x : Str} (h : glB X.env.scope x = true) : Gl X x := by
  unfold glB at h
  unfold Gl
  show X.env.scope.names.lookup x = _
  split at h
  · assumption
  · cases h
section
variable {c : Calls} {k : Nat} {ck : Ck} {X : Cx} {Wx : WX} {a b e : Expr} {f g h : Sl → R XV} {pos : Pos}
theorem ok_var (C : CxLo c k ck X) {i : Nat} {x : Str} (hN : ck.N[i]? = some x) (hv : visB ck.sc x = true) (hn : nameOk x = true) : OkE X Wx (.Name x pos) (evE c (.var i)) := by
  intro sl σ A w t
  show PostR _ _ _ _ _ (match sl[i]? with | some s => R.of s.x | none => .stuck) _
  cases hs : sl[i]? with
  | none => trivial
  | some s =>
    obtain ⟨o, B, h1, h2, h3⟩ := t.sl.get hs
    have go : ∀ {v : V} {z : XV}, σ[i]? = some (some v) → XRep X.K (old w) w z v → PostR X.K Wx (fun w' x v => XRep X.K (old w) w' x v) σ w (.ok z) (weE X (.Name x pos) σ w.H) := fun {v z} e r Q q =>
      ⟨_, pe_var (by rw [C.N]; exact hN) (visB_ok (by rw [C.sc]; exact hv)) (nameOk_d hn).1 (nameOk_d hn).2.1, v, e, q w v t.ok (WLe.refl w) r⟩
    cases s with
    | no => trivial
    | cl d => obtain ⟨v, rfl, e2, _⟩ := h2; exact go h1 (XRep.cl e2)
    | lk m => obtain ⟨v, B', rfl, e2, _⟩ := h2; exact go h1 ⟨[], ⟨⟨B', e2⟩, rfl⟩, own_nil, fun a h => absurd h (by simp)⟩
    | ow m => obtain ⟨v, rfl, e2⟩ := h2; exact go h1 ⟨[], ⟨⟨_, e2⟩, rfl⟩, own_nil, fun a h => absurd h (by simp)⟩
    | bo i m => obtain ⟨v, rfl, e0, e2⟩ := h2; exact go h1 ⟨[], ⟨⟨_, e2⟩, rfl⟩, own_nil, fun a h => absurd h (by simp)⟩
theorem ok_const {ex : Expr} {d : D} {u : V} (p : PE X ex (tC u)) (r : ∀ T, Rep X.K T d u) : OkE X Wx ex (fun _ => .ok (.cl d)) := fun sl σ A w t Q q => ⟨_, p, q w u t.ok (WLe.refl w) (XRep.cl (r _))⟩
/-- two values of data, one value out -/
theorem ok_op2 (ha : OkE X Wx a f) (hb : OkE X Wx b g) {ex : Expr} {F : XV → XV → R XV}
    (hp : ∀ x y : XV, (∃ r : R2, (∀ σ H Q, (weE X a σ H fun v H1 => weE X b σ H1 fun u H2 => r v u H2 Q) → weE X ex σ H Q) ∧
      ∀ (w0 w : Wd) (σ : L2.St) (v u : V), WOk w → WLe w0 w → XRep X.K (old w0) w x v → XRep X.K (old w0) w y u → PostR X.K Wx (fun w' x v => XRep X.K (old w0) w' x v) σ w (F x y) (r v u w.H))) :
    OkE X Wx ex (fun sl => (f sl).bind fun x => (g sl).bind fun y => F x y) := by
  intro sl σ A w t
  show PostR _ _ _ _ _ ((f sl).bind fun x => (g sl).bind fun y => F x y) _
  cases hf : f sl with
  | stuck => trivial
  | exc e =>
    obtain ⟨r, h1, _⟩ := hp (.cl .non) (.cl .non)
    have := OkE.bind2 ha hb t (F := fun _ _ => .stuck) (T := weE X ex σ w.H) (h1 σ w.H) (fun _ _ _ _ _ _ _ _ _ _ _ => trivial)
    rw [hf] at this
    exact this
  | ok x =>
    cases hg : g sl with
    | stuck => trivial
    | exc e =>
      obtain ⟨r, h1, _⟩ := hp (.cl .non) (.cl .non)
      have := OkE.bind2 ha hb t (F := fun _ _ => .stuck) (T := weE X ex σ w.H) (h1 σ w.H) (fun _ _ _ _ _ _ _ _ _ _ _ => trivial)
      rw [hf, hg] at this
      exact this
    | ok y =>
      show PostR _ _ _ _ _ (F x y) _
      obtain ⟨r, h1, h2⟩ := hp x y
      have := OkE.bind2 ha hb t (F := F) (T := weE X ex σ w.H) (h1 σ w.H) (fun x' y' w2 v u e1 e2 t2 l r1 r2 => by
        rw [hf] at e1; cases e1
        rw [hg] at e2; cases e2
        exact h2 w w2 σ v u t2.ok l r1 r2)
      rw [hf, hg] at this
      exact this
theorem ok_op1 (ha : OkE X Wx a f) {ex : Expr} {F : XV → R XV}
    (hp : ∀ x : XV, (∃ r : V → Hp → VK → Prop, (∀ σ H Q, (weE X a σ H fun v H1 => r v H1 Q) → weE X ex σ H Q) ∧
      ∀ (w0 w : Wd) (σ : L2.St) (v : V), WOk w → WLe w0 w → XRep X.K (old w0) w x v → PostR X.K Wx (fun w' x v => XRep X.K (old w0) w' x v) σ w (F x) (r v w.H))) :
    OkE X Wx ex (fun sl => (f sl).bind F) := by
  intro sl σ A w t
  show PostR _ _ _ _ _ ((f sl).bind F) _
  cases hf : f sl with
  | stuck => trivial
  | exc e =>
    obtain ⟨r, h1, _⟩ := hp (.cl .non)
    have := OkE.bind1 ha t (F := fun _ => .stuck) (T := weE X ex σ w.H) (h1 σ w.H) (fun _ _ _ _ _ _ _ => trivial)
    rw [hf] at this
    exact this
  | ok x =>
    show PostR _ _ _ _ _ (F x) _
    obtain ⟨r, h1, h2⟩ := hp x
    have := OkE.bind1 ha t (F := F) (T := weE X ex σ w.H) (h1 σ w.H) (fun x' w2 v e1 t2 l r1 => by
      rw [hf] at e1; cases e1
      exact h2 w w2 σ v t2.ok l r1)
    rw [hf] at this
    exact this
theorem PostR.val {w : Wd} {σ : L2.St} {O : Addr → Prop} {d : D} {u : V} {T : VK → Prop} (k : WOk w) (r : Rep X.K w.F d u) (hT : ∀ Q : VK, Q u w.H → T Q) : PostR X.K Wx (fun w' x v => XRep X.K O w' x v) σ w (.ok (.cl d)) T := fun Q q => hT Q (q w u k (WLe.refl w) (XRep.cl r))
theorem PostR.of_none {w : Wd} {σ : L2.St} {α : Type} {rep : Wd → α → V → Prop} {T : VK → Prop} {o : Option α} (h : ∀ z, o = some z → PostR X.K Wx rep σ w (.ok z) T) : PostR X.K Wx rep σ w (R.of o) T := by
  cases o with
  | none => trivial
  | some z => exact h z rfl
/-! ### operators -/
/-- list + list, both as they are read -/
def rCatL (K : PySem.W.Frag) : R2 := fun x y H Q => ∃ l b xs zs, x = .ref l ∧ y = .ref b ∧ SqL K H l xs ∧ SqL K H b zs ∧ xs.length + zs.length ≤ sizeLine ∧ ∀ p, H p = none → Q (.ref p) (upd H p (.lst (xs ++ zs)))
theorem op_catL : OpR X (binaryOp .Add) (rCatL X.K) := by
  intro pins s σ H x y v u Q I rx ry h
  obtain ⟨l, b, xs, zs, rfl, rfl, hH, hB, hz, q⟩ := h
  cases rx
  cases ry
  obtain ⟨its, r, hl, hs⟩ := I.list hH
  obtain ⟨its2, r2, hl2, hs2⟩ := I.list hB
  obtain ⟨⟨cls, dd, data, sl⟩, n, ho, hc, hd, he⟩ := hl
  obtain ⟨⟨cls2, dd2, data2, sl2⟩, n2, ho2, hc2, hd2, he2⟩ := hl2
  simp only at hc he hc2 he2
  subst hc he hc2 he2
  have e : its.toArray ++ its2.toArray = (its ++ its2).toArray := by simp
  have hl1 := r.length
  have hl2 := r2.length
  refine concat_meets ⟨_, ho, rfl⟩ ⟨_, ho2, rfl⟩ noFill_list_add seq_list_add PySem.F.slot_list_add PySem.F.entry_list_add (PySem.F.args_list_add_2 _ _) (list_addW l b its.toArray its2.toArray n n2 dd dd2 sl sl2 (by simp only [List.size_toArray]; omega)) ⟨ho, ho2, ?_⟩
  rw [e]
  exact ⟨.ref _, _, I.lnew (t' := s.toks) (r.append r2) (by rw [List.length_append]; omega), rfl, q _ I.fresh⟩
/-- a new list of data -/
theorem lst_new {O : Addr → Prop} {w : Wd} {ds : List D} {vs : List V} {p : Addr} (k : WOk w) (np : w.H p = none) (nO : ∀ p, w.H p = none → ¬ O p) (r : RepL X.K w.F ds vs) : XRep X.K O (w.own p (.lst vs)) (.nw (.lst (ds.map .cl))) (.ref p) :=
  ⟨[p], ⟨p, vs, [], rfl, .inl upd_same, ORepL.of r, rfl⟩, by
    refine ⟨by simp, fun a ha => ?_⟩
    obtain rfl := List.mem_singleton.mp ha
    exact ⟨k.gh.free np, fun o' u q => by
      have q' : upd w.H a _ a = some (.frz o' u) := q
      rw [upd_same] at q'; cases q'⟩, fun a ha => by
    obtain rfl := List.mem_singleton.mp ha
    exact nO _ np⟩
theorem PostR.newl {O : Addr → Prop} {w : Wd} {σ : L2.St} {ds : List D} {vs : List V} {T : VK → Prop} (k : WOk w) (nO : ∀ p, w.H p = none → ¬ O p) (r : RepL X.K w.F ds vs) (hT : ∀ Q : VK, (∀ p, w.H p = none → Q (.ref p) (upd w.H p (.lst vs))) → T Q) :
    PostR X.K Wx (fun w' x v => XRep X.K O w' x v) σ w (.ok (.nw (.lst (ds.map .cl)))) T := fun Q q =>
  hT Q fun p np => q (w.own p (.lst vs)) (.ref p) (Wd.own_ok k np) (Wd.own_le np) (lst_new k np nO r)
theorem rep_fold (a : Array Nat) : ∀ (k : Nat) (acc : Array Nat), ((List.replicate k a).foldl (· ++ ·) acc).toList = acc.toList ++ (List.replicate k a.toList).flatten
  | 0, acc => by simp
  | k + 1, acc => by
    rw [List.replicate_succ, List.foldl_cons, rep_fold a k, List.replicate_succ, List.flatten_cons, Array.toList_append, List.append_assoc]
theorem op_repS : OpR X (binaryOp .Mult) (fun x y H Q => ∃ s n, x = .str s ∧ y = .int n ∧ (2 ≤ n ∧ n ≤ 1000 ∧ s.length ≠ 0 ∧ s.length ≤ 1000) ∧ Q (.str (repS s n.toNat)) H) := by
  intro pins s σ H x y v u Q I rx ry h
  obtain ⟨a, n, rfl, rfl, ⟨n0, n1, z0, z1⟩, q⟩ := h
  obtain ⟨t, rfl⟩ := rx
  obtain ⟨t', rfl⟩ := ry
  have c0 : ¬ n < 1 := by omega
  have c1 : ¬ (n == 1 || a.length == 0) = true := by
    simp only [Bool.or_eq_true, beq_iff_eq]
    omega
  have e : (⟨(List.replicate n.toNat a.cps).foldl (· ++ ·) #[]⟩ : Str) = repS a n.toNat := by
    unfold repS
    congr 1
    apply Array.ext'
    rw [rep_fold]
    simp
  have le : (repS a n.toNat).length ≤ 1000 * 1000 := by
    show (repS a n.toNat).cps.size ≤ _
    unfold repS
    simp only [List.size_toArray, List.length_flatten, List.map_replicate, List.sum_replicate_nat, Array.length_toList]
    have : a.cps.size ≤ 1000 := z1
    exact Nat.mul_le_mul (by omega) this
  have big : a.length * n.toNat ≤ 1000 * 1000 := Nat.mul_le_mul z1 (by omega)
  refine PySem.P.mul_str ?_ (fun _ _ => ?_) (fun _ _ => ?_) ?_
  · rw [decide_eq_false (by omega), decide_eq_false (by omega)]; rfl
  · have : (1000 : Int) ≤ (2 ^ 63 - 1) / n := by
      rw [Int.le_ediv_iff_mul_le (by omega)]
      omega
    omega
  · simp [Builtin.Str.tooLong, sizeLine]
    omega
  · rw [if_neg c0, if_neg c1, e]
    exact ⟨Nat.le_trans le (by decide), .str (repS a n.toNat), H, I.tok _, ⟨_, rfl⟩, q⟩
theorem RepL.rep {K : PySem.W.Frag} {T : Hp} {ds : List D} {vs : List V} (h : RepL K T ds vs) : ∀ n : Nat, RepL K T (List.replicate n ds).flatten (List.replicate n vs).flatten
  | 0 => rfl
  | n + 1 => by
    rw [List.replicate_succ, List.replicate_succ, List.flatten_cons, List.flatten_cons]
    exact h.append (RepL.rep h n)
theorem own_lst {K : PySem.W.Frag} {O : Addr → Prop} {w : Wd} {ds : List D} {v : V} (h : XRep K O w (.nw (.lst (ds.map .cl))) v) : ∃ a vs, v = .ref a ∧ w.H a = some (.lst vs) ∧ RepL K w.F ds vs := by
  obtain ⟨B, r1, ow, _⟩ := h
  obtain ⟨a, vs, B', rfl, e2, e3, rfl⟩ := (ORep.nod (m := .lst (ds.map .cl)) rfl).mp r1
  have nf := (ow.no a List.mem_cons_self).2
  refine ⟨a, vs, rfl, ?_, repL_of (by rw [← e3.length, List.length_map]) fun i d hi => by
    obtain ⟨u, B2, g1, g2, _⟩ := e3.get (i := i) (m := .cl d) (by rw [List.getElem?_map, hi]; rfl)
    exact ⟨u, g1, g2.1⟩⟩
  rcases e2 with q | ⟨o, q⟩
  · exact q
  · exact absurd q (nf o _)
theorem bop_any (o : BOp) : ∃ r : R2, OpR X (binaryOp o.py) r := by
  cases o
  · exact ⟨_, op_add⟩
  · exact ⟨_, op_sub⟩
  · exact ⟨_, op_mulW⟩
  · exact ⟨_, op_fdivW⟩
  · exact ⟨_, op_mod⟩
  · exact ⟨_, op_pow⟩
  · exact ⟨_, op_shr⟩
theorem bop_rule (o : BOp) {op : Operator} (h : o.is op = true) (x y : XV) : ∃ r : R2, OpR X (binaryOp op) r ∧ ∀ (O : Addr → Prop) (w : Wd) (σ : L2.St) (v u : V), WOk w → (∀ p, w.H p = none → ¬ O p) → XRep X.K O w x v → XRep X.K O w y u →
    PostR X.K Wx (fun w' x v => XRep X.K O w' x v) σ w (bopF o x y) (r v u w.H) := by
  obtain rfl := BOp.is_eq h
  by_cases hi : ∃ i j, x = .cl (.int i) ∧ y = .cl (.int j)
  · obtain ⟨i, j, rfl, rfl⟩ := hi
    have onI : ∀ {C : Int → Int → Prop} {gg : Int → Int → Int}, (∀ z, bopI o i j = some z → C i j ∧ z = .int (gg i j)) → OpR X (binaryOp o.py) (rI C fun i j => .int (gg i j)) →
        ∃ r : R2, OpR X (binaryOp o.py) r ∧ ∀ (O : Addr → Prop) (w : Wd) (σ : L2.St) (v u : V), WOk w → (∀ p, w.H p = none → ¬ O p) → XRep X.K O w (.cl (.int i)) v → XRep X.K O w (.cl (.int j)) u →
          PostR X.K Wx (fun w' x v => XRep X.K O w' x v) σ w (bopF o (.cl (.int i)) (.cl (.int j))) (r v u w.H) := fun {C gg} hz hr => ⟨_, hr, fun O w σ v u k nO rx ry => PostR.of_none fun z hb => by
      cases q : bopI o i j with
      | none => simp only [bop, q] at hb; cases hb
      | some z' =>
        simp only [bop, q] at hb
        cases hb
        obtain ⟨h1, h2⟩ := hz z' q
        subst h2
        exact PostR.val (u := .int (gg i j)) k rfl fun Q qq => ⟨i, j, rx.cl_of, ry.cl_of, h1, qq⟩⟩
    cases o
    · exact ⟨_, op_add, fun O w σ v u k nO rx ry => PostR.val (u := .int (i + j)) k rfl fun Q qq => ⟨i, j, rx.cl_of, ry.cl_of, qq⟩⟩
    · exact ⟨_, op_sub, fun O w σ v u k nO rx ry => PostR.val (u := .int (i - j)) k rfl fun Q qq => ⟨i, j, rx.cl_of, ry.cl_of, qq⟩⟩
    · refine onI (C := CMulW) (gg := fun i j => i * j) (fun z hz => ?_) op_mulW
      simp only [bopI] at hz
      split at hz
      · rename_i q; cases hz; exact ⟨q, rfl⟩
      · cases hz
    · refine onI (C := CDivW) (gg := fun i j => i / j) (fun z hz => ?_) op_fdivW
      simp only [bopI] at hz
      split at hz
      · rename_i q; cases hz; exact ⟨⟨q.1, q.2⟩, rfl⟩
      · cases hz
    · refine onI (C := fun _ j => 0 < j) (gg := fun i j => i % j) (fun z hz => ?_) op_mod
      simp only [bopI] at hz
      split at hz
      · rename_i q; cases hz; exact ⟨q, rfl⟩
      · cases hz
    · refine onI (C := CPow) (gg := fun i j => i ^ j.toNat) (fun z hz => ?_) op_pow
      simp only [bopI] at hz
      split at hz
      · rename_i q; cases hz; exact ⟨q, rfl⟩
      · cases hz
    · refine onI (C := fun _ j => 0 ≤ j) (gg := fun i j => i / 2 ^ j.toNat) (fun z hz => ?_) op_shr
      simp only [bopI] at hz
      split at hz
      · rename_i q; cases hz; exact ⟨q, rfl⟩
      · cases hz
  by_cases hs : ∃ s t, x = .cl (.str s) ∧ y = .cl (.str t)
  · obtain ⟨s, t, rfl, rfl⟩ := hs
    by_cases ho : o = .add
    · subst ho
      refine ⟨_, op_add_str, fun O w σ v u k nO rx ry => PostR.of_none fun z hb => ?_⟩
      simp only [bop] at hb
      split at hb
      · rename_i hc
        cases hb
        exact PostR.val (u := .str (s ++ t)) k rfl fun Q qq => ⟨s, t, rx.cl_of, ry.cl_of, hc.2, qq⟩
      · cases hb
    · have : ∃ r : R2, OpR X (binaryOp o.py) r := by
        exact bop_any o
      obtain ⟨r, hr⟩ := this
      refine ⟨r, hr, fun O w σ v u k nO rx ry => PostR.of_none fun z hb => ?_⟩
      simp only [bop, ho, false_and, if_false] at hb
      cases hb
  by_cases hm : ∃ s n, x = .cl (.str s) ∧ y = .cl (.int n)
  · obtain ⟨s, n, rfl, rfl⟩ := hm
    by_cases ho : o = .mul
    · subst ho
      refine ⟨_, op_repS, fun O w σ v u k nO rx ry => PostR.of_none fun z hb => ?_⟩
      simp only [bop] at hb
      split at hb
      · rename_i hc
        cases hb
        exact PostR.val (u := .str (repS s n.toNat)) k rfl fun Q qq => ⟨s, n, rx.cl_of, ry.cl_of, hc.2, qq⟩
      · cases hb
    · obtain ⟨r, hr⟩ := bop_any (X := X) o
      refine ⟨r, hr, fun O w σ v u k nO rx ry => PostR.of_none fun z hb => ?_⟩
      simp only [bop, ho, false_and, if_false] at hb
      cases hb
  by_cases hr : ∃ ms n, x = .nw (.lst ms) ∧ y = .cl (.int n)
  · obtain ⟨ms, n, rfl, rfl⟩ := hr
    have e : bopF o (.nw (.lst ms)) (.cl (.int n)) = repL o ms n := rfl
    rw [e]
    unfold repL
    cases hms : clM ms with
    | none =>
      obtain ⟨r, hr⟩ := bop_any (X := X) o
      exact ⟨r, hr, fun O w σ v u k nO rx ry => trivial⟩
    | some ds =>
      obtain rfl := clM_map hms
      simp only
      by_cases hc : o = .mul ∧ (0 ≤ n ∧ n ≤ 1000 ∧ ds.length ≤ 1000)
      · rw [if_pos hc]
        obtain ⟨rfl, n0, n1, n2⟩ := hc
        refine ⟨_, op_rep, fun O w σ v u k nO rx ry => ?_⟩
        obtain ⟨a, vs, rfl, h2, h3⟩ := own_lst rx
        refine PostR.newl k nO (h3.rep n.toNat) fun Q q => ⟨a, n, vs, rfl, ry.cl_of, h2, by omega, by omega, ?_, q⟩
        have : vs.length ≤ 1000 := by rw [← h3.length]; exact n2
        have : vs.length * n.toNat ≤ 1000 * 1000 := Nat.mul_le_mul this (by omega)
        exact Nat.le_trans this (by decide)
      · rw [if_neg hc]
        obtain ⟨r, hr⟩ := bop_any (X := X) o
        exact ⟨r, hr, fun O w σ v u k nO rx ry => trivial⟩
  have hcat : bopF o x y = catF o x y := by
    unfold bopF
    split
    · exact absurd ⟨_, _, rfl, rfl⟩ hi
    · exact absurd ⟨_, _, rfl, rfl⟩ hs
    · exact absurd ⟨_, _, rfl, rfl⟩ hm
    · exact absurd ⟨_, _, rfl, rfl⟩ hr
    · rfl
  rw [hcat]
  by_cases ho : o = .add
  · subst ho
    refine ⟨_, op_catL, fun O w σ v u k nO rx ry => ?_⟩
    unfold catF
    split
    · rename_i ds es hd he
      split
      · rename_i hc
        obtain ⟨a, vs, rfl, e2, e3⟩ := rx.rd.ldsR k hd
        obtain ⟨b, us, rfl, e5, e6⟩ := ry.rd.ldsR k he
        exact PostR.newl k nO (e3.append e6) fun Q q => ⟨a, b, vs, us, rfl, rfl, e2, e5, by rw [← e3.length, ← e6.length]; exact hc.2, q⟩
      · trivial
    · trivial
  · have : ∃ r : R2, OpR X (binaryOp o.py) r := by
      exact bop_any o
    obtain ⟨r, hr⟩ := this
    refine ⟨r, hr, fun O w σ v u k nO rx ry => ?_⟩
    unfold catF
    split
    · split
      · rename_i hc; exact absurd hc.1 ho
      · trivial
    · trivial
theorem ok_bin {o : BOp} {op : Operator} (ho : o.is op = true) (ha : OkE X Wx a f) (hb : OkE X Wx b g) :
    OkE X Wx (.BinOp a op b pos) (fun sl => (f sl).bind fun x => (g sl).bind fun y => bopF o x y) :=
  ok_op2 ha hb fun x y => by
    obtain ⟨r, h1, h2⟩ := bop_rule (X := X) (Wx := Wx) o ho x y
    exact ⟨r, fun σ H Q q => ⟨_, pe_op h1 pe_we pe_we, q⟩, fun w0 w σ v u k l rx ry => h2 _ w σ v u k (fun p np o => o (l.h.free np)) rx ry⟩
theorem ok_neg (ha : OkE X Wx a f) : OkE X Wx (.UnaryOp .USub a pos) (fun sl => (f sl).bind negF) :=
  ok_op1 ha fun x => ⟨_, fun σ H Q q => ⟨_, pe_un un_neg pe_we, q⟩, fun w0 w σ v k l rx => by
    cases x with
    | cl d =>
      cases d with
      | int i => exact PostR.val (u := .int (-i)) k rfl fun Q q => ⟨i, rx.cl_of, q⟩
      | _ => trivial
    | _ => trivial⟩
/-! ### comparisons -/
/-- k in d, of a dict -/
def rInDic (neg : Bool) : R2 := fun y x H Q => ∃ a ov, x = .ref a ∧ DGet H a y ov ∧ Q (.bl (if neg then !ov.isSome else ov.isSome)) H
theorem op_in_dic (hu : X.A.units + 1 < cLine) : OpR X (compareOp .In) (rInDic false) := by
  intro pins s σ H x y v u Q I rx ry h
  obtain ⟨a, ov, rfl, g, q⟩ := h
  obtain rfl : u = Value.ref a := ry
  exact d_in hu I g rx fun s3 I3 => ⟨.bl ov.isSome, H, I3, rfl, q⟩
theorem op_notIn_dic (hu : X.A.units + 1 < cLine) : OpR X (compareOp .NotIn) (rInDic true) := by
  intro pins s σ H x y v u Q I rx ry h
  obtain ⟨a, ov, rfl, g, q⟩ := h
  obtain rfl : u = Value.ref a := ry
  exact d_notIn hu I g rx fun s3 I3 => ⟨.bl (!ov.isSome), H, I3, rfl, q⟩
theorem eqK_keyD : ∀ {k k' : Key}, eqK (keyD k) (keyD k') = decide (k = k')
  | .inl i, .inl j => by simp [keyD, eqK]
  | .inr i, .inr j => by simp [keyD, eqK]
  | .inl i, .inr j => by simp [keyD, eqK]
  | .inr i, .inl j => by simp [keyD, eqK]
theorem isK_key {d : D} (h : isK d = true) : ∃ k : Key, d = keyD k := by
  cases d with
  | int i => exact ⟨.inl i, rfl⟩
  | str s => exact ⟨.inr s, rfl⟩
  | _ => cases h
theorem dfind_get (k : Key) : ∀ kvs : List (Key × V), valV kvs k = (dfind (kvs.map fun p => keyD p.1) (keyD k)).bind fun j => (kvs.map (·.2))[j]?
  | [] => rfl
  | p :: r => by
    have ih := dfind_get k r
    unfold dfind at ih ⊢
    rw [List.map_cons, List.findIdx?_cons, eqK_keyD]
    by_cases e : p.1 = k
    · rw [valV_pos e]; simp [e]
    · rw [valV_neg e, ih]
      simp only [e, decide_false, Bool.false_eq_true, if_false]
      cases List.findIdx? (eqK · (keyD k)) (r.map fun p => keyD p.1) <;> rfl
theorem dfind_lt {ks : List D} {k : D} {j : Nat} (h : dfind ks k = some j) : j < ks.length := by
  unfold dfind at h
  exact (List.findIdx?_eq_some_iff_findIdx_eq.mp h).1
theorem rep_key {K : PySem.W.Frag} {T : Hp} {k : Key} {v : V} (h : Rep K T (keyD k) v) : v = kV k := by
  cases k <;> exact h
/-- what d[k] gives -/
theorem DicR.get {H : Hp} {a : Addr} {ks : List D} {vs : List V} (h : DicR H a ks vs) {K : PySem.W.Frag} {T : Hp} {d : D} {v : V} (hk : isK d = true) (r : Rep K T d v) : DGet H a v ((dfind ks d).bind fun j => vs[j]?) := by
  obtain ⟨kvs, h1, h2, h3, _⟩ := h
  obtain ⟨k, rfl⟩ := isK_key hk
  subst h2 h3
  exact .inl ⟨kvs, k, h1, rep_key r, (dfind_get k kvs).symm⟩
theorem DicR.some {H : Hp} {a : Addr} {ks : List D} {vs : List V} (h : DicR H a ks vs) (d : D) : ((dfind ks d).bind fun j => vs[j]?).isSome = (dfind ks d).isSome := by
  cases hj : dfind ks d with
  | none => rfl
  | some j =>
    have := dfind_lt hj
    rw [h.len] at this
    simp [this]
theorem cop_rule (C : CxOk c k ck X) (o : COp) {op : CmpOp} (h : o.is op = true) (d e : D) : ∃ r : R2, OpR X (compareOp op) r ∧ ∀ (H : Hp) (v u : V) (q : Bool), Rep X.K H d v → Rep X.K H e u → cop o d e = some q → ∀ Q : VK, Q (.bl q) H → r v u H Q := by
  obtain rfl := COp.is_eq h
  have hu := C.room.units
  have hu1 : X.A.units + 1 < cLine := by omega
  have ii : ∀ {p : Int → Int → Bool}, OpR X (compareOp o.py) (rI0 fun i j => .bl (p i j)) → (∀ q, cop o d e = some q → ∃ i j, d = .int i ∧ e = .int j ∧ q = p i j) →
      ∃ r : R2, OpR X (compareOp o.py) r ∧ ∀ (H : Hp) (v u : V) (q : Bool), Rep X.K H d v → Rep X.K H e u → cop o d e = some q → ∀ Q : VK, Q (.bl q) H → r v u H Q := fun {p} h1 h2 =>
    ⟨_, h1, fun H v u q rd re hq Q qq => by
      obtain ⟨i, j, rfl, rfl, rfl⟩ := h2 q hq
      exact ⟨i, j, rd, re, qq⟩⟩
  have i2 : ∀ {o' : COp} {p : Int → Int → Bool}, (∀ d e, cop o' d e = match d, e with | .int i, .int j => copI o' i j | _, _ => none) → (∀ i j, copI o' i j = some (p i j)) → ∀ q, cop o' d e = some q → ∃ i j, d = .int i ∧ e = .int j ∧ q = p i j := fun {o' p} h0 h1 q hq => by
    rw [h0] at hq
    split at hq
    · rw [h1] at hq; cases hq; exact ⟨_, _, rfl, rfl, rfl⟩
    · cases hq
  have seq : ∀ {neg : Bool} {H : Hp} {ds : List D} {v u : V} {q : Bool} {Q : VK}, (Rep X.K H d v) → (∃ a vs, u = .ref a ∧ (SqL X.K H a vs ∨ SqT X.K H a vs) ∧ RepL X.K H ds vs) → inD d ds = some q → Q (.bl (if neg then !q else q)) H → rIn X.K neg v u H Q := fun {neg H ds v u q Q} rd re hq qq => by
    obtain ⟨a, vs, rfl, e2, e3⟩ := re
    unfold inD at hq
    cases h1 : d.sc with
    | none => rw [h1] at hq; cases hq
    | some x =>
      cases h2 : scL ds with
      | none => rw [h1, h2] at hq; cases hq
      | some xs =>
        rw [h1, h2] at hq
        cases hq
        obtain ⟨h3, h4⟩ := repL_sc e3 h2
        subst h3
        rw [rep_sc rd h1]
        exact ⟨a, vs, rfl, e2, sc_flat h1, h4, qq⟩
  cases o
  · exact ii op_lt (i2 (fun d e => by cases d <;> cases e <;> rfl) fun _ _ => rfl)
  · exact ii op_le (i2 (fun d e => by cases d <;> cases e <;> rfl) fun _ _ => rfl)
  · exact ii op_gt (i2 (fun d e => by cases d <;> cases e <;> rfl) fun _ _ => rfl)
  · exact ii op_ge (i2 (fun d e => by cases d <;> cases e <;> rfl) fun _ _ => rfl)
  · refine ⟨_, op_eqD hu, fun H v u q rd re hq Q qq => ?_⟩
    simp only [cop, eqD] at hq
    split at hq
    · rename_i p p' hp hp'
      split at hq
      · rename_i hs
        cases hq
        exact ⟨p, p', rep_py rd hp, rep_py re hp', hs.1, hs.2, qq⟩
      · cases hq
    · cases hq
  · refine ⟨_, op_neD hu, fun H v u q rd re hq Q qq => ?_⟩
    simp only [cop, eqD] at hq
    split at hq
    · rename_i p p' hp hp'
      split at hq
      · rename_i hs
        cases hq
        exact ⟨p, p', rep_py rd hp, rep_py re hp', hs.1, hs.2, qq⟩
      · cases hq
    · cases hq
  · have sq : (∀ t, e ≠ .str t) → (∀ ks ds, e ≠ .dct ks ds) → ∃ r : R2, OpR X (compareOp COp.in_.py) r ∧ ∀ (H : Hp) (v u : V) (q : Bool), Rep X.K H d v → Rep X.K H e u → cop .in_ d e = some q → ∀ Q : VK, Q (.bl q) H → r v u H Q := fun n1 n2 => ⟨_, op_in_seq, fun H v u q rd re hq Q qq => by
      cases e with
      | lst ds => obtain ⟨a, vs, e1, e2, e3⟩ := re; exact seq rd ⟨a, vs, e1, .inl e2, e3⟩ hq qq
      | tup ds => obtain ⟨a, vs, e1, e2, e3⟩ := re; exact seq rd ⟨a, vs, e1, .inr e2, e3⟩ hq qq
      | str t => exact absurd rfl (n1 t)
      | dct ks ds => exact absurd rfl (n2 ks ds)
      | _ => cases hq⟩
    cases e with
    | str t =>
      refine ⟨_, op_in_str, fun H v u q rd re hq Q qq => ?_⟩
      cases d with
      | str s => cases hq; exact ⟨s, t, rd, re, qq⟩
      | _ => cases hq
    | dct ks ds =>
      refine ⟨_, op_in_dic hu1, fun H v u q rd re hq Q qq => ?_⟩
      simp only [cop] at hq
      split at hq
      · rename_i hk
        cases hq
        obtain ⟨a, vs, e1, e2, e3⟩ := re
        refine ⟨a, _, e1, e2.get hk rd, ?_⟩
        simp only [Bool.false_eq_true, if_false]
        rw [e2.some]; exact qq
      · cases hq
    | _ => exact sq (by intro _ z; cases z) (by intro _ _ z; cases z)
  · have sq : (∀ t, e ≠ .str t) → (∀ ks ds, e ≠ .dct ks ds) → ∃ r : R2, OpR X (compareOp COp.notIn.py) r ∧ ∀ (H : Hp) (v u : V) (q : Bool), Rep X.K H d v → Rep X.K H e u → cop .notIn d e = some q → ∀ Q : VK, Q (.bl q) H → r v u H Q := fun n1 n2 => ⟨_, op_notIn_seq, fun H v u q rd re hq Q qq => by
      cases e with
      | lst ds =>
        obtain ⟨a, vs, e1, e2, e3⟩ := re
        simp only [cop] at hq
        cases h3 : inD d ds with
        | none => rw [h3] at hq; cases hq
        | some q' => rw [h3] at hq; cases hq; exact seq rd ⟨a, vs, e1, .inl e2, e3⟩ h3 qq
      | tup ds =>
        obtain ⟨a, vs, e1, e2, e3⟩ := re
        simp only [cop] at hq
        cases h3 : inD d ds with
        | none => rw [h3] at hq; cases hq
        | some q' => rw [h3] at hq; cases hq; exact seq rd ⟨a, vs, e1, .inr e2, e3⟩ h3 qq
      | str t => exact absurd rfl (n1 t)
      | dct ks ds => exact absurd rfl (n2 ks ds)
      | _ => cases hq⟩
    cases e with
    | str t =>
      refine ⟨_, op_notIn_str, fun H v u q rd re hq Q qq => ?_⟩
      cases d with
      | str s => cases hq; exact ⟨s, t, rd, re, qq⟩
      | _ => cases hq
    | dct ks ds =>
      refine ⟨_, op_notIn_dic hu1, fun H v u q rd re hq Q qq => ?_⟩
      simp only [cop] at hq
      split at hq
      · rename_i hk
        cases hq
        obtain ⟨a, vs, e1, e2, e3⟩ := re
        refine ⟨a, _, e1, e2.get hk rd, ?_⟩
        simp only [if_true]
        rw [e2.some]
        have en : (!(dfind ks d).isSome) = (dfind ks d).isNone := by cases dfind ks d <;> rfl
        rw [en]; exact qq
      · cases hq
    | _ => exact sq (by intro _ z; cases z) (by intro _ _ z; cases z)
  · refine ⟨_, op_is_bl, fun H v u q rd re hq Q qq => ?_⟩
    simp only [cop] at hq
    split at hq
    · cases hq
      exact ⟨_, _, rd, re, qq⟩
    · cases hq
  · refine ⟨_, op_isnot_bl, fun H v u q rd re hq Q qq => ?_⟩
    simp only [cop] at hq
    split at hq
    · cases hq
      exact ⟨_, _, rd, re, qq⟩
    · cases hq
theorem mark_of {op : CmpOp} {b : Expr} (h : notSet b = true) : behindInMarks op b = false := by
  cases b <;> first | rfl | (cases h; done)
theorem cmp_post (C : CxOk c k ck X) (o : COp) {op : CmpOp} (ho : o.is op = true) (x y : XV) : ∃ r : R2, OpR X (compareOp op) r ∧ ∀ (O : Addr → Prop) (w : Wd) (σ : L2.St) (v u : V), WOk w → XRep X.K O w x v → XRep X.K O w y u → ∀ q d e, x.d = some d → y.d = some e → cop o d e = some q → ∀ Q : VK, Q (.bl q) w.H → r v u w.H Q := by
  cases hx : x.d with
  | none => 
    obtain ⟨r, h1, _⟩ := cop_rule C o ho .non .non
    exact ⟨r, h1, fun O w σ v u k rx ry q d e h => nomatch h⟩
  | some d =>
    cases hy : y.d with
    | none =>
      obtain ⟨r, h1, _⟩ := cop_rule C o ho .non .non
      exact ⟨r, h1, fun O w σ v u k rx ry q d e _ h => nomatch h⟩
    | some e =>
      obtain ⟨r, h1, h2⟩ := cop_rule C o ho d e
      refine ⟨r, h1, fun O w σ v u k rx ry q d' e' hd he hq Q qq => ?_⟩
      cases hd; cases he
      exact h2 w.H v u q (rx.dat k hx) (ry.dat k hy) hq Q qq
theorem cmpF_ok {o : COp} {x y z : XV} (h : cmpF o x y = .ok z) : ∃ d e q, x.d = some d ∧ y.d = some e ∧ cop o d e = some q ∧ z = .cl (.bl q) := by
  unfold cmpF at h
  split at h
  · rename_i d e h1 h2
    cases h3 : cop o d e with
    | none => rw [h3] at h; cases h
    | some q => rw [h3] at h; cases h; exact ⟨d, e, q, h1, h2, h3, rfl⟩
  · cases h
theorem cmpF_exc {o : COp} {x y : XV} {e : Exn} : cmpF o x y ≠ .exc e := by
  unfold cmpF
  split
  · rename_i d e' h1 h2
    cases h3 : cop o d e' <;> simp
  · simp
theorem ok_cmp (C : CxOk c k ck X) {o : COp} {op : CmpOp} (ho : o.is op = true) (hm : notSet b = true) (ha : OkE X Wx a f) (hb : OkE X Wx b g) :
    OkE X Wx (.Compare a [op] [b] pos) (fun sl => (f sl).bind fun x => (g sl).bind fun y => cmpF o x y) :=
  ok_op2 ha hb fun x y => by
    obtain ⟨r, h1, h2⟩ := cmp_post C o ho x y
    refine ⟨r, fun σ H Q q => ⟨_, pe_cmpR h1 pe_we pe_we (mark_of hm), q⟩, fun w0 w σ v u k l rx ry => ?_⟩
    cases hc : cmpF o x y with
    | stuck => trivial
    | exc e => exact absurd hc cmpF_exc
    | ok z =>
      obtain ⟨d, e, q, e1, e2, e3, rfl⟩ := cmpF_ok hc
      exact PostR.val (u := .bl q) k rfl fun Q qq => h2 _ w σ v u k rx ry q d e e1 e2 e3 Q qq
theorem okT_cmp (C : CxOk c k ck X) {o : COp} {op : CmpOp} (ho : o.is op = true) (hm : notSet b = true) (ha : OkE X Wx a f) (hb : OkE X Wx b g) :
    OkT X Wx (.Compare a [op] [b] pos) (fun sl => (f sl).bind fun x => (g sl).bind fun y => cmpF o x y) := by
  intro sl σ A w t
  show PostR _ _ _ _ _ (tst ((f sl).bind fun x => (g sl).bind fun y => cmpF o x y)) _
  cases hf : f sl with
  | stuck => trivial
  | exc e =>
    obtain ⟨r, h1, _⟩ := cmp_post C o ho (.cl .non) (.cl .non)
    have q := ha sl σ A w t
    rw [hf] at q
    exact fun Q qq => ⟨_, pt_cmpR h1 pe_we pe_we (mark_of hm), q _ qq⟩
  | ok x =>
    have qa := ha sl σ A w t
    rw [hf] at qa
    cases hg : g sl with
    | stuck => trivial
    | exc e =>
      obtain ⟨r, h1, _⟩ := cmp_post C o ho (.cl .non) (.cl .non)
      refine fun Q qq => ⟨_, pt_cmpR h1 pe_we pe_we (mark_of hm), qa _ fun w1 v k1 l1 r1 => ?_⟩
      have qb := hb sl σ A w1 (t.mono l1 k1)
      rw [hg] at qb
      exact qb _ fun w' cls d k' l' => qq w' cls d k' (l1.trans l')
    | ok y =>
      obtain ⟨r, h1, h2⟩ := cmp_post C o ho x y
      show PostR _ _ _ _ _ (tst (cmpF o x y)) _
      cases hc : cmpF o x y with
      | stuck => trivial
      | exc e => exact absurd hc cmpF_exc
      | ok z =>
        obtain ⟨d, e, q, e1, e2, e3, rfl⟩ := cmpF_ok hc
        refine fun Q qq => ⟨_, pt_cmpR h1 pe_we pe_we (mark_of hm), qa _ fun w1 v k1 l1 r1 => ?_⟩
        have qb := hb.at1 (t.mono l1 k1) l1
        rw [hg] at qb
        refine qb _ fun w2 u k2 l2 r2 => ?_
        exact h2 _ w2 σ v u k2 (r1.mono l2) r2 q d e e1 e2 e3 _ ⟨q, rfl, qq w2 q k2 (l1.trans l2) rfl⟩
end
end Mo
namespace Mo
open PySem PySem.Spec PyProof.Rows L2
section
variable {c : Calls} {k : Nat} {ck : Ck} {X : Cx} {Wx : WX} {a b e : Expr} {f g h : Sl → R XV} {pos : Pos}
theorem XV.b_eq {x : XV} {q : Bool} (h : x.b = some q) : x = .cl (.bl q) := by
  cases x with
  | cl d =>
    cases d with
    | bl b => cases h; rfl
    | _ => cases h
  | _ => cases h
/-- a test by its value, where the syntax has no test of its own -/
def plainT (e : Expr) : Bool := match e with
  | .UnaryOp .Not _ _ => false
  | .BoolOp _ _ _ => false
  | .IfExp _ _ _ _ => false
  | .Compare _ _ _ _ => false
  | _ => true
theorem isTrue_plainT {e : Expr} (h : plainT e = true) (env : Env) (whole : Sem Value) : isTrue e env whole = (do let v ← whole; standAt e.pos; holding [v] (truthy v)) := by
  cases e with
  | UnaryOp op x p => cases op <;> first | rfl | (cases h; done)
  | BoolOp op x p => cases h
  | IfExp t x y p => cases h
  | Compare l o x p => cases h
  | _ => rfl
/-- a test out of a value -/
theorem okT_of (ha : OkE X Wx e f) (hp : PT X e (tTest (weE X e))) : OkT X Wx e f := by
  intro sl σ A w t
  refine PostR.bind (body := fun v H1 Q => ∃ q, v = V.bl q ∧ Q q H1) (ha sl σ A w t) (fun Q q => ⟨_, hp, q⟩) fun x w1 v hx k1 l1 r1 => ?_
  cases hb : x.b with
  | none => trivial
  | some q => exact fun Q qq => ⟨q, r1.b_of hb, qq w1 q k1 (WLe.refl _) rfl⟩
theorem okT_val (h1 : plainT e = true) (ha : OkE X Wx e f) : OkT X Wx e f := okT_of ha (pt_val pe_we (isTrue_plainT h1 _))
/-! ### is None -/
theorem isN_iff {x : XV} {v : V} {O : Addr → Prop} {w : Wd} {q : Bool} (k : WOk w) (r : XRep X.K O w x v) (h : isNF x = some q) : decide (v = .non) = q := by
  have dat : ∀ {d : Mo.D}, x.d = some d → (match d with | .non => some true | _ => some false) = some q → decide (v = .non) = q := fun {d} hd h => by
    have rd := r.dat k hd
    cases d with
    | non => cases h; rw [show v = V.non from rd]; rfl
    | bl b => cases h; rw [show v = V.bl b from rd]; rfl
    | int i => cases h; rw [show v = V.int i from rd]; rfl
    | str s => cases h; rw [show v = V.str s from rd]; rfl
    | tup ds => obtain ⟨a, vs, e1, _⟩ := rd; cases h; rw [e1]; rfl
    | lst ds => obtain ⟨a, vs, e1, _⟩ := rd; cases h; rw [e1]; rfl
    | dct _ _ => obtain ⟨a, vs, e1, _⟩ := rd; cases h; rw [e1]; rfl
    | ins _ _ _ => obtain ⟨a, vs, fs, e1, _⟩ := rd; cases h; rw [e1]; rfl
    | exn _ => obtain ⟨a, e1, _⟩ := rd; cases h; rw [e1]; rfl
  cases x with
  | al => obtain ⟨B, ⟨⟨a, rfl⟩, _⟩, _⟩ := r; cases h; rfl
  | mu _ _ => obtain ⟨B, h, _⟩ := r; exact h.elim
  | nw m =>
    obtain ⟨B, o, _⟩ := r
    cases m with
    | cl d => cases h
    | _ => obtain ⟨a, vs, C, e1, _⟩ := o; cases h; rw [e1]; rfl
  | cl d => exact dat (d := d) rfl (by cases d <;> exact h)
  | lk m => exact dat (d := m.toD) rfl (by
      have h' : (match some m.toD with | some .non => some true | some _ => some false | none => none) = some q := h
      cases hd : m.toD <;> rw [hd] at h' <;> exact h')
  | tm m => exact dat (d := m.toD) rfl (by
      have h' : (match some m.toD with | some .non => some true | some _ => some false | none => none) = some q := h
      cases hd : m.toD <;> rw [hd] at h' <;> exact h')
theorem ok_isN {j p2} (ha : OkE X Wx a f) : OkE X Wx (.Compare a [.Is] [.Constant .none j p2] pos) (fun sl => (f sl).bind fun x => R.of ((isNF x).map fun q => .cl (.bl q))) :=
  ok_op1 ha fun x => ⟨fun v H Q => Q (.bl (decide (v = .non))) H, fun σ H Q q => ⟨_, pe_cmp (pc_isN pe_we), q⟩, fun w0 w σ v k l rx => PostR.of_none fun z hz => by
    cases hq : isNF x with
    | none => rw [hq] at hz; cases hz
    | some q =>
      rw [hq] at hz; cases hz
      have ee := isN_iff k rx hq
      subst ee
      exact PostR.val (u := .bl _) k rfl fun Q q => q⟩
theorem ok_notN {j p2} (ha : OkE X Wx a f) : OkE X Wx (.Compare a [.IsNot] [.Constant .none j p2] pos) (fun sl => (f sl).bind fun x => R.of ((isNF x).map fun q => .cl (.bl (!q)))) :=
  ok_op1 ha fun x => ⟨fun v H Q => Q (.bl (!decide (v = .non))) H, fun σ H Q q => ⟨_, pe_cmp (pc_notN pe_we), q⟩, fun w0 w σ v k l rx => PostR.of_none fun z hz => by
    cases hq : isNF x with
    | none => rw [hq] at hz; cases hz
    | some q =>
      rw [hq] at hz; cases hz
      have ee := isN_iff k rx hq
      subst ee
      exact PostR.val (u := .bl _) k rfl fun Q q => q⟩
/-- a test out of a comparison's rule -/
theorem okT_cmpV {F : XV → R XV} {op : CmpOp} {t : TE} (hp : PC X op a b t) (h1 : behindInMarks op b = false) (ha : OkE X Wx a f) {r : V → Hp → VK → Prop} (ht : ∀ σ H Q, (weE X a σ H fun v H1 => r v H1 Q) → t σ H Q)
    (hF : ∀ x (w0 w : Wd) (σ : L2.St) (v : V), WOk w → XRep X.K (old w0) w x v → PostR X.K Wx (fun w' x v => XRep X.K (old w0) w' x v) σ w (F x) (r v w.H)) : OkT X Wx (.Compare a [op] [b] pos) (fun sl => (f sl).bind F) := by
  intro sl σ A w t0
  have q := OkE.bind1 ha t0 (F := F) (body := fun v H1 Q => r v H1 Q) (T := fun Q => t σ w.H Q) (fun Q q => ht σ w.H Q q) (fun x w2 v e t2 l r1 => hF x w w2 σ v t2.ok r1)
  refine PostR.bind (T := fun Q => t σ w.H Q) (body := fun (v : V) H1 Q => ∃ q : Bool, v = V.bl q ∧ Q q H1) q (fun Q q => ⟨_, pt_cmp hp h1, q⟩) fun x w1 v hx k1 l1 r1 => ?_
  cases hb : x.b with
  | none => trivial
  | some q => exact fun Q qq => ⟨q, r1.b_of hb, qq w1 q k1 (WLe.refl _) rfl⟩
theorem okT_isN {j p2} (ha : OkE X Wx a f) : OkT X Wx (.Compare a [.Is] [.Constant .none j p2] pos) (fun sl => (f sl).bind fun x => R.of ((isNF x).map fun q => .cl (.bl q))) :=
  okT_cmpV (pc_isN pe_we) (nomark _) ha (r := fun v H Q => Q (.bl (decide (v = .non))) H) (fun σ H Q q => q) fun x w0 w σ v k rx => PostR.of_none fun z hz => by
    cases hq : isNF x with
    | none => rw [hq] at hz; cases hz
    | some q =>
      rw [hq] at hz; cases hz
      have ee := isN_iff k rx hq
      subst ee
      exact PostR.val (u := .bl _) k rfl fun Q q => q
theorem okT_notN {j p2} (ha : OkE X Wx a f) : OkT X Wx (.Compare a [.IsNot] [.Constant .none j p2] pos) (fun sl => (f sl).bind fun x => R.of ((isNF x).map fun q => .cl (.bl (!q)))) :=
  okT_cmpV (pc_notN pe_we) (nomark _) ha (r := fun v H Q => Q (.bl (!decide (v = .non))) H) (fun σ H Q q => q) fun x w0 w σ v k rx => PostR.of_none fun z hz => by
    cases hq : isNF x with
    | none => rw [hq] at hz; cases hz
    | some q =>
      rw [hq] at hz; cases hz
      have ee := isN_iff k rx hq
      subst ee
      exact PostR.val (u := .bl _) k rfl fun Q q => q
/-! ### a < b < c -/
theorem notSet_marks {o o' : CmpOp} {b e : Expr} (h : notSet e = true) : lastMarks [o, o'] [b, e] = false := by
  show behindInMarks o' e = false
  exact mark_of h
theorem chn_post (C : CxOk c k ck X) {o o' : COp} {op op' : CmpOp} (ho : o.is op = true) (ho' : o'.is op' = true) (ha : OkE X Wx a f) (hb : OkE X Wx b g) (he : OkE X Wx e h) {sl : Sl} {σ : L2.St} {A : List Addr} {w : Wd} (t : At X.K sl σ A w) {T : VK → Prop}
    (hT : ∀ r r' : R2, OpR X (compareOp op) r → OpR X (compareOp op') r' → ∀ Q, tChain r r' (weE X a) (weE X b) (weE X e) σ w.H Q → T Q) :
    PostR X.K Wx (fun w' x v => XRep X.K (old w) w' x v) σ w ((f sl).bind fun x => (g sl).bind fun y => (cmpF o x y).bind fun z => chnF o' y z (h sl)) T := by
  obtain ⟨r0, n1, _⟩ := cmp_post C o ho (.cl .non) (.cl .non)
  obtain ⟨r0', n1', _⟩ := cmp_post C o' ho' (.cl .non) (.cl .non)
  cases hf : f sl with
  | stuck => trivial
  | exc ex =>
    have q := ha sl σ A w t
    rw [hf] at q
    exact fun Q qq => hT _ _ n1 n1' Q (q _ qq)
  | ok x =>
    have qa := ha sl σ A w t
    rw [hf] at qa
    cases hg : g sl with
    | stuck => trivial
    | exc ex =>
      refine fun Q qq => hT _ _ n1 n1' Q (qa _ fun w1 v k1 l1 r1 => ?_)
      have qb := hb sl σ A w1 (t.mono l1 k1)
      rw [hg] at qb
      exact qb _ fun w' cls d k' l' => qq w' cls d k' (l1.trans l')
    | ok y =>
      obtain ⟨r, h1, h2⟩ := cmp_post C o ho x y
      show PostR _ _ _ _ _ ((cmpF o x y).bind fun z => chnF o' y z (h sl)) _
      cases hc : cmpF o x y with
      | stuck => trivial
      | exc ex => exact absurd hc cmpF_exc
      | ok z =>
        obtain ⟨d, e', q, e1, e2, e3, rfl⟩ := cmpF_ok hc
        have qb := fun w1 (k1 : WOk w1) (l1 : WLe w w1) => hb.at1 (t.mono l1 k1) l1
        simp only [hg] at qb
        cases q with
        | false =>
          refine fun Q qq => hT _ _ h1 n1' Q (qa _ fun w1 v k1 l1 r1 => qb w1 k1 l1 _ fun w2 u k2 l2 r2 => ?_)
          exact h2 _ w2 σ v u k2 (r1.mono l2) r2 false d e' e1 e2 e3 _ ⟨false, rfl, iteF (qq w2 _ k2 (l1.trans l2) (XRep.cl rfl))⟩
        | true =>
          show PostR _ _ _ _ _ ((h sl).bind fun z' => cmpF o' y z') _
          cases hh : h sl with
          | stuck => trivial
          | exc ex =>
            refine fun Q qq => hT _ _ h1 n1' Q (qa _ fun w1 v k1 l1 r1 => qb w1 k1 l1 _ fun w2 u k2 l2 r2 => ?_)
            have qe := he sl σ A w2 (t.mono (l1.trans l2) k2)
            rw [hh] at qe
            exact h2 _ w2 σ v u k2 (r1.mono l2) r2 true d e' e1 e2 e3 _ ⟨true, rfl, iteT (qe _ fun w' cls d k' l' => qq w' cls d k' ((l1.trans l2).trans l'))⟩
          | ok z' =>
            obtain ⟨r', h1', h2'⟩ := cmp_post C o' ho' y z'
            show PostR _ _ _ _ _ (cmpF o' y z') _
            cases hc' : cmpF o' y z' with
            | stuck => trivial
            | exc ex => exact absurd hc' cmpF_exc
            | ok z2 =>
              obtain ⟨d', e2', q', e1', e3', e4', rfl⟩ := cmpF_ok hc'
              refine fun Q qq => hT _ _ h1 h1' Q (qa _ fun w1 v k1 l1 r1 => qb w1 k1 l1 _ fun w2 u k2 l2 r2 => ?_)
              have qe := he.at1 (t.mono (l1.trans l2) k2) (l1.trans l2)
              rw [hh] at qe
              exact h2 _ w2 σ v u k2 (r1.mono l2) r2 true d e' e1 e2 e3 _ ⟨true, rfl, iteT (qe _ fun w3 v3 k3 l3 r3 =>
                h2' _ w3 σ u v3 k3 (r2.mono l3) r3 q' d' e2' e1' e3' e4' _ (qq w3 _ k3 ((l1.trans l2).trans l3) (XRep.cl rfl)))⟩
theorem ok_chn (C : CxOk c k ck X) {o o' : COp} {op op' : CmpOp} (ho : o.is op = true) (ho' : o'.is op' = true) (hm : notSet e = true) (ha : OkE X Wx a f) (hb : OkE X Wx b g) (he : OkE X Wx e h) :
    OkE X Wx (.Compare a [op, op'] [b, e] pos) (fun sl => (f sl).bind fun x => (g sl).bind fun y => (cmpF o x y).bind fun z => chnF o' y z (h sl)) := fun sl σ A w t =>
  chn_post C ho ho' ha hb he t fun r r' h1 h2 Q q => ⟨_, pe_chain h1 h2 pe_we pe_we pe_we (notSet_marks hm), q⟩
theorem okT_chn (C : CxOk c k ck X) {o o' : COp} {op op' : CmpOp} (ho : o.is op = true) (ho' : o'.is op' = true) (hm : notSet e = true) (ha : OkE X Wx a f) (hb : OkE X Wx b g) (he : OkE X Wx e h) :
    OkT X Wx (.Compare a [op, op'] [b, e] pos) (fun sl => (f sl).bind fun x => (g sl).bind fun y => (cmpF o x y).bind fun z => chnF o' y z (h sl)) := fun sl σ A w t => by
  have q := chn_post C ho ho' ha hb he t (T := fun Q => ∃ r r' : R2, OpR X (compareOp op) r ∧ OpR X (compareOp op') r' ∧ tChain r r' (weE X a) (weE X b) (weE X e) σ w.H Q) (fun r r' h1 h2 Q q => ⟨r, r', h1, h2, q⟩)
  refine q.bind (body := fun (v : V) H1 Q => ∃ q : Bool, v = V.bl q ∧ Q q H1) (fun Q ⟨r, r', h1, h2, q⟩ => ⟨_, pt_chain h1 h2 pe_we pe_we pe_we (notSet_marks hm), q⟩) fun x w1 v hx k1 l1 r1 => ?_
  cases hb' : x.b with
  | none => trivial
  | some q => exact fun Q qq => ⟨q, r1.b_of hb', qq w1 q k1 (WLe.refl _) rfl⟩
/-! ### and, or, not -/
variable {rest : List Expr}
theorem ok_and (ha : OkE X Wx a f) (hb : OkE X Wx (.BoolOp .And (b :: rest) pos) g) : OkE X Wx (.BoolOp .And (a :: b :: rest) pos) (fun sl => (f sl).bind fun x => andF x (g sl)) := by
  intro sl σ A w t
  refine OkE.bind1 ha t (body := fun v H1 Q => ∃ q, v = .bl q ∧ if q = true then weE X (.BoolOp .And (b :: rest) pos) σ H1 Q else Q (.bl false) H1) (fun Q q => ⟨_, pe_and pe_we pe_we, q⟩) fun x w1 v hx t1 l1 r1 => ?_
  unfold andF
  cases hq : x.b with
  | none => trivial
  | some q =>
    have ev := r1.b_of hq
    cases q with
    | false => exact PostR.val (u := .bl false) t1.ok rfl fun Q qq => ⟨false, ev, iteF qq⟩
    | true =>
      refine (hb.at1 t1 l1).bind (body := fun v H2 Q => Q v H2) (fun Q qq => ⟨true, ev, iteT qq⟩) fun y w2 u hy k2 l2 r2 => ?_
      unfold boolF
      cases hy' : y.b with
      | none => trivial
      | some p => rw [r2.b_of hy']; exact PostR.val (u := .bl p) k2 rfl fun Q qq => qq
theorem ok_or (ha : OkE X Wx a f) (hb : OkE X Wx (.BoolOp .Or (b :: rest) pos) g) : OkE X Wx (.BoolOp .Or (a :: b :: rest) pos) (fun sl => (f sl).bind fun x => orF x (g sl)) := by
  intro sl σ A w t
  refine OkE.bind1 ha t (body := fun v H1 Q => ∃ q, v = .bl q ∧ if q = true then Q (.bl true) H1 else weE X (.BoolOp .Or (b :: rest) pos) σ H1 Q) (fun Q q => ⟨_, pe_or pe_we pe_we, q⟩) fun x w1 v hx t1 l1 r1 => ?_
  unfold orF
  cases hq : x.b with
  | none => trivial
  | some q =>
    have ev := r1.b_of hq
    cases q with
    | true => exact PostR.val (u := .bl true) t1.ok rfl fun Q qq => ⟨true, ev, iteT qq⟩
    | false =>
      refine (hb.at1 t1 l1).bind (body := fun v H2 Q => Q v H2) (fun Q qq => ⟨false, ev, iteF qq⟩) fun y w2 u hy k2 l2 r2 => ?_
      unfold boolF
      cases hy' : y.b with
      | none => trivial
      | some p => rw [r2.b_of hy']; exact PostR.val (u := .bl p) k2 rfl fun Q qq => qq
theorem ok_one {op} (ha : OkE X Wx a f) : OkE X Wx (.BoolOp op [a] pos) f := fun sl σ A w t => (ha sl σ A w t).imp (fun Q ⟨tt, h1, h2⟩ => ⟨_, pe_one h1, h2⟩) fun _ _ _ _ r => r
theorem ok_not (ha : OkE X Wx a f) : OkE X Wx (.UnaryOp .Not a pos) (fun sl => (f sl).bind notF) := by
  intro sl σ A w t
  refine OkE.bind1 ha t (body := fun v H1 Q => ∃ q, v = .bl q ∧ Q (.bl (!q)) H1) (fun Q q => ⟨_, pe_not pe_we, q⟩) fun x w1 v hx t1 l1 r1 => ?_
  unfold notF
  cases hq : x.b with
  | none => trivial
  | some q => exact PostR.val (u := .bl (!q)) t1.ok rfl fun Q qq => ⟨q, r1.b_of hq, qq⟩
theorem ok_ife (hc : OkT X Wx e f) (ha : OkE X Wx a g) (hb : OkE X Wx b h) : OkE X Wx (.IfExp e a b pos) (fun sl => (f sl).bind fun x => match x.b with | some true => g sl | some false => h sl | none => .stuck) := by
  intro sl σ A w t
  have key : PostR X.K Wx (fun w' x v => XRep X.K (old w) w' x v) σ w ((tst (f sl)).bind fun q => if q then g sl else h sl) (weE X (.IfExp e a b pos) σ w.H) := by
    refine (hc sl σ A w t).bind (body := fun q H1 Q => if q = true then weE X a σ H1 Q else weE X b σ H1 Q) (fun Q q => ⟨_, pe_ifExp pt_we pe_we pe_we, q⟩) fun q w1 v hq k1 l1 r1 => ?_
    subst r1
    cases q with
    | true => exact (ha.at1 (t.mono l1 k1) l1).imp (fun Q q => iteT q) fun _ _ _ _ r => r
    | false => exact (hb.at1 (t.mono l1 k1) l1).imp (fun Q q => iteF q) fun _ _ _ _ r => r
  cases hf : f sl with
  | stuck => simp only [hf]; trivial
  | exc ex => rw [hf] at key; simp only [hf]; exact key
  | ok x =>
    rw [hf] at key
    simp only [hf, R.bind_ok]
    have key' : PostR X.K Wx (fun w' x v => XRep X.K (old w) w' x v) σ w ((R.of x.b).bind fun q => if q then g sl else h sl) (weE X (.IfExp e a b pos) σ w.H) := key
    cases hq : x.b with
    | none => trivial
    | some q => rw [hq] at key'; cases q <;> exact key'
/-! ### .. as tests -/
theorem tst_bool {r : R XV} : tst (r.bind boolF) = tst r := by
  cases r with
  | stuck => rfl
  | exc e => rfl
  | ok x => show tst (boolF x) = R.of x.b; unfold boolF; cases hx : x.b <;> rfl
theorem okW_and (ha : OkT X Wx a f) (hb : OkW X Wx (.BoolOp .And (b :: rest) pos) g) : OkW X Wx (.BoolOp .And (a :: b :: rest) pos) (fun sl => (f sl).bind fun x => andF x (g sl)) := by
  intro sl σ A w t
  have key : PostR X.K Wx (fun _ x b => x = b) σ w ((tst (f sl)).bind fun q => if q then tst (g sl) else .ok false) (weW X (.BoolOp .And (a :: b :: rest) pos) σ w.H) := by
    refine (ha sl σ A w t).bind (body := fun q H1 Q => if q = true then weW X (.BoolOp .And (b :: rest) pos) σ H1 Q else Q false H1) (fun Q q => ⟨_, pw_and pt_we pw_we, q⟩) fun q w1 v hq k1 l1 r1 => ?_
    subst r1
    cases q with
    | true => exact (hb sl σ A w1 (t.mono l1 k1)).imp (fun Q q => iteT q) fun _ _ _ _ r => r
    | false => exact fun Q qq => iteF (qq w1 false k1 (WLe.refl _) rfl)
  cases hf : f sl with
  | stuck => simp only [hf]; trivial
  | exc ex => rw [hf] at key; simp only [hf]; exact key
  | ok x =>
    rw [hf] at key
    simp only [hf, R.bind_ok]
    have key' : PostR X.K Wx (fun _ x b => x = b) σ w ((R.of x.b).bind fun q => if q then tst (g sl) else .ok false) (weW X (.BoolOp .And (a :: b :: rest) pos) σ w.H) := key
    unfold andF
    cases hq : x.b with
    | none => trivial
    | some q =>
      rw [hq] at key'
      cases q with
      | true => simp only [tst_bool]; exact key'
      | false => exact key'
theorem okW_or (ha : OkT X Wx a f) (hb : OkW X Wx (.BoolOp .Or (b :: rest) pos) g) : OkW X Wx (.BoolOp .Or (a :: b :: rest) pos) (fun sl => (f sl).bind fun x => orF x (g sl)) := by
  intro sl σ A w t
  have key : PostR X.K Wx (fun _ x b => x = b) σ w ((tst (f sl)).bind fun q => if q then .ok true else tst (g sl)) (weW X (.BoolOp .Or (a :: b :: rest) pos) σ w.H) := by
    refine (ha sl σ A w t).bind (body := fun q H1 Q => if q = true then Q true H1 else weW X (.BoolOp .Or (b :: rest) pos) σ H1 Q) (fun Q q => ⟨_, pw_or pt_we pw_we, q⟩) fun q w1 v hq k1 l1 r1 => ?_
    subst r1
    cases q with
    | false => exact (hb sl σ A w1 (t.mono l1 k1)).imp (fun Q q => iteF q) fun _ _ _ _ r => r
    | true => exact fun Q qq => iteT (qq w1 true k1 (WLe.refl _) rfl)
  cases hf : f sl with
  | stuck => simp only [hf]; trivial
  | exc ex => rw [hf] at key; simp only [hf]; exact key
  | ok x =>
    rw [hf] at key
    simp only [hf, R.bind_ok]
    have key' : PostR X.K Wx (fun _ x b => x = b) σ w ((R.of x.b).bind fun q => if q then .ok true else tst (g sl)) (weW X (.BoolOp .Or (a :: b :: rest) pos) σ w.H) := key
    unfold orF
    cases hq : x.b with
    | none => trivial
    | some q =>
      rw [hq] at key'
      cases q with
      | false => simp only [tst_bool]; exact key'
      | true => exact key'
theorem okW_and1 (ha : OkT X Wx a f) : OkW X Wx (.BoolOp .And [a] pos) f := fun sl σ A w t => (ha sl σ A w t).imp (fun Q ⟨tt, h1, h2⟩ => ⟨_, pw_and1 h1, h2⟩) fun _ _ _ _ r => r
theorem okW_or1 (ha : OkT X Wx a f) : OkW X Wx (.BoolOp .Or [a] pos) f := fun sl σ A w t => (ha sl σ A w t).imp (fun Q ⟨tt, h1, h2⟩ => ⟨_, pw_or1 h1, h2⟩) fun _ _ _ _ r => r
theorem okT_W (ha : OkW X Wx e f) : OkT X Wx e f := fun sl σ A w t => (ha sl σ A w t).imp (fun Q ⟨tt, h1, h2⟩ => ⟨_, h1.pt, h2⟩) fun _ _ _ _ r => r
theorem okT_not (ha : OkT X Wx a f) : OkT X Wx (.UnaryOp .Not a pos) (fun sl => (f sl).bind notF) := by
  intro sl σ A w t
  have key : PostR X.K Wx (fun _ x b => x = b) σ w ((tst (f sl)).bind fun q => .ok (!q)) (weT X (.UnaryOp .Not a pos) σ w.H) := by
    refine (ha sl σ A w t).bind (body := fun q H1 Q => Q (!q) H1) (fun Q q => ⟨_, pt_not pt_we, q⟩) fun q w1 v hq k1 l1 r1 => ?_
    subst r1
    exact fun Q qq => qq w1 _ k1 (WLe.refl _) rfl
  cases hf : f sl with
  | stuck => simp only [hf]; trivial
  | exc ex => rw [hf] at key; simp only [hf]; exact key
  | ok x =>
    rw [hf] at key
    simp only [hf, R.bind_ok]
    have key' : PostR X.K Wx (fun _ x b => x = b) σ w ((R.of x.b).bind fun q => .ok (!q)) (weT X (.UnaryOp .Not a pos) σ w.H) := key
    unfold notF
    cases hq : x.b with
    | none => trivial
    | some q => rw [hq] at key'; exact key'
end
end Mo
namespace Mo
open PySem PySem.Spec PyProof.Rows L2
section
variable {c : Calls} {k : Nat} {ck : Ck} {X : Cx} {Wx : WX} {a b e : Expr} {f g h : Sl → R XV} {pos : Pos} {es : List Expr} {fs : Sl → R (List XV)}
/-! ### rows of expressions -/
theorem star_cons {e : Expr} (h : notStar e = true) (es : List Expr) (env : Env) : starEach (e :: es) env = (false, eval e env) :: starEach es env := by
  cases e <;> first | rfl | (cases h; done)
theorem okA_nil : OkA X Wx [] (fun _ => .ok []) := fun sl σ A w t Q q => ⟨_, pa_nil, q w [] t.ok (WLe.refl w) ⟨[], ⟨rfl, rfl⟩, own_nil, fun a h => absurd h (by simp)⟩⟩
theorem okA_cons (hs : notStar e = true) (ha : OkE X Wx e f) (hb : OkA X Wx es fs) : OkA X Wx (e :: es) (fun sl => (f sl).bind fun x => (fs sl).bind fun xs => .ok (x :: xs)) := by
  intro sl σ A w t
  refine PostR.bind (body := fun v H1 Q => weA X es σ H1 fun vs H2 => Q (v :: vs) H2) (ha sl σ A w t) (fun Q q => ⟨_, pa_cons pe_we pa_we (star_cons hs _ _), q⟩) fun x w1 v hx k1 l1 r1 => ?_
  refine PostR.bind (body := fun vs H2 Q => Q (v :: vs) H2) (hb sl σ A w1 (t.mono l1 k1)) (fun Q q => q) fun xs w2 vs hxs k2 l2 r2 => ?_
  refine fun Q qq => qq w2 (v :: vs) k2 (WLe.refl _) ?_
  obtain ⟨B1, p1, p2, p3⟩ := r1
  obtain ⟨B2, q1, q2, q3⟩ := r2
  refine ⟨B1 ++ B2, ⟨v, vs, B1, B2, rfl, p1.mono l2, q1, rfl⟩, ⟨?_, fun a ha => ?_⟩, fun a ha => ?_⟩
  · rw [List.nodup_append]
    exact ⟨p2.nd, q2.nd, fun a h1 b h2 e => by subst e; exact q3 a h2 (p1.there a h1)⟩
  · rcases List.mem_append.mp ha with z | z
    · exact (p2.mono l2 p1.there).no a z
    · exact q2.no a z
  · rcases List.mem_append.mp ha with z | z
    · exact p3 a z
    · exact fun o => q3 a z (old_le l1 a o)
theorem XsR1.length {K : PySem.W.Frag} {w : Wd} : ∀ {xs : List XV} {vs : List V} {B : List Addr}, XsR1 K w xs vs B → xs.length = vs.length
  | [], vs, _, ⟨h, _⟩ => by subst h; rfl
  | _ :: _, _, _, ⟨v, r, B1, B2, e1, e2, e3, e4⟩ => by rw [e1]; simp [XsR1.length e3]
theorem clL_rep {K : PySem.W.Frag} {w : Wd} : ∀ {xs : List XV} {vs : List V} {B : List Addr} {ds : List D}, XsR1 K w xs vs B → clL xs = some ds → RepL K w.F ds vs
  | [], vs, _, _, ⟨h, _⟩, e => by cases e; exact h
  | x :: xs, _, _, _, ⟨v, r, B1, B2, e1, e2, e3, e4⟩, e => by
    cases x with
    | cl d =>
      cases q : clL xs with
      | none => simp only [clL, q] at e; cases e
      | some ds => simp only [clL, q] at e; cases e; exact ⟨v, r, e1, e2.1, clL_rep e3 q⟩
    | _ => cases e
theorem moL_rep {K : PySem.W.Frag} {w : Wd} : ∀ {xs : List XV} {vs : List V} {B : List Addr} {ms : List MO}, XsR1 K w xs vs B → moL xs = some ms → ORepL K w.F w.H ms vs B
  | [], vs, _, _, ⟨h, h'⟩, e => by cases e; exact ⟨h, h'⟩
  | x :: xs, _, _, _, ⟨v, r, B1, B2, e1, e2, e3, e4⟩, e => by
    cases x with
    | cl d =>
      cases q : moL xs with
      | none => simp only [moL, q] at e; cases e
      | some ds => simp only [moL, q] at e; cases e; exact ⟨v, r, B1, B2, e1, e2, moL_rep e3 q, e4⟩
    | nw m =>
      cases q : moL xs with
      | none => simp only [moL, q] at e; cases e
      | some ds => simp only [moL, q] at e; cases e; exact ⟨v, r, B1, B2, e1, e2, moL_rep e3 q, e4⟩
    | _ => cases e
theorem small {n : Nat} (h : n ≤ 1000) : n ≤ sizeLine := Nat.le_trans h (by decide)
/-- a new object of one's own -/
theorem own_new {w : Wd} {p : Addr} {o : HO} {B : List Addr} (k : WOk w) (np : w.H p = none) (hf : ∀ o' u, o ≠ .frz o' u) (h : Own w B) (th : ∀ a ∈ B, w.H a ≠ none) : Own (w.own p o) (p :: B) := by
  refine ⟨List.nodup_cons.mpr ⟨fun z => th p z np, h.nd⟩, fun a ha => ?_⟩
  rcases List.mem_cons.mp ha with z | z
  · subst z
    exact ⟨k.gh.free np, fun o' u q => by
      have q' : upd w.H a o a = some (.frz o' u) := q
      rw [upd_same] at q'
      exact hf o' u (Option.some.inj q')⟩
  · refine ⟨(h.no a z).1, fun o' u q => ?_⟩
    have q' : upd w.H p o a = some (.frz o' u) := q
    rw [upd_ne (by rintro rfl; exact th a z np)] at q'
    exact (h.no a z).2 o' u q'
theorem ok_tup {n : Nat} (hA : OkA X Wx es fs) : OkE X Wx (.Tuple es n pos) (fun sl => (fs sl).bind tupF) := by
  intro sl σ A w t
  refine PostR.bind (body := fun (vs : List V) H1 (Q : VK) => vs.length ≤ sizeLine ∧ ∀ p, H1 p = none → Q (.ref p) (upd H1 p (.tup vs))) (hA sl σ A w t) (fun Q q => ⟨_, pe_tup pa_we, q⟩) fun xs w1 vs hx k1 l1 r1 => ?_
  obtain ⟨B, p1, p2, p3⟩ := r1
  unfold tupF
  split
  · rename_i hl
    have hl' : vs.length ≤ sizeLine := small (by rw [← p1.length]; exact hl)
    cases hc : clL xs with
    | some ds =>
      exact fun Q qq => ⟨hl', fun p np => qq (w1.add p (.tup vs)) (.ref p) (Wd.add_ok k1) (Wd.add_le k1 np) (XRep.cl ⟨p, vs, rfl, .inl (.inl upd_same), (clL_rep p1 hc).mono (Wd.add_le (o := .tup vs) k1 np).f⟩)⟩
    | none =>
      cases hm : moL xs with
      | none => trivial
      | some ms =>
        refine fun Q qq => ⟨hl', fun p np => qq (w1.own p (.tup vs)) (.ref p) (Wd.own_ok k1 np) (Wd.own_le np) ⟨p :: B, ⟨p, vs, B, rfl, .inl upd_same, (moL_rep p1 hm).mono (Ex.refl _) (fun a _ o q => (Wd.own_le np).h a o q), rfl⟩, own_new k1 np (by intro _ _ z; cases z) p2 p1.there, fun a ha => ?_⟩⟩
        rcases List.mem_cons.mp ha with z | z
        · subst z; exact fun o => o (l1.h.free np)
        · exact p3 a z
  · trivial
theorem ok_lst (hA : OkA X Wx es fs) : OkE X Wx (.List es pos) (fun sl => (fs sl).bind lstF) := by
  intro sl σ A w t
  refine PostR.bind (body := fun (vs : List V) H1 (Q : VK) => vs.length ≤ sizeLine ∧ ∀ p, H1 p = none → Q (.ref p) (upd H1 p (.lst vs))) (hA sl σ A w t) (fun Q q => ⟨_, pe_lst pa_we, q⟩) fun xs w1 vs hx k1 l1 r1 => ?_
  obtain ⟨B, p1, p2, p3⟩ := r1
  unfold lstF
  split
  · rename_i hl
    have hl' : vs.length ≤ sizeLine := small (by rw [← p1.length]; exact hl)
    cases hm : moL xs with
    | none => trivial
    | some ms =>
      refine fun Q qq => ⟨hl', fun p np => qq (w1.own p (.lst vs)) (.ref p) (Wd.own_ok k1 np) (Wd.own_le np) ⟨p :: B, ⟨p, vs, B, rfl, .inl upd_same, (moL_rep p1 hm).mono (Ex.refl _) (fun a _ o q => (Wd.own_le np).h a o q), rfl⟩, own_new k1 np (by intro _ _ z; cases z) p2 p1.there, fun a ha => ?_⟩⟩
      rcases List.mem_cons.mp ha with z | z
      · subst z; exact fun o => o (l1.h.free np)
      · exact p3 a z
  · trivial
/-! ### a[i] -/
theorem plainIx_ok {b : Expr} (h : plainIx b = true) : PlainIx b := by
  intro o i
  cases b <;> first | rfl | (cases h; done)
theorem atI_some {α : Type} {xs : List α} {n : Int} {x : α} (h : atI xs n = some x) : ∃ j, ixN xs.length n = some j ∧ xs[j]? = some x := by
  unfold atI at h
  cases hj : ixN xs.length n with
  | none => rw [hj] at h; cases h
  | some j => rw [hj] at h; exact ⟨j, rfl, h⟩
theorem atI_of {α : Type} {xs : List α} {n : Int} {j : Nat} {x : α} (h : ixN xs.length n = some j) (q : xs[j]? = some x) : atI xs n = some x := by
  unfold atI
  rw [h]
  exact q
theorem sgn_eq (n : Nat) : (⟨#[n]⟩ : Str) = sgn n := rfl
theorem ok_sub (C : CxOk c k ck X) (hi : plainIx b = true) (ha : OkE X Wx a f) (hb : OkE X Wx b g) : OkE X Wx (.Subscript a b pos) (fun sl => (f sl).bind fun x => (g sl).bind fun y => R.of (idx x y)) :=
  ok_op2 ha hb fun x y => by
    have hu1 : X.A.units + 1 < cLine := by have := C.room.units; omega
    have seq : (∀ m q, x.mo = some m → m.dic ≠ some q) → ∃ r : R2, (∀ σ H Q, (weE X a σ H fun v H1 => weE X b σ H1 fun u H2 => r v u H2 Q) → weE X (.Subscript a b pos) σ H Q) ∧
        ∀ (w0 w : Wd) (σ : L2.St) (v u : V), WOk w → WLe w0 w → XRep X.K (old w0) w x v → XRep X.K (old w0) w y u → PostR X.K Wx (fun w' x v => XRep X.K (old w0) w' x v) σ w (R.of (idx x y)) (r v u w.H) := fun nd => by
      refine ⟨_, fun σ H Q q => ⟨_, pe_ix ix_seq pe_we pe_we (plainIx_ok hi), q⟩, fun w0 w σ v u k l rx ry => PostR.of_none fun z hz => ?_⟩
      unfold idx at hz
      split at hz
      · rename_i m n hm
        have ry' := ry.cl_of
        have ndm : m.dic = none := by
          cases q : m.dic with
          | none => rfl
          | some p => exact absurd q (nd m p hm)
        rw [ndm] at hz
        simp only at hz
        cases n with
        | int n =>
          simp only at hz
          cases hk : m.kids with
          | some ms =>
            simp only [hk] at hz
            obtain ⟨p, vs, e1, e2, e3, e4⟩ := rx.kids k hm hk
            cases hz' : atI ms n with
            | none => rw [hz'] at hz; cases hz
            | some m' =>
              rw [hz'] at hz; cases hz
              obtain ⟨j, j1, j2⟩ := atI_some hz'
              obtain ⟨u', h1, h2⟩ := e4 j m' j2
              have hat : atI vs n = some u' := atI_of (by rw [← e3]; exact j1) h1
              refine fun Q qq => ?_
              have fin := qq w u' k (WLe.refl w) h2
              rcases e2 with q | q
              · exact .inl ⟨p, vs, n, u', e1, ry', q, hat, fin⟩
              · exact .inr (.inl ⟨p, vs, n, u', e1, ry', q, hat, fin⟩)
          | none =>
            simp only [hk] at hz
            split at hz
            · rename_i s
              split at hz
              · rename_i hl
                cases hc : atI s.cps.toList n with
                | none => rw [hc] at hz; cases hz
                | some ch =>
                  rw [hc] at hz; cases hz
                  have hv : v = .str s := by
                    obtain ⟨A, o⟩ := rx.mo k hm
                    exact o.1
                  exact PostR.val (u := .str ⟨#[ch]⟩) k rfl fun Q qq => .inr (.inr ⟨s, n, ch, hv, ry', hl, hc, qq⟩)
              · cases hz
            · cases hz
        | _ => cases hz
      · cases hz
    by_cases hd : ∃ m q, x.mo = some m ∧ m.dic = some q
    · obtain ⟨m, ⟨ks, ms⟩, hm, hq⟩ := hd
      refine ⟨fun x y H Q => ∃ a v, x = .ref a ∧ DGet H a y (some v) ∧ Q v H, fun σ H Q q => ⟨_, pe_dget hu1 pe_we pe_we (plainIx_ok hi), q⟩, fun w0 w σ v u k l rx ry => PostR.of_none fun z hz => ?_⟩
      unfold idx at hz
      split at hz
      · rename_i m' kk hm'
        rw [hm] at hm'
        cases hm'
        rw [hq] at hz
        simp only at hz
        split at hz
        · rename_i hK
          obtain ⟨p, vs, e1, e2, e3, e4⟩ := rx.dic k hm hq
          have g := e2.get hK ry.cl_of
          unfold dget at hz
          cases hj : dfind ks kk with
          | none => rw [hj] at hz; cases hz
          | some j =>
            rw [hj] at hz g
            simp only [Option.bind_some] at hz g
            cases hms : ms[j]? with
            | none => rw [hms] at hz; cases hz
            | some m' =>
              rw [hms] at hz; cases hz
              obtain ⟨u', h1, h2⟩ := e4 j m' hms
              rw [h1] at g
              exact fun Q qq => ⟨p, u', e1, g, qq w u' k (WLe.refl w) h2⟩
        · cases hz
      · cases hz
    · exact seq fun m q hm hq => hd ⟨m, q, hm, hq⟩
/-! ### built-ins -/
theorem xs1 {K : PySem.W.Frag} {O : Addr → Prop} {w : Wd} {x : XV} {vs : List V} (h : XsRep K O w [x] vs) : ∃ v, vs = [v] ∧ XRep K O w x v := by
  obtain ⟨B, ⟨v, r, B1, B2, e1, e2, ⟨e3, e5⟩, e4⟩, p2, p3⟩ := h
  subst e3 e5
  rw [List.append_nil] at e4
  subst e4
  exact ⟨v, e1, _, e2, p2, p3⟩
theorem XsRep.cons {K : PySem.W.Frag} {O : Addr → Prop} {w : Wd} {x : XV} {xs : List XV} {vs : List V} (h : XsRep K O w (x :: xs) vs) : ∃ v r, vs = v :: r ∧ XRep K O w x v ∧ XsRep K O w xs r := by
  obtain ⟨B, ⟨v, r, B1, B2, e1, e2, e3, e4⟩, p2, p3⟩ := h
  subst e4
  have nd := List.nodup_append.mp p2.nd
  exact ⟨v, r, e1, ⟨B1, e2, ⟨nd.1, fun a ha => p2.no a (List.mem_append_left _ ha)⟩, fun a ha => p3 a (List.mem_append_left _ ha)⟩,
    ⟨B2, e3, ⟨nd.2.1, fun a ha => p2.no a (List.mem_append_right _ ha)⟩, fun a ha => p3 a (List.mem_append_right _ ha)⟩⟩
/-- what has a length -/
def LenX (K : PySem.W.Frag) (v : V) (H : Hp) (n : Nat) : Prop := LenV K v H n ∨ ∃ a kvs, v = .ref a ∧ Rd H a (.dK kvs) ∧ kvs.length = n
theorem call_lenX : CallR X (.builtin "len") (fun xs H Q => ∃ v n, xs = [v] ∧ LenX X.K v H n ∧ Q (.int n) H) := by
  intro pins s σ H xs us Q I r h
  obtain ⟨v, n, rfl, hl, q⟩ := h
  rcases hl with hl | ⟨a, kvs, rfl, hr, rfl⟩
  · exact call_len pins s σ H [v] us Q I r ⟨v, n, rfl, hl, q⟩
  · obtain ⟨u, rfl, ru⟩ := vals1 r
    cases ru
    exact d_len I hr fun t s' I' => ⟨.int kvs.length, H, I', ⟨t, rfl⟩, q⟩
theorem len_rep {x : XV} {v : V} {n : Int} {O : Addr → Prop} {w : Wd} (k : WOk w) (r : XRep X.K O w x v) (h : lenX x = some n) : ∃ m : Nat, LenX X.K v w.H m ∧ n = m := by
  unfold lenX at h
  cases hm : x.mo with
  | none => rw [hm] at h; cases h
  | some m =>
    rw [hm] at h
    simp only at h
    cases hk : m.kids with
    | some ms =>
      rw [hk] at h
      cases h
      obtain ⟨p, vs, e1, e2, e3, e4⟩ := r.kids k hm hk
      subst e1
      refine ⟨ms.length, .inl ?_, rfl⟩
      rcases e2 with q | q
      · exact .inl ⟨vs, q, e3⟩
      · exact .inr ⟨vs, q, e3⟩
    | none =>
      rw [hk] at h
      simp only at h
      cases hd : m.dic with
      | some p =>
        obtain ⟨ks, ms⟩ := p
        rw [hd] at h
        cases h
        obtain ⟨p, vs, e1, ⟨kvs, d1, d2, d3, d4⟩, e3, e4⟩ := r.dic k hm hd
        refine ⟨ms.length, .inr ⟨p, kvs, e1, d1, ?_⟩, rfl⟩
        rw [e3, d3, List.length_map]
      | none =>
        rw [hd] at h
        simp only at h
        split at h
        · rename_i s
          split at h
          · rename_i hl
            cases h
            obtain ⟨A, o⟩ := r.mo k hm
            have e : v = .str s := o.1
            subst e
            exact ⟨s.length, .inl ⟨hl, rfl⟩, rfl⟩
          · cases h
        · cases h
/-- a built-in's call -/
def CanB (X : Cx) (nm : String) (r : List V → Hp → VK → Prop) : Prop := ∀ {x : Str} {e : Expr} {es : List Expr} {t : TA} {p pos : Pos}, Str.ofString nm = x → Gl X x → X.mg x = none → PA X (e :: es) t → x ≠ "__name__" → (x == ("__debug__" : Str)) = false → starEach (e :: es) X.env = (false, eval e X.env) :: starEach es X.env → (backTo pos (starEach es X.env)).any (·.1) = false → PE X (.Call (.Name x p) (e :: es) [] pos) (tCB r t)
theorem canB {nm : String} {id : String} {r : List V → Hp → VK → Prop} (hv : bootBuiltins (Str.ofString nm) = some (.builtin id)) (hc : CallR X (.builtin id) r) : CanB X nm r := fun hx hg hm ha hn hdb he hpl => by
  subst hx
  exact pe_callB hc hg hm hv ha hn hdb he hpl
theorem canT {nm : String} {T : String} {r : List V → Hp → VK → Prop} (hv : bootBuiltins (Str.ofString nm) = some (.type T)) (hc : CallR X (.type T) r) : CanB X nm r := fun hx hg hm ha hn hdb he hpl => by
  subst hx
  exact pe_callTy hc hg hm hv ha hn hdb he hpl
theorem repL_ints {K : PySem.W.Frag} {T : Hp} : ∀ {ds : List D} {vs : List V} {ns : List Int}, RepL K T ds vs → intsD ds = some ns → vs = ns.map V.int
  | [], vs, _, h, e => by cases e; exact h
  | .int i :: ds, _, _, ⟨v, r, e1, e2, e3⟩, e => by
    cases q : intsD ds with
    | none => simp only [intsD, q] at e; cases e
    | some ns => simp only [intsD, q] at e; cases e; rw [e1, show v = V.int i from e2, repL_ints e3 q]; rfl
  | .non :: _, _, _, _, e => by cases e
  | .bl _ :: _, _, _, _, e => by cases e
  | .str _ :: _, _, _, _, e => by cases e
  | .tup _ :: _, _, _, _, e => by cases e
  | .lst _ :: _, _, _, _, e => by cases e
  | .dct _ _ :: _, _, _, _, e => by cases e
  | .ins _ _ _ :: _, _, _, _, e => by cases e
  | .exn _ :: _, _, _, _, e => by cases e
theorem repL_strs {K : PySem.W.Frag} {T : Hp} : ∀ {ds : List D} {vs : List V} {ns : List Str}, RepL K T ds vs → strsD ds = some ns → vs = ns.map V.str
  | [], vs, _, h, e => by cases e; exact h
  | .str i :: ds, _, _, ⟨v, r, e1, e2, e3⟩, e => by
    cases q : strsD ds with
    | none => simp only [strsD, q] at e; cases e
    | some ns => simp only [strsD, q] at e; cases e; rw [e1, show v = V.str i from e2, repL_strs e3 q]; rfl
  | .non :: _, _, _, _, e => by cases e
  | .bl _ :: _, _, _, _, e => by cases e
  | .int _ :: _, _, _, _, e => by cases e
  | .tup _ :: _, _, _, _, e => by cases e
  | .lst _ :: _, _, _, _, e => by cases e
  | .dct _ _ :: _, _, _, _, e => by cases e
  | .ins _ _ _ :: _, _, _, _, e => by cases e
  | .exn _ :: _, _, _, _, e => by cases e
theorem repL_bls {K : PySem.W.Frag} {T : Hp} : ∀ {ds : List D} {vs : List V} {ns : List Bool}, RepL K T ds vs → blsD ds = some ns → vs = ns.map V.bl
  | [], vs, _, h, e => by cases e; exact h
  | .bl i :: ds, _, _, ⟨v, r, e1, e2, e3⟩, e => by
    cases q : blsD ds with
    | none => simp only [blsD, q] at e; cases e
    | some ns => simp only [blsD, q] at e; cases e; rw [e1, show v = V.bl i from e2, repL_bls e3 q]; rfl
  | .non :: _, _, _, _, e => by cases e
  | .str _ :: _, _, _, _, e => by cases e
  | .int _ :: _, _, _, _, e => by cases e
  | .tup _ :: _, _, _, _, e => by cases e
  | .lst _ :: _, _, _, _, e => by cases e
  | .dct _ _ :: _, _, _, _, e => by cases e
  | .ins _ _ _ :: _, _, _, _, e => by cases e
  | .exn _ :: _, _, _, _, e => by cases e
theorem repL_int {K : PySem.W.Frag} {T : Hp} : ∀ ns : List Int, RepL K T (ns.map D.int) (ns.map V.int)
  | [] => rfl
  | i :: r => ⟨.int i, r.map V.int, rfl, rfl, repL_int r⟩
theorem repL_str {K : PySem.W.Frag} {T : Hp} : ∀ ns : List Str, RepL K T (ns.map D.str) (ns.map V.str)
  | [] => rfl
  | i :: r => ⟨.str i, r.map V.str, rfl, rfl, repL_str r⟩
theorem keys_int : ∀ {kvs : List (Key × V)} {ns : List Int}, intsD (kvs.map fun p => keyD p.1) = some ns → kvs.map (·.1) = ns.map Sum.inl
  | [], _, e => by cases e; rfl
  | (.inl i, v) :: r, _, e => by
    have e' : (intsD (r.map fun p => keyD p.1)).map (i :: ·) = some _ := e
    cases q : intsD (r.map fun p => keyD p.1) with
    | none => rw [q] at e'; cases e'
    | some ns => rw [q] at e'; cases e'; simp [keys_int q]
  | (.inr s, v) :: r, _, e => by cases e
theorem keys_str : ∀ {kvs : List (Key × V)} {ns : List Str}, strsD (kvs.map fun p => keyD p.1) = some ns → kvs.map (·.1) = ns.map Sum.inr
  | [], _, e => by cases e; rfl
  | (.inr i, v) :: r, _, e => by
    have e' : (strsD (r.map fun p => keyD p.1)).map (i :: ·) = some _ := e
    cases q : strsD (r.map fun p => keyD p.1) with
    | none => rw [q] at e'; cases e'
    | some ns => rw [q] at e'; cases e'; simp [keys_str q]
  | (.inl s, v) :: r, _, e => by cases e
theorem foldl_max : ∀ (is : List Int) (i : Int), (is.foldl (fun a b => if a < b then b else a) i) ∈ i :: is ∧ ∀ y ∈ i :: is, y ≤ is.foldl (fun a b => if a < b then b else a) i
  | [], i => ⟨by simp, fun y h => by simp at h; rw [h]; exact Int.le_refl _⟩
  | j :: is, i => by
    obtain ⟨h1, h2⟩ := foldl_max is (if i < j then j else i)
    rw [List.foldl_cons]
    refine ⟨?_, fun y hy => ?_⟩
    · rcases List.mem_cons.mp h1 with q | q
      · rw [q]; split <;> simp
      · exact List.mem_cons_of_mem _ (List.mem_cons_of_mem _ q)
    · have h0 := h2 _ List.mem_cons_self
      rcases List.mem_cons.mp hy with q | q
      · subst q; refine Int.le_trans ?_ h0; split <;> omega
      · rcases List.mem_cons.mp q with q | q
        · subst q; refine Int.le_trans ?_ h0; split <;> omega
        · exact h2 y (List.mem_cons_of_mem _ q)
theorem foldl_min : ∀ (is : List Int) (i : Int), (is.foldl (fun a b => if b < a then b else a) i) ∈ i :: is ∧ ∀ y ∈ i :: is, is.foldl (fun a b => if b < a then b else a) i ≤ y
  | [], i => ⟨by simp, fun y h => by simp at h; rw [h]; exact Int.le_refl _⟩
  | j :: is, i => by
    obtain ⟨h1, h2⟩ := foldl_min is (if j < i then j else i)
    rw [List.foldl_cons]
    refine ⟨?_, fun y hy => ?_⟩
    · rcases List.mem_cons.mp h1 with q | q
      · rw [q]; split <;> simp
      · exact List.mem_cons_of_mem _ (List.mem_cons_of_mem _ q)
    · have h0 := h2 _ List.mem_cons_self
      rcases List.mem_cons.mp hy with q | q
      · subst q; refine Int.le_trans h0 ?_; split <;> omega
      · rcases List.mem_cons.mp q with q | q
        · subst q; refine Int.le_trans h0 ?_; split <;> omega
        · exact h2 y (List.mem_cons_of_mem _ q)
theorem maxL_of {ns : List Int} {m : Int} (ne : ns ≠ []) (h1 : m ∈ ns) (h2 : ∀ y, y ∈ ns → y ≤ m) : maxL ns = m := by
  cases ns with
  | nil => exact absurd rfl ne
  | cons i is =>
    obtain ⟨g1, g2⟩ := foldl_max is i
    exact Int.le_antisymm (h2 _ g1) (g2 m h1)
theorem minL_of {ns : List Int} {m : Int} (ne : ns ≠ []) (h1 : m ∈ ns) (h2 : ∀ y, y ∈ ns → m ≤ y) : minL ns = m := by
  cases ns with
  | nil => exact absurd rfl ne
  | cons i is =>
    obtain ⟨g1, g2⟩ := foldl_min is i
    exact Int.le_antisymm (g2 m h1) (h2 _ g1)
theorem sortI_of {ns ns' : List Int} (h : ns'.Perm ns) (s : ns'.Pairwise (· ≤ ·)) : sortI ns = ns' := by
  have hs : (sortI ns).Pairwise (fun a b => decide (a ≤ b) = true) := List.pairwise_mergeSort (fun a b c h1 h2 => by simp at *; omega) (fun a b => by simp; omega) ns
  have hp : (sortI ns).Perm ns := List.mergeSort_perm ns _
  refine List.Perm.eq_of_pairwise (le := fun a b : Int => a ≤ b) (fun a b _ _ h1 h2 => Int.le_antisymm h1 h2) (hs.imp fun h => of_decide_eq_true h) s (hp.trans h.symm)
theorem lt_irr (a : List Nat) : ¬ a < a := List.lt_irrefl a
theorem leS_iff {a b : Str} : leS a b = true ↔ ¬ b.cps.toList < a.cps.toList := by
  unfold leS; simp
theorem leS_trans {a b c : Str} (h1 : leS a b = true) (h2 : leS b c = true) : leS a c = true := by
  rw [leS_iff] at *
  exact fun h => h2 (Classical.byContradiction fun q => by
    have h1' : a.cps.toList ≤ b.cps.toList := h1
    have q' : b.cps.toList ≤ c.cps.toList := q
    exact (List.le_trans h1' q') h)
theorem leS_total (a b : Str) : leS a b = true ∨ leS b a = true := by
  rw [leS_iff, leS_iff]
  by_cases h : b.cps.toList < a.cps.toList
  · exact .inr fun h' => lt_irr _ (List.lt_trans h h')
  · exact .inl h
theorem leS_anti {a b : Str} (h1 : leS a b = true) (h2 : leS b a = true) : a = b := by
  rw [leS_iff] at *
  have e : a.cps.toList = b.cps.toList := List.le_antisymm (show a.cps.toList ≤ b.cps.toList from h1) h2
  obtain ⟨⟨a⟩⟩ := a
  obtain ⟨⟨b⟩⟩ := b
  simp at e
  rw [e]
theorem rising_all : ∀ {r : List Str} {x : Str}, risingS x r = true → (∀ y ∈ r, leS x y = true) ∧ r.Pairwise (fun a b => leS a b = true)
  | [], _, _ => ⟨fun y h => absurd h (by simp), .nil⟩
  | y :: r, x, h => by
    unfold risingS at h
    simp only [Bool.and_eq_true, Bool.not_eq_true'] at h
    obtain ⟨h1, h2⟩ := h
    have hxy : leS x y = true := by
      rw [ltCps_eq] at h1
      unfold leS; rw [h1]; rfl
    obtain ⟨g1, g2⟩ := rising_all h2
    refine ⟨fun z hz => ?_, .cons g1 g2⟩
    rcases List.mem_cons.mp hz with q | q
    · subst q; exact hxy
    · exact leS_trans hxy (g1 z q)
theorem sortedS_pw {ss : List Str} (h : sortedS ss = true) : ss.Pairwise (fun a b => leS a b = true) := by
  cases ss with
  | nil => exact .nil
  | cons x r =>
    obtain ⟨h1, h2⟩ := rising_all h
    exact .cons h1 h2
theorem sortS_of {ns ns' : List Str} (h : ns'.Perm ns) (s : sortedS ns' = true) : sortS ns = ns' := by
  have hs : (sortS ns).Pairwise (fun a b => leS a b = true) := List.pairwise_mergeSort (le := leS) (fun a b c h1 h2 => leS_trans h1 h2) (fun a b => by rcases leS_total a b with q | q <;> simp [q]) ns
  have hp : (sortS ns).Perm ns := List.mergeSort_perm ns _
  exact List.Perm.eq_of_pairwise (fun a b _ _ h1 h2 => leS_anti h1 h2) hs (sortedS_pw s) (hp.trans h.symm)
theorem blt_rule (C : CxOk c k ck X) (bb : Blt) (xs : List XV) : ∃ (r : List V → Hp → VK → Prop), CanB X bb.nm r ∧ ∀ (O : Addr → Prop) (w : Wd) (σ : L2.St) (vs : List V) (z : XV), WOk w → (∀ p, w.H p = none → ¬ O p) → XsRep X.K O w xs vs → blt bb xs = some z →
    PostR X.K Wx (fun w' x v => XRep X.K O w' x v) σ w (.ok z) (r vs w.H) := by
  cases bb with
  | len =>
    simp only [Blt.nm]
    refine ⟨_, canB boot_len (call_lenX), fun O w σ vs z k nO rx hz => ?_⟩
    replace hz : lenB xs = some z := hz
    unfold lenB at hz
    split at hz
    · rename_i x
      cases hl : lenX x with
      | none => rw [hl] at hz; cases hz
      | some n =>
        rw [hl] at hz; cases hz
        obtain ⟨v, rfl, r⟩ := xs1 rx
        obtain ⟨m, h1, rfl⟩ := len_rep k r hl
        exact PostR.val (u := .int m) k rfl fun Q qq => ⟨v, m, rfl, h1, qq⟩
    · cases hz
  | max2 =>
    simp only [Blt.nm]
    refine ⟨_, canB boot_max (call_max2 C.calm), fun O w σ vs z k nO rx hz => ?_⟩
    replace hz : max2B xs = some z := hz
    unfold max2B at hz
    split at hz
    · cases hz
      obtain ⟨v, r, rfl, r1, r2⟩ := rx.cons
      obtain ⟨u, rfl, r3⟩ := xs1 r2
      exact PostR.val (u := .int _) k rfl fun Q qq => ⟨_, _, by rw [show v = _ from r1.cl_of, show u = _ from r3.cl_of], qq⟩
    · cases hz
  | min2 =>
    simp only [Blt.nm]
    refine ⟨_, canB boot_min (call_min2 C.calm), fun O w σ vs z k nO rx hz => ?_⟩
    replace hz : min2B xs = some z := hz
    unfold min2B at hz
    split at hz
    · cases hz
      obtain ⟨v, r, rfl, r1, r2⟩ := rx.cons
      obtain ⟨u, rfl, r3⟩ := xs1 r2
      exact PostR.val (u := .int _) k rfl fun Q qq => ⟨_, _, by rw [show v = _ from r1.cl_of, show u = _ from r3.cl_of], qq⟩
    · cases hz
  | abs =>
    simp only [Blt.nm]
    refine ⟨_, canB boot_abs (call_abs), fun O w σ vs z k nO rx hz => ?_⟩
    replace hz : absB xs = some z := hz
    unfold absB at hz
    split at hz
    · cases hz
      obtain ⟨v, rfl, r1⟩ := xs1 rx
      exact PostR.val (u := .int _) k rfl fun Q qq => ⟨_, by rw [show v = _ from r1.cl_of], qq⟩
    · cases hz
  | divmod =>
    simp only [Blt.nm]
    refine ⟨_, canB (by rfl) call_divmodW, fun O w σ vs z k nO rx hz => ?_⟩
    replace hz : divmodB xs = some z := hz
    unfold divmodB at hz
    split at hz
    · rename_i i j
      split at hz
      · rename_i hj
        cases hz
        obtain ⟨v, r, rfl, r1, r2⟩ := rx.cons
        obtain ⟨u, rfl, r3⟩ := xs1 r2
        have e1 : v = .int i := r1.cl_of
        have e2 : u = .int j := r3.cl_of
        refine fun Q qq => ⟨i, j, by rw [e1, e2], ⟨hj.1, PyProof.noPylong_of_log2 hj.2⟩, fun p hp => ?_⟩
        exact qq (w.add p (.tup [.int (i / j), .int (i % j)])) (.ref p) (Wd.add_ok k) (Wd.add_le k hp) (XRep.cl ⟨p, _, rfl, .inl (.inl upd_same), ⟨_, _, rfl, rfl, ⟨_, _, rfl, rfl, rfl⟩⟩⟩)
      · cases hz
    · cases hz
  | int1 =>
    simp only [Blt.nm]
    refine ⟨_, canT boot_int call_int1, fun O w σ vs z k nO rx hz => ?_⟩
    replace hz : int1B xs = some z := hz
    unfold int1B at hz
    split at hz
    · cases hz
      obtain ⟨v, rfl, r1⟩ := xs1 rx
      exact PostR.val (u := .int _) k rfl fun Q qq => .inl ⟨_, by rw [show v = _ from r1.cl_of], qq⟩
    · cases hz
      obtain ⟨v, rfl, r1⟩ := xs1 rx
      exact PostR.val (u := .int _) k rfl fun Q qq => .inr ⟨_, by rw [show v = _ from r1.cl_of], qq⟩
    · cases hz
  | max3 =>
    simp only [Blt.nm]
    refine ⟨_, canB boot_max (call_max3Nu C.calm), fun O w σ vs z k nO rx hz => ?_⟩
    replace hz : max3B xs = some z := hz
    unfold max3B at hz
    split at hz
    · cases hz
      rename_i i j m
      obtain ⟨v, r, rfl, r1, r2⟩ := rx.cons
      obtain ⟨u, r', rfl, r3, r4⟩ := r2.cons
      obtain ⟨t, rfl, r5⟩ := xs1 r4
      refine PostR.val (u := .int (maxI (maxI i j) m)) k rfl fun Q qq => ⟨v, u, t, .int (maxI (maxI i j) m), rfl, ?_, qq⟩
      rw [show v = _ from r1.cl_of, show u = _ from r3.cl_of, show t = _ from r5.cl_of]
      have e1 : nuMax2 (.int i) (.int j) = some (.int (maxI i j)) := by
        show some (if decide (i < j) = true then V.int j else V.int i) = _
        unfold maxI; by_cases h : i < j
        · rw [if_pos (by simpa using h), if_pos h]
        · rw [if_neg (by simpa using h), if_neg h]
      have e2 : nuMax2 (.int (maxI i j)) (.int m) = some (.int (maxI (maxI i j) m)) := by
        show some (if decide (maxI i j < m) = true then V.int m else V.int (maxI i j)) = _
        generalize maxI i j = w
        unfold maxI; by_cases h : w < m
        · rw [if_pos (by simpa using h), if_pos h]
        · rw [if_neg (by simpa using h), if_neg h]
      unfold nuMax3
      rw [e1]
      exact e2
    · cases hz
  | list1 =>
    simp only [Blt.nm]
    by_cases hd : ∃ x m q, xs = [x] ∧ x.mo = some m ∧ m.kids = none ∧ m.dic = some q
    · obtain ⟨x, m, ⟨ks, ms⟩, rfl, hm, hk, hq⟩ := hd
      refine ⟨_, canT boot_list (call_listD C.calm), fun O w σ vs z k nO rx hz => ?_⟩
      replace hz : listB [x] = some z := hz
      simp only [listB, hm, Option.bind_some, hk, hq] at hz
      cases hz
      obtain ⟨v, rfl, r1⟩ := xs1 rx
      obtain ⟨p, vs, rfl, ⟨kvs, d1, d2, d3, d4⟩, e3, e4⟩ := r1.dic k hm hq
      subst d2
      refine PostR.newl (vs := kvs.map fun kv => kV kv.1) k nO ?_ fun Q q => ⟨p, kvs, rfl, d1, q⟩
      refine repL_of (by simp) fun i d hi => ?_
      rw [List.getElem?_map] at hi
      cases hkv : kvs[i]? with
      | none => rw [hkv] at hi; cases hi
      | some kv =>
        rw [hkv] at hi
        cases hi
        exact ⟨kV kv.1, by rw [List.getElem?_map, hkv]; rfl, by obtain ⟨kk, vv⟩ := kv; cases kk <;> rfl⟩
    · refine ⟨_, canT boot_list call_list_of, fun O w σ vs z k nO rx hz => ?_⟩
      replace hz : listB xs = some z := hz
      unfold listB at hz
      split at hz
      · rename_i x
        cases hm : x.mo with
        | none => rw [hm] at hz; cases hz
        | some m =>
          rw [hm] at hz
          simp only [Option.bind_some] at hz
          cases hk : m.kids with
          | none =>
            rw [hk] at hz
            simp only at hz
            cases hq : m.dic with
            | none => rw [hq] at hz; cases hz
            | some q => exact absurd ⟨x, m, q, rfl, hm, hk, hq⟩ hd
          | some ms =>
            rw [hk] at hz
            simp only at hz
            cases hc : clM ms with
            | none => rw [hc] at hz; cases hz
            | some ds =>
              rw [hc] at hz
              cases hz
              obtain rfl := clM_map hc
              obtain ⟨v, rfl, r1⟩ := xs1 rx
              obtain ⟨a, us, rfl, e2, e3, e4⟩ := r1.kids k hm hk
              refine PostR.newl (vs := us) k nO (repL_of (by rw [← e3, List.length_map]) fun i d hi => ?_) fun Q q => ⟨a, us, rfl, e2, q⟩
              obtain ⟨u, h1, h2⟩ := e4 i (.cl d) (by rw [List.getElem?_map, hi]; rfl)
              rw [sub_cl] at h2
              exact ⟨u, h1, h2.cl_of⟩
      · cases hz
  | sum =>
    simp only [Blt.nm]
    refine ⟨_, canB (by rfl) (cr_sum C.calm), fun O w σ vs z k nO rx hz => ?_⟩
    replace hz : sumB xs = some z := hz
    unfold sumB at hz
    split at hz
    · rename_i x
      cases hl : x.rd.lds with
      | none => rw [hl] at hz; cases hz
      | some ds =>
        rw [hl] at hz
        simp only [Option.bind_some] at hz
        cases hn : intsD ds with
        | none => rw [hn] at hz; cases hz
        | some ns =>
          rw [hn] at hz; cases hz
          obtain ⟨v, rfl, r1⟩ := xs1 rx
          obtain ⟨a, us, rfl, e2, e3⟩ := r1.rd.ldsR k hl
          obtain rfl := repL_ints e3 hn
          exact PostR.val (u := .int _) k rfl fun Q qq => ⟨a, ns, rfl, e2, qq⟩
    · cases hz
  | any =>
    simp only [Blt.nm]
    refine ⟨_, canB (by rfl) (cr_any C.calm), fun O w σ vs z k nO rx hz => ?_⟩
    replace hz : anyB xs = some z := hz
    unfold anyB at hz
    split at hz
    · rename_i x
      cases hl : x.rd.lds with
      | none => rw [hl] at hz; cases hz
      | some ds =>
        rw [hl] at hz
        simp only [Option.bind_some] at hz
        cases hn : blsD ds with
        | none => rw [hn] at hz; cases hz
        | some ns =>
          rw [hn] at hz; cases hz
          obtain ⟨v, rfl, r1⟩ := xs1 rx
          obtain ⟨a, us, rfl, e2, e3⟩ := r1.rd.ldsR k hl
          obtain rfl := repL_bls e3 hn
          exact PostR.val (u := .bl _) k rfl fun Q qq => ⟨a, ns, rfl, e2, qq⟩
    · cases hz
  | all =>
    simp only [Blt.nm]
    refine ⟨_, canB (by rfl) (cr_all C.calm), fun O w σ vs z k nO rx hz => ?_⟩
    replace hz : allB xs = some z := hz
    unfold allB at hz
    split at hz
    · rename_i x
      cases hl : x.rd.lds with
      | none => rw [hl] at hz; cases hz
      | some ds =>
        rw [hl] at hz
        simp only [Option.bind_some] at hz
        cases hn : blsD ds with
        | none => rw [hn] at hz; cases hz
        | some ns =>
          rw [hn] at hz; cases hz
          obtain ⟨v, rfl, r1⟩ := xs1 rx
          obtain ⟨a, us, rfl, e2, e3⟩ := r1.rd.ldsR k hl
          obtain rfl := repL_bls e3 hn
          exact PostR.val (u := .bl _) k rfl fun Q qq => ⟨a, ns, rfl, e2, qq⟩
    · cases hz
  | maxL =>
    simp only [Blt.nm]
    refine ⟨_, canB boot_max (cr_max C.calm), fun O w σ vs z k nO rx hz => ?_⟩
    replace hz : maxLB xs = some z := hz
    unfold maxLB at hz
    split at hz
    · rename_i x
      cases hl : x.rd.lds with
      | none => rw [hl] at hz; cases hz
      | some ds =>
        rw [hl] at hz
        simp only [Option.bind_some] at hz
        cases hn : intsD ds with
        | none => rw [hn] at hz; cases hz
        | some ns =>
          rw [hn] at hz
          simp only [Option.bind_some] at hz
          split at hz
          · cases hz
          · rename_i he
            cases hz
            obtain ⟨v, rfl, r1⟩ := xs1 rx
            obtain ⟨a, us, rfl, e2, e3⟩ := r1.rd.ldsR k hl
            obtain rfl := repL_ints e3 hn
            have ne : ns ≠ [] := fun z => he (by rw [z]; rfl)
            exact PostR.val (u := .int _) k rfl fun Q qq => ⟨a, ns, rfl, e2, List.length_pos_iff.mpr ne, fun m h1 h2 => by rw [← maxL_of ne h1 h2]; exact qq⟩
    · cases hz
  | minL =>
    simp only [Blt.nm]
    refine ⟨_, canB boot_min (cr_min C.calm), fun O w σ vs z k nO rx hz => ?_⟩
    replace hz : minLB xs = some z := hz
    unfold minLB at hz
    split at hz
    · rename_i x
      cases hl : x.rd.lds with
      | none => rw [hl] at hz; cases hz
      | some ds =>
        rw [hl] at hz
        simp only [Option.bind_some] at hz
        cases hn : intsD ds with
        | none => rw [hn] at hz; cases hz
        | some ns =>
          rw [hn] at hz
          simp only [Option.bind_some] at hz
          split at hz
          · cases hz
          · rename_i he
            cases hz
            obtain ⟨v, rfl, r1⟩ := xs1 rx
            obtain ⟨a, us, rfl, e2, e3⟩ := r1.rd.ldsR k hl
            obtain rfl := repL_ints e3 hn
            have ne : ns ≠ [] := fun z => he (by rw [z]; rfl)
            exact PostR.val (u := .int _) k rfl fun Q qq => ⟨a, ns, rfl, e2, List.length_pos_iff.mpr ne, fun m h1 h2 => by rw [← minL_of ne h1 h2]; exact qq⟩
    · cases hz
  | sortI =>
    simp only [Blt.nm]
    by_cases hd : ∃ x ds, xs = [x] ∧ x.rd.lds = some ds
    · obtain ⟨x, ds, rfl, hl⟩ := hd
      refine ⟨_, canB (by rfl) cr_sortedI, fun O w σ vs z k nO rx hz => ?_⟩
      replace hz : sortIB [x] = some z := hz
      simp only [sortIB, XV.its, hl, Option.bind_some] at hz
      cases hn : intsD ds with
      | none => rw [hn] at hz; cases hz
      | some ns =>
        rw [hn] at hz; cases hz
        obtain ⟨v, rfl, r1⟩ := xs1 rx
        obtain ⟨a, us, rfl, e2, e3⟩ := r1.rd.ldsR k hl
        obtain rfl := repL_ints e3 hn
        refine PostR.newl (vs := (sortI ns).map V.int) k nO (repL_int _) fun Q q => ⟨a, ns, rfl, e2, fun ns' p h1 h2 h3 => ?_⟩
        rw [← sortI_of h1 h2]
        exact q p h3
    · by_cases hd2 : ∃ x m q ks, xs = [x] ∧ x.rd.lds = none ∧ x.rd.mo = some m ∧ m.dic = some (ks, q)
      · obtain ⟨x, m, q, ks, rfl, hl, hm, hq⟩ := hd2
        refine ⟨_, canB (by rfl) (call_sortedDI C.calm), fun O w σ vs z k nO rx hz => ?_⟩
        replace hz : sortIB [x] = some z := hz
        simp only [sortIB, XV.its, hl, hm, Option.bind_some, hq] at hz
        split at hz
        · rename_i h64
          simp only [Option.bind_some] at hz
          cases hn : intsD ks with
          | none => rw [hn] at hz; cases hz
          | some ns =>
            rw [hn] at hz; cases hz
            obtain ⟨v, rfl, r1⟩ := xs1 rx
            obtain ⟨p, us, rfl, ⟨kvs, d1, d2, d3, d4⟩, e3, e4⟩ := r1.rd.dic k hm hq
            subst d2
            have hk := keys_int hn
            have h64' : ns.length < 64 := by
              have e := congrArg List.length hk
              rw [List.length_map] at e
              rw [List.length_map] at h64 e
              omega
            refine PostR.newl (vs := (sortI ns).map V.int) k nO (repL_int _) fun Q q => ⟨p, kvs, ns, rfl, d1, hk, h64', fun ns' p h1 h2 h3 => ?_⟩
            rw [← sortI_of h1 h2]
            exact q p h3
        · cases hz
      · refine ⟨_, canB (by rfl) cr_sortedI, fun O w σ vs z k nO rx hz => ?_⟩
        replace hz : sortIB xs = some z := hz
        unfold sortIB at hz
        split at hz
        · rename_i x
          unfold XV.its at hz
          cases hl : x.rd.lds with
          | some ds => exact absurd ⟨x, ds, rfl, hl⟩ hd
          | none =>
            rw [hl] at hz
            cases hm : x.rd.mo with
            | none => rw [hm] at hz; cases hz
            | some m =>
              cases hq : m.dic with
              | none => rw [hm] at hz; simp only [Option.bind_some, hq] at hz; cases hz
              | some p => exact absurd ⟨x, m, p.2, p.1, rfl, hl, hm, hq⟩ hd2
        · cases hz
  | sortS =>
    simp only [Blt.nm]
    by_cases hd : ∃ x ds, xs = [x] ∧ x.rd.lds = some ds
    · obtain ⟨x, ds, rfl, hl⟩ := hd
      refine ⟨_, canB (by rfl) cr_sortedS, fun O w σ vs z k nO rx hz => ?_⟩
      replace hz : sortSB [x] = some z := hz
      simp only [sortSB, XV.its, hl, Option.bind_some] at hz
      cases hn : strsD ds with
      | none => rw [hn] at hz; cases hz
      | some ns =>
        rw [hn] at hz
        simp only [Option.bind_some] at hz
        split at hz
        · rename_i h64
          cases hz
          obtain ⟨v, rfl, r1⟩ := xs1 rx
          obtain ⟨a, us, rfl, e2, e3⟩ := r1.rd.ldsR k hl
          obtain rfl := repL_strs e3 hn
          refine PostR.newl (vs := (sortS ns).map V.str) k nO (repL_str _) fun Q q => ⟨a, ns, rfl, e2, h64, fun ns' p h1 h2 h3 => ?_⟩
          rw [← sortS_of h1 h2]
          exact q p h3
        · cases hz
    · by_cases hd2 : ∃ x m q ks, xs = [x] ∧ x.rd.lds = none ∧ x.rd.mo = some m ∧ m.dic = some (ks, q)
      · obtain ⟨x, m, q, ks, rfl, hl, hm, hq⟩ := hd2
        refine ⟨_, canB (by rfl) (call_sortedD C.calm), fun O w σ vs z k nO rx hz => ?_⟩
        replace hz : sortSB [x] = some z := hz
        simp only [sortSB, XV.its, hl, hm, Option.bind_some, hq] at hz
        split at hz
        · rename_i h64
          simp only [Option.bind_some] at hz
          cases hn : strsD ks with
          | none => rw [hn] at hz; cases hz
          | some ns =>
            rw [hn] at hz
            simp only [Option.bind_some] at hz
            split at hz
            · rename_i h64'
              cases hz
              obtain ⟨v, rfl, r1⟩ := xs1 rx
              obtain ⟨p, us, rfl, ⟨kvs, d1, d2, d3, d4⟩, e3, e4⟩ := r1.rd.dic k hm hq
              subst d2
              have hk := keys_str hn
              refine PostR.newl (vs := (sortS ns).map V.str) k nO (repL_str _) fun Q q => ⟨p, kvs, ns, rfl, d1, hk, h64', fun ns' p h1 h2 h3 => ?_⟩
              rw [← sortS_of h1 h2]
              exact q p h3
            · cases hz
        · cases hz
      · refine ⟨_, canB (by rfl) cr_sortedI, fun O w σ vs z k nO rx hz => ?_⟩
        replace hz : sortSB xs = some z := hz
        unfold sortSB at hz
        split at hz
        · rename_i x
          unfold XV.its at hz
          cases hl : x.rd.lds with
          | some ds => exact absurd ⟨x, ds, rfl, hl⟩ hd
          | none =>
            rw [hl] at hz
            cases hm : x.rd.mo with
            | none => rw [hm] at hz; cases hz
            | some m =>
              cases hq : m.dic with
              | none => rw [hm] at hz; simp only [Option.bind_some, hq] at hz; cases hz
              | some p => exact absurd ⟨x, m, p.2, p.1, rfl, hl, hm, hq⟩ hd2
        · cases hz
  | str1 =>
    simp only [Blt.nm]
    refine ⟨_, canT boot_str call_str_int, fun O w σ vs z k nO rx hz => ?_⟩
    replace hz : str1B xs = some z := hz
    unfold str1B at hz
    split at hz
    · rename_i i
      split at hz
      · rename_i hl
        cases hz
        obtain ⟨v, rfl, r1⟩ := xs1 rx
        exact PostR.val (u := .str _) k rfl fun Q qq => ⟨i, by rw [show v = _ from r1.cl_of], hl, qq⟩
      · cases hz
    · cases hz
  | intS =>
    simp only [Blt.nm]
    refine ⟨_, canT boot_int call_int_str, fun O w σ vs z k nO rx hz => ?_⟩
    replace hz : intSB xs = some z := hz
    unfold intSB at hz
    split at hz
    · rename_i s
      split at hz
      · rename_i hl
        cases hi : PySem.intText? s with
        | none => rw [hi] at hz; cases hz
        | some n =>
          rw [hi] at hz
          cases hz
          obtain ⟨v, rfl, r1⟩ := xs1 rx
          exact PostR.val (u := .int _) k rfl fun Q qq => ⟨s, n, by rw [show v = _ from r1.cl_of], hi, hl, qq⟩
      · cases hz
    · cases hz
theorem plain_args {k : Ck} : ∀ {es : Es} {xs : List Expr} {pos : Pos} {env : Env}, chkEs k es xs = true → (backTo pos (starEach xs env)).any (·.1) = false
  | .nil, [], _, _, _ => rfl
  | .nil, _ :: _, _, _, h => by unfold chkEs at h; cases h
  | .cons e es, [], _, _, h => by unfold chkEs at h; cases h
  | .cons e es, x :: xs, _, _, h => by
    unfold chkEs at h
    simp only [Bool.and_eq_true] at h
    rw [star_cons h.2]
    simp only [backTo, List.map_cons, List.any_cons, Bool.false_or]
    exact plain_args h.1.2
theorem ok_blt (C : CxOk c k ck X) {x : Str} {l : Expr} {ls : List Expr} {bb : Blt} {p2 : Pos} (hx : Str.ofString bb.nm = x) (hg : glB ck.sc x = true) (hn : nameOk x = true) (hf : bb.nm ∈ ck.free) (hs : notStar l = true) (hp : ∀ pos, (backTo pos (starEach ls X.env)).any (·.1) = false) (hA : OkA X Wx (l :: ls) fs) :
    OkE X Wx (.Call (.Name x p2) (l :: ls) [] pos) (fun sl => (fs sl).bind fun xs => R.of (blt bb xs)) := by
  intro sl σ A w t
  subst hx
  have gl : Gl X (Str.ofString bb.nm) := glB_ok (by rw [C.sc]; exact hg)
  have hm := C.free _ hf
  have dbg := nameOk_d hn
  cases hfs : fs sl with
  | stuck => simp only [hfs]; trivial
  | exc ex =>
    obtain ⟨r, h2, _⟩ := blt_rule (Wx := Wx) C bb []
    have q := hA sl σ A w t
    rw [hfs] at q
    simp only [hfs]
    exact fun Q qq => ⟨_, h2 rfl gl hm pa_we dbg.2.2 dbg.1 (star_cons hs _ _) (hp _), q _ qq⟩
  | ok xs =>
    obtain ⟨r, h2, h3⟩ := blt_rule (Wx := Wx) C bb xs
    have q := hA sl σ A w t
    rw [hfs] at q
    simp only [hfs, R.bind_ok]
    refine PostR.of_none fun z hz Q qq => ⟨_, h2 rfl gl hm pa_we dbg.2.2 dbg.1 (star_cons hs _ _) (hp _), q _ fun w1 vs k1 l1 r1 => ?_⟩
    exact h3 _ w1 σ vs z k1 (fun p np o => o (l1.h.free np)) r1 hz Q fun w' v k' l' r' => qq w' v k' (l1.trans l') r'
/-! ### a def's call -/
theorem args_rep {K : PySem.W.Frag} {w : Wd} (k : WOk w) : ∀ {xs : List XV} {vs : List V} {B : List Addr} {ss : List SV}, XsR1 K w xs vs B → argsOf xs = some ss → ArgsR K w.F w.H w.H ss vs [] ∧ bvs ss vs = []
  | [], vs, _, _, ⟨h, _⟩, e => by cases e; exact ⟨⟨h, rfl⟩, by rw [h]; rfl⟩
  | x :: xs, _, _, _, ⟨v, r, B1, B2, e1, e2, e3, e4⟩, e => by
    cases q : argsOf xs with
    | none => simp only [argsOf, q] at e; cases hx : x.arg <;> rw [hx] at e <;> cases e
    | some ss =>
      cases hx : x.arg with
      | none => simp only [argsOf, hx] at e; cases e
      | some s =>
        simp only [argsOf, hx, q] at e
        cases e
        obtain ⟨i1, i2⟩ := args_rep k e3 q
        subst e1
        cases x with
        | cl d => cases hx; exact ⟨⟨v, r, [], [], rfl, ⟨e2.1, rfl⟩, i1, rfl⟩, i2⟩
        | lk m => cases hx; obtain ⟨A, o⟩ := e2.1; exact ⟨⟨v, r, [], [], rfl, ⟨⟨A, o.mono (Ex.refl _) fun a _ o z => k.gh a o z⟩, rfl⟩, i1, rfl⟩, i2⟩
        | tm m => cases hx; obtain ⟨A, o⟩ := e2.1; exact ⟨⟨v, r, [], [], rfl, ⟨⟨A, o⟩, rfl⟩, i1, rfl⟩, i2⟩
        | nw m => cases hx
        | al => cases hx
        | mu _ _ => cases hx
/-- the place behind a call -/
def Wd.called (w : Wd) (F' H' : Hp) : Wd := ⟨F', fun a => match w.G a with | some o => some o | none => F' a, H', w.bs⟩
theorem Wd.called_ok {w : Wd} {F' H' : Hp} (e1 : Ex F' H') (e2 : Ex w.G H') : WOk (w.called F' H') := by
  refine ⟨fun a o h => ?_, fun a o h => ?_⟩
  · show (match w.G a with | some o => some o | none => F' a) = some o
    cases q : w.G a with
    | none => exact h
    | some o' =>
      have z1 := e2 a o' q
      have z2 := e1 a o h
      rw [z1] at z2; exact z2
  · have h' : (match w.G a with | some o => some o | none => F' a) = some o := h
    cases q : w.G a with
    | none => rw [q] at h'; exact e1 a o h'
    | some o' => rw [q] at h'; cases h'; exact e2 a _ q
theorem Wd.called_g {w : Wd} (F' H' : Hp) : Ex w.G (w.called F' H').G := fun a o h => by
  show (match w.G a with | some o => some o | none => F' a) = some o
  rw [h]
theorem Wd.called_le {w : Wd} (k : WOk w) {F' H' : Hp} (e0 : Ex w.F F') (e2 : Ex w.H H') (n : NewF w.H w.F F') : WLe w (w.called F' H') := by
  refine ⟨e0, Wd.called_g F' H', e2, n, fun a h q => ?_, rfl⟩
  show (match w.G a with | some o => some o | none => F' a) = none
  rw [q]
  exact n a h (k.fg.free q)
theorem noMu_ok {r : R XV} {x : XV} (h : noMu r = .ok x) : r = .ok x ∧ x.muP = (x, []) := by
  cases r with
  | stuck => cases h
  | exc e => simp only [noMu] at h; split at h <;> cases h
  | ok y => cases y <;> first | (cases h; exact ⟨rfl, rfl⟩) | cases h
theorem noMu_exc2 {r : R XV} {e : Exn} (h : noMu r = .exc e) : r = .exc e ∧ e.ms = [] := by
  cases r with
  | stuck => cases h
  | exc e' =>
    simp only [noMu] at h
    split at h
    · rename_i q
      cases h
      exact ⟨rfl, List.isEmpty_iff.mp q⟩
    · cases h
  | ok y => cases y <;> cases h
/-- what is wanted of a value -/
def WantR (K : PySem.W.Frag) (Wx : WX) (w : Wd) (σ : L2.St) (Q : VK) (r : R XV) : Prop := match r with
  | .stuck => True
  | .ok z => ∀ w' v, WOk w' → WLe w w' → XRep K (old w) w' z v → Q v w'.H
  | .exc e => ∀ w' cls d, WOk w' → WLe w w' → ExnR K w'.H e cls d → Wx cls d σ w'.H
/-- a promise used: nothing is handed in to be changed -/
theorem call_pure {K : PySem.W.Frag} {w w1 : Wd} (k1 : WOk w1) (l1 : WLe w w1) {sp : List SV → R XV} {ss : List SV} {xs : List XV} {vs : List V} {B : List Addr} {σ : L2.St} (p1 : XsR1 K w1 xs vs B) (ha : argsOf xs = some ss) {r : R XV} (hr : noMu (sp ss) = r) (hn : r ≠ .stuck) {Q : VK}
    (q : WantR K Wx w σ Q r) : spR K sp vs w1.H Q (WE Wx σ) := by
  obtain ⟨i1, i2⟩ := args_rep k1 p1 ha
  refine ⟨ss, w1.F, [], by rw [minus_nil]; exact k1.fh, by rw [minus_nil]; exact i1, List.nodup_nil, fun a h => absurd h (by simp), ?_⟩
  rw [i2]
  subst hr
  cases hc : noMu (sp ss) with
  | stuck => exact absurd hc hn
  | exc e =>
    obtain ⟨h1, h2⟩ := noMu_exc2 hc
    rw [hc] at q
    rw [h1]
    intro F' H' A' cls d e1 e2 e3 e4 _ e5
    rw [minus_nil] at e3 e4
    exact q (w1.called F' H') cls d (Wd.called_ok e2 (k1.gh.trans e3)) (l1.trans (Wd.called_le k1 e1 e3 e4)) e5
  | ok z =>
    obtain ⟨h1, h2⟩ := noMu_ok hc
    rw [hc] at q
    rw [h1]
    intro F' H' v e1 e2 e3 e4 e5
    rw [minus_nil] at e3 e4
    refine q (w1.called F' H') v (Wd.called_ok e2 (k1.gh.trans e3)) (l1.trans (Wd.called_le k1 e1 e3 e4)) ?_
    obtain ⟨B', A', x0, en⟩ := e5
    rw [h2] at x0 en
    have own : Own (w1.called F' H') B' := ⟨(List.nodup_append.mp en.nd).1, fun a ha' => by
      have no := en.no a (List.mem_append_left _ ha')
      refine ⟨?_, no.2⟩
      show (match w1.G a with | some o => some o | none => F' a) = none
      rw [k1.gh.free ((en.nb a ha').elim (fun z => absurd z (by simp)) id)]
      exact no.1⟩
    have new : ∀ a ∈ B', ¬ old w a := fun a ha' o => o (l1.h.free ((en.nb a ha').elim (fun z => absurd z (by simp)) id))
    cases z with
    | cl d => exact XRep.cl x0.1
    | nw m => exact ⟨B', x0, own, new⟩
    | al => exact ⟨B', x0, own, new⟩
    | lk m => exact x0.elim
    | tm m => exact x0.elim
    | mu _ _ => exact x0.elim
theorem ok_call (C : CxOk c k ck X) (tk : Takes X Wx) {x : Str} {l : Expr} {ls : List Expr} {ff : String} {p2 : Pos} (hx : Str.ofString ff = x) (hg : glB ck.sc x = true) (hn : nameOk x = true) (hf : ff ∈ ck.fns) (hs : notStar l = true) (hp : ∀ pos, (backTo pos (starEach ls X.env)).any (·.1) = false) (hA : OkA X Wx (l :: ls) fs) :
    OkE X Wx (.Call (.Name x p2) (l :: ls) [] pos) (fun sl => (fs sl).bind fun xs => match argsOf xs with | some ss => noMu (c ff ss) | none => .stuck) := by
  intro sl σ A w t
  subst hx
  have gl : Gl X (Str.ofString ff) := glB_ok (by rw [C.sc]; exact hg)
  obtain ⟨fa, fd, ps, hm, hk, hb, F⟩ := C.fn _ hf
  have dbg := nameOk_d hn
  have P := pe_callS (pos := pos) (p := p2) F (C.room.mono (Nat.le_succ _)) gl hm hk hb (fun σ => passAt tk σ) (pa_we (X := X) (es := l :: ls)) dbg.1 (star_cons hs _ _) (hp _)
  cases hfs : fs sl with
  | stuck => simp only [hfs]; trivial
  | exc ex =>
    have q := hA sl σ A w t
    rw [hfs] at q
    simp only [hfs]
    exact fun Q qq => ⟨_, P, q _ qq⟩
  | ok xs =>
    have q := hA sl σ A w t
    rw [hfs] at q
    simp only [hfs, R.bind_ok]
    cases ha : argsOf xs with
    | none => trivial
    | some ss =>
      show PostR _ _ _ _ _ (noMu (c ff ss)) _
      cases hc : noMu (c ff ss) with
      | stuck => trivial
      | exc ex => exact fun Q qq => ⟨_, P, q _ fun w1 vs k1 l1 ⟨B, p1, p2, p3⟩ => call_pure k1 l1 p1 ha hc (by simp) (Q := Q) qq⟩
      | ok z => exact fun Q qq => ⟨_, P, q _ fun w1 vs k1 l1 ⟨B, p1, p2, p3⟩ => call_pure k1 l1 p1 ha hc (by simp) qq⟩
/-! ### an own new object stands for ever from now on -/
theorem ok_fz (ha : OkE X Wx a f) : OkE X Wx a (fun sl => (f sl).bind fzF) := by
  intro sl σ A w t
  have q := ha sl σ A w t
  cases hf : f sl with
  | stuck => simp only [hf]; trivial
  | exc ex => rw [hf] at q; simp only [hf]; exact q
  | ok x =>
    rw [hf] at q
    simp only [hf, R.bind_ok]
    cases x with
    | cl d => exact q
    | lk m => trivial
    | tm m => trivial
    | al => trivial
    | mu _ _ => trivial
    | nw m =>
      refine fun Q qq => q Q fun w1 v k1 l1 ⟨B, p1, p2, p3⟩ => ?_
      have no : ∀ a ∈ B, w1.G a = none := fun a ha => (p2.no a ha).1
      have nw : ∀ a ∈ B, w.H a = none := fun a ha => Classical.not_not.mp (p3 a ha)
      refine qq (w1.frz B) v (Wd.frz_ok k1 B) (Wd.frz_le l1 k1 no nw) (XRep.cl ?_)
      exact ORep.rep (Wd.frz_f k1 no) (show ORep X.K w1.F w1.H m v B from p1) fun a ha o z => Wd.frz_at ha z
end
end Mo
namespace Mo
open PySem PySem.Spec PyProof.Rows L2
/-! ### ranges of any numbers -/
theorem turn_rangeL {P : Program} {w : World} {K : PySem.W.Frag} {tg : Expr} (it : Addr) (lo c : Int) (n : Nat) : Turn P w K tg (Itc lo c n) [it] it (fun i h => IsLongIter h it (lo + (i : Nat) * c) ((n : Int) - (i : Nat)) c) where
  mem := by simp
  obj := fun i h st b hb => by
    obtain rfl : b = it := by simpa using hb
    exact ⟨_, st, fun v z => nomatch z⟩
  keep := fun i h h' st k => k it (by simp) _ st
  item := by
    intro X hP hw hK hc i pins s σ H E I hf st hg
    subst hP hw hK
    obtain ⟨f0, f1, f2, f3, f4, f5⟩ := hf it (by simp)
    refine (Walks.longrange (prog := X.prog) (w := X.w) (I.ok.hd hc) it lo c n).item i s _ _ hg st fun v h' tk hv st' kk => ?_
    obtain ⟨t, rfl⟩ := hv
    have I1 : Inv X pins σ H { s with heap := h', toks := tk } := I.turned (fun b o hb e => kk b o (by simpa using hb) e) f0 f1 f3 f4 f5
    exact ⟨_, rfl, go_of (s := { s with heap := h', toks := tk }) (n := "longrange_iterator") st' rfl rfl (by decide) ⟨.int (lo + (i : Nat) * c), H, I1, ⟨t, rfl⟩, ⟨rfl, rfl⟩, st', fun b hb => (hf b hb).1⟩⟩
  done := by
    intro X hP hw hK hc i pins s σ H E I hf st hg
    subst hP hw hK
    obtain ⟨f0, f1, f2, f3, f4, f5⟩ := hf it (by simp)
    exact wpAny_pyNext_long_end (I.ok.hd hc) st (by have : n ≤ i := hg; omega) fun h' eb => ⟨rfl, I.turned (t' := s.toks) (fun b o hb e => eb b o hb e) f0 f1 f3 f4 f5⟩
  self := fun A i s Q E st h => wpAny_pyIter_longiter st h
section
variable {X : Cx} {tg : Expr}
theorem any_range_it {pins : List (Addr × Obj)} {σ : L2.St} {H : Hp} {s : Shared} {A : Around} {E : Value → Shared → Prop} {R : L2.It → Hp → Prop} {i j c : Int} {t u v : Tok} {n k : Nat} (I : Inv X pins σ H s) (hn : Builtin.Range.rangeSize i j c = n) (q : R (Itc i c n) H) :
    wpAny (model X.prog X.w) A (pyIter (.ref s.heap.objs.size)) (PIE X pins σ tg R) E { s with heap := s.heap.push { cls := .type "range", data := .fields #[.int i t, .int j u, .int c v] }, toks := k } := by
  have I2 : Inv X pins σ H { s with heap := s.heap.push { cls := .type "range", data := .fields #[.int i t, .int j u, .int c v] }, toks := k } := I.kept (t' := k) fun b o e => Heap.get?_push_of_some _ e
  have e1 : i + ((0 : Nat) : Int) * c = i := by simp
  have e2 : (n : Int) - ((0 : Nat) : Int) = Builtin.Range.rangeSize i j c := by rw [hn]; simp
  by_cases hs : Builtin.Range.small i j c = true
  · refine wpAny_pyIter_range (IsRange.new ..) hs ?_
    refine pi_one (tk := k) I2 _ (turn_rangeC _ i c n) ?_ q
    show IsRangeIter _ _ (i + ((0 : Nat) : Int) * c) ((n : Int) - ((0 : Nat) : Int)) c
    rw [e1, e2]
    exact Heap.get?_push_size _ rfl
  · refine wpAny_pyIter_longrange (IsRange.new ..) (by simpa using hs) ?_
    refine pi_one (tk := k) I2 _ (turn_rangeL _ i c n) ?_ q
    show IsLongIter _ _ (i + ((0 : Nat) : Int) * c) ((n : Int) - ((0 : Nat) : Int)) c
    rw [e1, e2]
    exact Heap.get?_push_size _ rfl
theorem size1 (i j : Int) : Builtin.Range.rangeSize i j 1 = ((j - i).toNat : Nat) := by
  unfold Builtin.Range.rangeSize
  rw [if_pos (by decide)]
  split
  · rw [Int.ediv_one]; omega
  · omega
theorem sizeC {i j c : Int} (hc : 0 < c) : Builtin.Range.rangeSize i j c = (cntR i j c : Nat) := by
  unfold Builtin.Range.rangeSize cntR
  rw [if_pos hc]
  split
  · have := Int.ediv_nonneg (show 0 ≤ j - i - 1 by omega) (show 0 ≤ c by omega)
    omega
  · rfl
def iL1 (ta : TA) : TI := fun σ H R => ta σ H fun vs H1 => ∃ j : Int, vs = [.int j] ∧ R (Itc 0 1 (j - 0).toNat) H1
def iL2 (ta : TA) : TI := fun σ H R => ta σ H fun vs H1 => ∃ i j : Int, vs = [.int i, .int j] ∧ R (Itc i 1 (j - i).toNat) H1
def iL3 (ta : TA) : TI := fun σ H R => ta σ H fun vs H1 => ∃ i j c : Int, vs = [.int i, .int j, .int c] ∧ 0 < c ∧ Builtin.divisionGoesByPylong (j - i) c = false ∧ R (Itc i c (cntR i j c)) H1
theorem pi_any1 {a : Expr} {ta : TA} {p pos : Pos} (hg : Gl X "range") (hm : X.mg "range" = none) (ha : PA X [a] ta) (hs : starEach [a] X.env = [(false, eval a X.env)]) : PI X tg (.Call (.Name "range" p) [a] [] pos) (iL1 ta) := by
  refine ⟨fun pins s σ H R I h => ?_⟩
  refine Call_ (ld_blt I hg hm boot_range (PyProof.Rows.callWith_type1 (thn (ha.run pos pins s σ H _ I h) fun us s1 ⟨vs, H1, I1, r1, q1⟩ => ?_) hs rfl))
  obtain ⟨j, e, q⟩ := q1
  subst e
  cases r1 with
  | cons r rr =>
    cases rr
    obtain ⟨t, rfl⟩ := r
    exact call_range_1 (any_range_it I1 (size1 0 j) q)
theorem pi_any2 {a b : Expr} {ta : TA} {p pos : Pos} (hg : Gl X "range") (hm : X.mg "range" = none) (ha : PA X [a, b] ta) (hs : starEach [a, b] X.env = [(false, eval a X.env), (false, eval b X.env)]) (hs2 : starEach [b] X.env = [(false, eval b X.env)]) :
    PI X tg (.Call (.Name "range" p) [a, b] [] pos) (iL2 ta) := by
  refine ⟨fun pins s σ H R I h => ?_⟩
  refine Call_ (ld_blt I hg hm boot_range (PyProof.Rows.callWith_type1 (thn (ha.run pos pins s σ H _ I h) fun us s1 ⟨vs, H1, I1, r1, q1⟩ => ?_) (by rw [hs, hs2]) (by rw [hs2]; rfl)))
  obtain ⟨i, j, e, q⟩ := q1
  subst e
  cases r1 with
  | cons r rr =>
    cases rr with
    | cons r' rr =>
      cases rr
      obtain ⟨t, rfl⟩ := r
      obtain ⟨t', rfl⟩ := r'
      exact call_range_2 (any_range_it I1 (size1 i j) q)
theorem pi_any3 {a b c : Expr} {ta : TA} {p pos : Pos} (hg : Gl X "range") (hm : X.mg "range" = none) (ha : PA X [a, b, c] ta) (hs : starEach [a, b, c] X.env = (false, eval a X.env) :: starEach [b, c] X.env) (hpl : (backTo pos (starEach [b, c] X.env)).any (·.1) = false) :
    PI X tg (.Call (.Name "range" p) [a, b, c] [] pos) (iL3 ta) := by
  refine ⟨fun pins s σ H R I h => ?_⟩
  refine Call_ (ld_blt I hg hm boot_range (PyProof.Rows.callWith_type1 (thn (ha.run pos pins s σ H _ I h) fun us s1 ⟨vs, H1, I1, r1, q1⟩ => ?_) hs hpl))
  obtain ⟨i, j, k, e, c0, c1, q⟩ := q1
  subst e
  cases r1 with
  | cons r rr =>
    cases rr with
    | cons r' rr =>
      cases rr with
      | cons r'' rr =>
        cases rr
        obtain ⟨t, rfl⟩ := r
        obtain ⟨t', rfl⟩ := r'
        obtain ⟨t'', rfl⟩ := r''
        exact call_range_3 (by omega) (any_range_it I1 (sizeC c0) q) (.inl c1)
end
end Mo
namespace Mo
open PySem PySem.Spec PyProof.Rows L2
/-! ### a list of a range of any bounds -/
section
variable {P : Program} {w : World} {B : Around} {X : Value → Shared → Prop} {st : Shared} {rg it L : Addr} {i j k : Int} {t u v : Tok} {m : Nat}
/-- what a list of m numbers is -/
abbrev Full (h : Heap) (L : Addr) (i k : Int) (m : Nat) : Prop := ∃ (its : Array Value) (cap : Nat), h.get? L = some { cls := .type "list", dict := none, data := .seq its cap, slots := #[] } ∧ ItemsOf (fun q v => ∃ t, v = .int (i + q * k) t) its m
/-- the walk's turns fill the list -/
theorem fill_long {h : Heap} {tk cap : Nat} {y : Value} {Z : Result → Shared → Prop} (calm : B.handled = none) (ne : L ≠ it) (few : m ≤ 2 ^ 24) (hi : IsLongIter h it i m k) (hL : h.get? L = some { cls := .type "list", data := .seq #[] cap })
    (fin : ∀ h2 tk2, (∀ x o, x ≠ L → x ≠ it → h.get? x = some o → h2.get? x = some o) → Full h2 L i k m → Z (.ok (.ret y)) { st with heap := h2, toks := tk2 }) :
    codeAny (model P w) B (.builtin "list.extend.loop" ⟨[.ref L, .ref it, y], []⟩) Z { st with heap := h, toks := tk } := by
  have Wk := (Walks.longrange (prog := P) (w := w) (A := B.in1) calm it i k m).toS
  have start : IsLongIter h it (i + ((0 : Nat) : Int) * k) ((m : Int) - ((0 : Nat) : Int)) k := by
    have e1 : i + ((0 : Nat) : Int) * k = i := by simp
    have e2 : (m : Int) - ((0 : Nat) : Int) = m := by simp
    rw [e1, e2]; exact hi
  refine codeAny_extend_loopS Wk (by rw [sizeLine_eq]; exact few) L (by simpa using ne) y m 0 _ #[] cap rfl (Nat.zero_le _) start hL (ItemsOf.nil _) ?_
  intro s2 its cap2 mv g full
  rw [Moved.eq_with mv]
  exact fin _ _ (fun x o n1 n2 ho => mv.heap x o (by simp [n1, n2]) ho) ⟨its, cap2, g, full⟩
theorem list_long {Z : Value → Shared → Prop} (calm : B.handled = none) (hr : IsRange st.heap rg i j k t u v) (big : Builtin.Range.small i j k = false) (hm : Builtin.Range.rangeSize i j k = m) (few : m ≤ 2 ^ 24)
    (fin : ∀ h2 tk2, (∀ x o, st.heap.get? x = some o → h2.get? x = some o) → Full h2 st.heap.objs.size i k m → Z (.ref st.heap.objs.size) { st with heap := h2, toks := tk2 }) :
    wpAny (model P w) B (call (.type "list") [.ref rg]) Z X st := by
  refine callType_codes (Q₁ := fun ob s1 => ob = .ref st.heap.objs.size ∧ s1 = { st with heap := st.heap.push { cls := .type "list", data := .seq #[] } }) F.called_list (F.typeCall_list_1 _) F.entry_list_init (code_list_new _ ⟨rfl, rfl⟩) ?_
  rintro _ _ ⟨rfl, rfl⟩
  have old : ∀ {x : Addr} {o : Obj}, st.heap.get? x = some o → x ≠ st.heap.objs.size := fun ho => Nat.ne_of_lt (Heap.lt_size ho)
  have g0 : (st.heap.push { cls := .type "list", data := .seq #[] }).get? st.heap.objs.size = some { cls := .type "list", data := .seq #[] } := Heap.get?_push_size _ rfl
  refine ⟨⟨_, g0, rfl⟩, F.args_list_init_2 _ _, ?_⟩
  show wpAny _ _ (Builtin.List.listItems _ >>= _) _ _ _
  refine wpAny_bind ?_
  unfold Builtin.List.listItems
  refine wpAny_bind (wpAny_seqItems g0 rfl ?_)
  refine wpAny_pure ?_
  show wpAny _ _ (updateSeq _ (fun _ => (#[] : Array Value)) >>= _) _ _ _
  refine wpAny_bind (wpAny_updateSeq g0 rfl ?_)
  refine wpAny_bind (wpAny_letGo ?_)
  -- the list, emptied; all else stands
  have keep1 : ∀ {x : Addr} {o : Obj}, st.heap.get? x = some o → ((st.heap.push { cls := .type "list", data := .seq #[] }).update st.heap.objs.size (Obj.mapSeq fun _ => (#[] : Array Value))).get? x = some o := fun ho => by
    rw [Heap.get?_update_other _ _ (old ho).symm]
    exact Heap.get?_push_of_some _ ho
  have g1 := Heap.get?_update_self (Obj.mapSeq fun _ => (#[] : Array Value)) g0 rfl
  generalize (st.heap.push { cls := .type "list", data := .seq #[] }).update st.heap.objs.size (Obj.mapSeq fun _ => (#[] : Array Value)) = hA at keep1 g1 ⊢
  have hrA : IsRange hA rg i j k t u v := keep1 hr
  have neq : Builtin.List.listSameRef (.ref st.heap.objs.size) (.ref rg) = false := by
    have := old hr
    simp [Builtin.List.listSameRef]
    exact fun z => this z.symm
  unfold Builtin.List.listExtendWith
  refine wpAny_bind (wpAny_typeOf (T := "range") ⟨_, hrA, rfl⟩ ?_)
  rw [neq, show (Value.type "range" == Value.type "list") = false by decide, show (Value.type "range" == Value.type "tuple") = false by decide]
  simp only [Bool.or_self, Bool.false_eq_true, if_false]
  refine wpAny_bind (wpAny_pyIter_longrange hrA big ?_)
  refine wpAny_bind ?_
  refine wpAny_holding ?_
  refine wpAny_hint_range (n := m) (Heap.get?_push_of_some _ hrA) hm few ?_
  have lt0 : st.heap.objs.size < hA.objs.size := Heap.lt_size g1
  have g2 := Heap.get?_push_of_some { cls := .type "longrange_iterator", data := .fields #[rawInt i, rawInt (Builtin.Range.rangeSize i j k), rawInt k] } g1
  have it2 : IsLongIter (hA.push { cls := .type "longrange_iterator", data := .fields #[rawInt i, rawInt (Builtin.Range.rangeSize i j k), rawInt k] }) hA.objs.size i m k := by
    rw [hm]
    exact Heap.get?_push_size _ rfl
  have keep2 : ∀ {x : Addr} {o : Obj}, st.heap.get? x = some o → (hA.push { cls := .type "longrange_iterator", data := .fields #[rawInt i, rawInt (Builtin.Range.rangeSize i j k), rawInt k] }).get? x = some o ∧ x ≠ hA.objs.size := fun ho => ⟨Heap.get?_push_of_some _ (keep1 ho), Nat.ne_of_lt (Heap.lt_size (keep1 ho))⟩
  have last : ∀ {h3 : Heap} {tk cap : Nat}, IsLongIter h3 hA.objs.size i m k → h3.get? st.heap.objs.size = some { cls := .type "list", data := .seq #[] cap } → (∀ x o, st.heap.get? x = some o → h3.get? x = some o) →
      codeAny (model P w) B.in1 (.builtin "list.extend.loop" ⟨[.ref st.heap.objs.size, .ref hA.objs.size, .none], []⟩) (wants (fun r s2 => r = .none ∧ Z (.ref st.heap.objs.size) s2) X) { st with heap := h3, toks := tk } := fun a1 a2 a3 =>
    fill_long calm (Nat.ne_of_lt lt0) few a1 a2 fun h2 tk2 kp full => ⟨rfl, fin h2 tk2 (fun x o ho => kp x o (old ho) (keep2 ho).2 (a3 x o ho)) full⟩
  refine wpAny_ite_split (fun _ => ?_) (fun _ => wpAny_pure ⟨plainId_quiet F.plain_extend_loop _, last it2 g2 fun x o ho => (keep2 ho).1⟩)
  refine wpAny_bind (wpAny_rule ?_)
  refine wpAny_bind ?_
  show wpAny _ _ (updateSeq _ (·.push Value.none) >>= fun _ => updateSeq _ (·.pop)) _ _ _
  have ni : hA.objs.size ≠ st.heap.objs.size := (Nat.ne_of_lt lt0).symm
  have g3 := Heap.get?_update_self (Obj.mapSeq (·.push Value.none)) g2 rfl
  have g4 := Heap.get?_update_self (Obj.mapSeq (·.pop)) g3 rfl
  refine wpAny_bind (wpAny_updateSeq g2 rfl ?_)
  refine wpAny_updateSeq (hz := by seq_fits) g3 rfl ?_
  refine wpAny_pure ⟨plainId_quiet F.plain_extend_loop _, last ?_ g4 fun x o ho => ?_⟩
  · show Heap.get? _ _ = _
    rw [Heap.get?_update_other _ _ ni.symm, Heap.get?_update_other _ _ ni.symm]; exact it2
  · rw [Heap.get?_update_other _ _ (old ho).symm, Heap.get?_update_other _ _ (old ho).symm]; exact (keep2 ho).1
end
/-! list(range(a, b)) as a rule -/
section
variable {X : Cx} {e : Expr} {te : L2.St → Hp → (Int → Int → Hp → Prop) → Prop}
def tRgL (te : L2.St → Hp → (Int → Int → Hp → Prop) → Prop) : TE := fun σ H Q => te σ H fun a b H1 => (b - a).toNat ≤ 1000000 ∧ ∀ q, H1 q = none → Q (.ref q) (upd H1 q (.lst (rgV a b)))
theorem pe_rgL {p pos : Pos} (hc : X.calm = true) (hg : Gl X "list") (hm : X.mg "list" = none) (he : PRg X e te) (na : starEach [e] X.env = (false, eval e X.env) :: starEach [] X.env := by rfl) : PE X (.Call (.Name "list" p) [e] [] pos) (tRgL te) := by
  refine ⟨fun pins s σ H Q I h => Call_ (ld_blt I hg hm boot_list (PyProof.Rows.callWith_type1 (args_cons (thn (he pins s σ H _ I h) ?_) na) na))⟩
  rintro x s1 ⟨r, a, b, t, u, v, H1, rfl, hr, I1, few, q⟩
  refine args_nil ?_
  have few' : (b - a).toNat ≤ 2 ^ 24 := Nat.le_trans few (by decide)
  have fin : ∀ (h2 : Heap) (tk2 : Nat) (its : Array Value) (cap : Nat), (∀ y o, s1.heap.get? y = some o → h2.get? y = some o) → h2.get? s1.heap.objs.size = some { cls := .type "list", dict := none, data := .seq its cap, slots := #[] } → ItemsOf (fun q v => ∃ t, v = .int (a + q * 1) t) its (b - a).toNat → EP X pins σ Q (.ref s1.heap.objs.size) { s1 with heap := h2, toks := tk2 } := by
    intro h2 tk2 its cap kp g full
    refine ⟨.ref s1.heap.objs.size, upd H1 s1.heap.objs.size (.lst (rgV a b)), I1.laid kp (Nat.le_refl _) ?_, rfl, q _ (I1.hok.fresh (Nat.le_refl _))⟩
    have full' := vals_rg full
    refine (⟨by rw [rgV_length, sizeLine_eq]; exact few', its.toList, cap, full', ?_⟩ : ObjOk X.prog X.w _ _ _ (.lst (rgV a b)))
    rw [Array.toArray_toList]; exact g
  by_cases sm : Builtin.Range.small a b 1 = true
  · exact call_list_range (I1.ok.hd hc) hr sm (size1 a b) few' fun h2 tk2 its cap kp g full => fin h2 tk2 its cap kp g full
  · exact list_long (I1.ok.hd hc) hr (by simpa using sm) (size1 a b) few' fun h2 tk2 kp ⟨its, cap, g, full⟩ => fin h2 tk2 its cap kp g full
end
end Mo
namespace Mo
open PySem PySem.Spec PyProof.Rows L2
/-! ### a def that tells an item of a tuple, called by sorted -/
theorem key_call {prog : Program} {w : World} {A : Around} {s : Shared} {K : PySem.W.Frag} {fa : Addr} {j : Nat} (F : IxFn K fa j) (KX : K.In s.heap) (lim : s.heap.NoLimit) (hd : A.depth < recursionLimit)
    {t : Addr} {its : List Value} (ht : IsTup s.heap t its.toArray) {k : Int} {tk0 : Tok} (hj : its[j]? = some (.int k tk0)) :
    wpAny (model prog w) A (call (.ref fa) [.ref t]) (PySem.W.KeyPure (.int k) s) (fun _ _ => False) s := by
  obtain ⟨nm, qual, p, params, scope, fd, p1, p2, p3, p4, jk, FD, S, hl, hc, hn, hj9, hb⟩ := F.ex
  obtain ⟨oc, od, dV, kV, doc, pm, an, cdv, ct, osl, rfl, lk, hcd, _, _⟩ := FD.ex
  refine wpAny_call (codeAny_call_function hd (KX _ _ lk) rfl S.co S.gen rfl (PySem.W.codeRec_of KX hcd) (hb s (.ref t) KX _ _ _ _ ?_))
  refine wpAny_newFunctionEnv hc (fun x hx => ?_) (fun h' hns hsb => ⟨lim.fresh _ hsb, codeAny_func ?_⟩) S.kind
  · obtain rfl := List.mem_singleton.mp hx
    exact hl
  have keep : ∀ b o, s.heap.get? b = some o → h'.get? b = some o := fun b o e => hsb.extBut b o (Nat.ne_of_lt (Heap.lt_size e)) (Heap.get?_push_of_some _ e)
  have hjl : j < its.length := (List.getElem?_eq_some_iff.mp hj).1
  refine wpAny_execs_cons (wpAny_Return_some (Subscript_ (wpAny_Name (wpAny_loadName_local S.kind hl hns (v := .ref t) (by simp) ?_) (nameOk_d hn).1)))
  refine wpAny_Constant_int ?_
  refine item_tupleL (j := j) (ht.keeps keep) (by omega) (by omega) (by rw [seqIndex_of (by omega) (by omega)]; simp) hj ?_
  exact ⟨_, _, rfl, keep, Reads.int k tk0⟩
/-- sorted(xs, key=f), f such a def -/
def rSrt (K : PySem.W.Frag) (j : Nat) : V → Hp → VK → Prop := fun x H Q => ∃ (T : Hp) (a : Addr) (vs : List V) (ds : List D), x = .ref a ∧ SqL K H a vs ∧ RepL K T ds vs ∧ Ex T H ∧ ds.length ≤ 100000 ∧ (ds.all fun d => (keyJ j d).isSome) = true ∧
  ∀ vs', RepL K T (sortKD j ds) vs' → ∀ p, H p = none → Q (.ref p) (upd H p (.lst vs'))
section
variable {c : Calls} {k : Nat} {ck : Ck} {X : Cx} {Wx : WX} {a b e : Expr} {f g h : Sl → R XV} {pos : Pos} {es : List Expr} {fs : Sl → R (List XV)}
theorem repL_zip {K : PySem.W.Frag} {T : Hp} : ∀ {l : List (V × D)}, (∀ p ∈ l, Rep K T p.2 p.1) → RepL K T (l.map (·.2)) (l.map (·.1))
  | [], _ => rfl
  | p :: l, h => ⟨p.1, l.map (·.1), rfl, h p (by simp), repL_zip fun q hq => h q (by simp [hq])⟩
theorem repL_pairs {K : PySem.W.Frag} {T : Hp} : ∀ {ds : List D} {vs : List V}, RepL K T ds vs → ∀ p ∈ vs.zip ds, Rep K T p.2 p.1
  | [], vs, h, p, hp => by
    obtain rfl : vs = [] := h
    simp at hp
  | d :: ds, _, ⟨v, r, e1, e2, e3⟩, p, hp => by
    subst e1
    rw [List.zip_cons_cons] at hp
    rcases List.mem_cons.mp hp with q | q
    · rw [q]; exact e2
    · exact repL_pairs e3 p q
theorem each_of {R : Value → (V × D) → Prop} : ∀ {us : List Value} {vs : List V} {ds : List D}, Vals vs us → ds.length = vs.length → (∀ p ∈ vs.zip ds, ∀ u, RelV p.1 u → R u p) → PySem.W.EachIs R us (vs.zip ds)
  | [], _, ds, .nil, hl, _ => by
    rw [List.zip_nil_left]; exact .nil
  | u :: us, v :: vs, [], .cons r rs, hl, _ => by simp at hl
  | u :: us, v :: vs, d :: ds, .cons r rs, hl, h => by
    rw [List.zip_cons_cons]
    exact .cons (h (v, d) (by rw [List.zip_cons_cons]; exact List.mem_cons_self) u r) (each_of rs (by simpa using hl) fun p hp u' r' => h p (by rw [List.zip_cons_cons]; exact List.mem_cons_of_mem _ hp) u' r')
theorem vals_each {R : Value → (V × D) → Prop} (hR : ∀ u p, R u p → RelV p.1 u) : ∀ {us : List Value} {bs : List (V × D)}, PySem.W.EachIs R us bs → Vals (bs.map (·.1)) us
  | _, _, .nil => .nil
  | _, _, .cons r rs => .cons (hR _ _ r) (vals_each hR rs)
theorem srt_run {j : Nat} {fa : Addr} (F : IxFn X.K fa j) (hr : Room 0 X.A) {pins : List (Addr × Obj)} {s : Shared} {σ : L2.St} {H : Hp} {x : V} {u : Value} {Q : VK} (I : Inv X pins σ H s) (rx : RelV x u) (h : rSrt X.K j x H Q) :
    wpAny (model X.prog X.w) X.A (call (.builtin "sorted") [u] [(Str.ofString "key", .ref fa)]) (EP X pins σ Q) X.xe s := by
  obtain ⟨T, a, vs, ds, rfl, hs, rp, eT, hl, hk, q⟩ := h
  obtain rfl : u = .ref a := rx
  obtain ⟨its, rv, pl, hz⟩ := I.list hs
  have hlen := rp.length
  -- each item a tuple with its key
  let R : Value → (V × D) → Prop := fun u p => RelV p.1 u ∧ Rep X.K T p.2 p.1 ∧ p ∈ vs.zip ds
  have ea : PySem.W.EachIs R its (vs.zip ds) := each_of rv hlen fun p hp u r => ⟨r, repL_pairs rp p hp, hp⟩
  have hu := hr.units
  refine PySem.W.sorted_key_data (b := false) (R := R) (fun p : V × D => .int (keyN j p.2)) pl.isList ea ?_ ?_ ?_ (fun p _ => ?_) (ksk_s1 _ _) (fun _ => ksk_l1 _ _) (fun _ => ksk_t1 _ _) (fun v p hR hp h tk kp => ?_) fun out c h' tk kp hn hD hol eo => ?_
  · exact PySem.W.AllAlike.of fun _ _ => by simp [PySem.W.alike]
  · exact PySem.W.Sortable.others fun _ => ⟨(by intro z; cases z), (by intro xs z; cases z)⟩
  · rw [List.length_zip]
    have : ds.length ≤ sizeLine := Nat.le_trans hl (by decide)
    omega
  · have hd0 : (PyData.int (keyN j p.2)).depth = 0 := by simp [PyData.depth]
    omega
  · -- the def is called
    have hpd : p.2 ∈ ds := (List.of_mem_zip hp).2
    have hkey := List.all_eq_true.mp hk _ hpd
    obtain ⟨r1, r2, _⟩ := hR
    obtain ⟨v0, d0⟩ := p
    have I2 : Inv X pins σ H { s with heap := h, toks := tk } := I.kept (t' := tk) kp
    cases d0 with
    | tup es =>
      obtain ⟨t, us, e1, e2, e3⟩ := r2
      have e1' : v0 = .ref t := e1
      subst e1'
      obtain rfl : v = .ref t := r1
      obtain ⟨its2, rv2, ht, hz2⟩ := I2.tuple (eT.sqt e2)
      have hkk : ∃ kk, es[j]? = some (.int kk) ∧ keyN j (.tup es) = kk := by
        unfold keyN
        simp only [keyJ] at hkey ⊢
        split at hkey
        · rename_i kk hes; exact ⟨kk, hes, rfl⟩
        · cases hkey
      obtain ⟨kk, h1, h2⟩ := hkk
      obtain ⟨u1, h3, h4⟩ := e3.get h1
      have h4' : u1 = .int kk := h4
      subst h4'
      obtain ⟨w1, h5, t0, rfl⟩ := rv2.get h3
      show wpAny _ _ _ (PySem.W.KeyPure (.int (keyN j (.tup es))) _) _ _
      rw [h2]
      exact key_call (A := X.A.in1.in1) F I2.kIn I2.nolimit (by have := hr.depth; exact this) ht h5
    | _ => cases hkey
  · have I2 : Inv X pins σ H { s with heap := h', toks := tk } := I.kept (t' := tk) kp
    have hm : (vs.zip ds).mergeSort (PySem.W.dataLe false fun p : V × D => .int (keyN j p.2)) = (vs.zip ds).mergeSort (fun p q => decide (keyN j p.2 ≤ keyN j q.2)) := by
      rw [PySem.W.dataLe_int]
    rw [hm] at eo
    have hval := vals_each (fun u p r => r.1) eo
    have hds : ((vs.zip ds).mergeSort (fun p q => decide (keyN j p.2 ≤ keyN j q.2))).map (·.2) = sortKD j ds := by
      rw [List.map_mergeSort (s := fun a b => decide (keyN j a ≤ keyN j b)) (fun a _ b _ => rfl)]
      unfold sortKD
      rw [List.map_snd_zip (by omega)]
    have hrep : RepL X.K T (sortKD j ds) (((vs.zip ds).mergeSort (fun p q => decide (keyN j p.2 ≤ keyN j q.2))).map (·.1)) := by
      rw [← hds]
      exact repL_zip fun p hp => repL_pairs rp p (List.mem_mergeSort.mp hp)
    have hnone : H (s.heap.objs.size + 1) = none := I.hok.fresh (Nat.le_succ _)
    refine ⟨.ref (s.heap.objs.size + 1), _, I.laid (t' := tk) (h' := h') kp (Nat.le_succ _) (show ObjOk X.prog X.w _ _ _ (.lst _) from ⟨?_, out, c, hval, hD⟩), rfl, q _ hrep _ hnone⟩
    rw [hval.length, hol, List.length_zip]
    have : ds.length ≤ sizeLine := Nat.le_trans hl (by decide)
    omega
theorem call_sortKey {j : Nat} {fa : Addr} (F : IxFn X.K fa j) (hr : Room 0 X.A) : CallRK X (.builtin "sorted") [Str.ofString "key"] (fun xs zs H Q => ∃ x, xs = [x] ∧ zs = [.ref fa] ∧ rSrt X.K j x H Q) := by
  intro pins s σ H vs zs us ws Q I r rz h
  obtain ⟨x, rfl, rfl, h⟩ := h
  obtain ⟨u, rfl, ru⟩ := vals1 r
  obtain ⟨w1, rfl, e1⟩ := vals1 rz
  obtain rfl : w1 = Value.ref fa := e1
  exact srt_run F hr I ru h
theorem ok_srt (C : CxOk c k ck X) {ff : String} {j : Nat} {y : Str} {p2 p3 p4 : Pos} (hg : glB ck.sc "sorted" = true) (hf : "sorted" ∈ ck.free) (hy : Str.ofString ff = y) (hgy : glB ck.sc y = true) (hny : nameOk y = true) (hix : (ff, j) ∈ ck.ixf) (hs : notStar a = true) (ha : OkE X Wx a f) :
    OkE X Wx (.Call (.Name "sorted" p2) [a] [⟨some "key", .Name y p3, p4⟩] pos) (fun sl => (f sl).bind (srtF j)) := by
  subst hy
  obtain ⟨fa, hm, F⟩ := C.ixf _ _ hix
  have P := pe_callBK (pos := pos) (p := p2) (call_sortKey F (C.room.mono (Nat.zero_le _))) (glB_ok (by rw [C.sc]; exact hg)) (C.free _ hf) (by rfl) (pa_cons (pe_we (X := X) (e := a)) pa_nil (star_cons hs _ _)) (pk_cons (nm := some "key") (kpos := p4) (pe_glob (pos := p3) (v := .ref fa) (glB_ok (by rw [C.sc]; exact hgy)) hm rfl (nameOk_d hny).1) pk_nil) (he := by rw [star_cons hs]; rfl) (hpl := by rw [star_cons hs]; rfl)
  exact ok_op1 ha fun x => ⟨fun v H Q => ∃ x, [v] = [x] ∧ [V.ref fa] = [V.ref fa] ∧ rSrt X.K j x H Q, fun σ H Q q => ⟨_, P, q⟩, fun w0 w σ v k l rx => by
    unfold srtF
    cases hl : x.rd.lds with
    | none => trivial
    | some ds =>
      simp only
      split
      · rename_i hc
        obtain ⟨a, vs, rfl, e2, e3⟩ := rx.rd.ldsR k hl
        have eF := k.fh
        refine fun Q qq => ⟨_, rfl, trivial, w.F, a, vs, ds, rfl, e2, e3, eF, hc.1, hc.2, fun vs' r p np => ?_⟩
        exact qq (w.own p (.lst vs')) (.ref p) (Wd.own_ok k np) (Wd.own_le np) (lst_new k np (fun p np o => o (l.h.free np)) r)
      · trivial⟩
/-! ### attributes, methods, instances -/
theorem att_base {o : Expr} (h : attOk o = true) (m : Str) (env : Env) (w : Sem Value) : attributeBase o m env w = w := by
  unfold attributeBase
  cases o with
  | Call fn as ks p =>
    cases fn with
    | Name x q =>
      cases as with
      | nil => cases ks with
        | nil => cases h
        | cons _ _ => rfl
      | cons _ _ => rfl
    | _ => rfl
  | _ => rfl
theorem findIx_lookup (f : Str) : ∀ {fs : List (Str × V)} {j : Nat}, (fs.map (·.1)).findIdx? (fun g => decide (g = f)) = some j → fs.lookup f = (fs.map (·.2))[j]?
  | [], j, h => by cases h
  | (g, x) :: r, j, h => by
    rw [List.map_cons, List.findIdx?_cons] at h
    by_cases e : g = f
    · subst e
      simp at h; subst h
      simp [List.lookup]
    · simp only [e, decide_false, Bool.false_eq_true, if_false] at h
      cases q : (r.map (·.1)).findIdx? (fun g => decide (g = f)) with
      | none => rw [q] at h; cases h
      | some i =>
        rw [q] at h
        cases h
        have ih := findIx_lookup f q
        have e2 : (f == g) = false := beq_false_of_ne (Ne.symm e)
        simp [List.lookup, e2, ih]
theorem anyIx_lookup (f : Str) : ∀ {fs : List (Str × V)}, ((fs.map (·.1)).any fun g => decide (g = f)) = false → fs.lookup f = none
  | [], _ => rfl
  | (g, x) :: r, h => by
    rw [List.map_cons, List.any_cons, Bool.or_eq_false_iff] at h
    have e : ¬ g = f := of_decide_eq_false h.1
    have e2 : (f == g) = false := beq_false_of_ne (Ne.symm e)
    simp [List.lookup, e2, anyIx_lookup f h.2]
theorem ok_fld (C : CxOk c k ck X) {cl ff : String} {x : Str} (hx : Str.ofString ff = x) (hc : cl ∈ ck.cls) (hn : (cl, ff) ∈ ck.nat) (hb : attOk a = true) (ha : OkE X Wx a f) : OkE X Wx (.Attribute a x pos) (fun sl => (f sl).bind fun y => R.of (fldF cl (Str.ofString ff) y)) := by
  subst hx
  refine ok_op1 ha fun y => ⟨fun v H Q => ∃ a C dx fs z, v = .ref a ∧ H a = some (.ins C dx fs) ∧ Cls X.K C ∧ NoAttr X.K C (Str.ofString ff) ∧ fs.lookup (Str.ofString ff) = some z ∧ Q z H, fun σ H Q q => ⟨_, pe_fld pe_we (att_base hb _ _ _), q⟩, fun w0 w σ v k l rx => PostR.of_none fun z hz => ?_⟩
  unfold fldF at hz
  cases hm : y.mo with
  | none => rw [hm] at hz; cases hz
  | some m =>
    rw [hm] at hz
    simp only [Option.bind_some] at hz
    split at hz
    · rename_i c' ns ms hi
      split at hz
      · rename_i hcc
        subst hcc
        obtain ⟨p, dx, fs, rfl, e2, e3, e4⟩ := rx.inst k hm hi
        subst e3
        cases hj : (fs.map (·.1)).findIdx? (fun g => decide (g = Str.ofString ff)) with
        | none => rw [hj] at hz; cases hz
        | some j =>
          rw [hj] at hz
          simp only [Option.bind_some] at hz
          cases hms : ms[j]? with
          | none => rw [hms] at hz; cases hz
          | some m' =>
            rw [hms] at hz
            cases hz
            obtain ⟨u, h1, h2⟩ := e4 j m' hms
            exact fun Q qq => ⟨p, _, dx, fs, u, rfl, e2, C.cls _ hc, C.nat _ _ hn, by rw [findIx_lookup _ hj, h1], qq w u k (WLe.refl w) h2⟩
      · cases hz
    · cases hz
/-- the tree of a method's call -/
theorem meth_tree {o : Expr} {m : Str} {apos cpos : Pos} {as : List Expr} {env : Env} (hb : attOk o = true) (hl : (apos.endLine == cpos.line) = true) (hp : (backTo cpos (starEach as env)).any (·.1) = false) (h20 : as.length < 20) :
    eval (.Call (.Attribute o m apos) as [] cpos) env = (do
      let ov ← eval o env
      standAt apos.atName
      let (f, first) ← holding [ov] (getMethod ov m (do return (← importBound o env).getD true))
      callWith cpos f first (backTo cpos (starEach as env)) (backToKw cpos (keywordEach [] env))) := by
  have few : methodCallForm (as.length + ([] : List Keyword).length) (backTo cpos (starEach as env)) (backToKw cpos (keywordEach [] env)) = true := by
    unfold methodCallForm
    have h1 : (backTo cpos (starEach as env)).all (fun x => !x.1) = true := by
      rw [List.all_eq_not_any_not]
      simp only [Bool.not_not]
      rw [hp]; rfl
    have h2 : (backToKw cpos (keywordEach [] env)).all (fun x => x.1.isSome) = true := rfl
    have h3 : (backToKw cpos (keywordEach [] env)).isEmpty = true := rfl
    simp only [h1, h2, h3, Bool.true_and, if_true, List.length_nil, Nat.add_zero, decide_eq_true_eq]
    omega
  rw [arm_eval_Call, att_base hb]
  unfold methodCall
  rw [few]
  have hpos : methodCallPos true o env apos cpos = pure cpos := by unfold methodCallPos; simp [hl]
  rw [hpos]
  rfl
def tMethP (C : Addr) (m : Str) (sp : Sp) (E : L2.St → XK) (ta : TE) (t : TA) : TE := fun σ H Q => ta σ H fun x H1 => ∃ a dx fs, x = .ref a ∧ H1 a = some (.ins C dx fs) ∧ fs.lookup m = none ∧ t σ H1 fun vs H2 => sp (x :: vs) H2 Q (E σ)
/-- o.m(e, ..), what is raised wished for at the slots -/
theorem pe_methP {CX : CXT} {k : Nat} {C fa : Addr} {m : Str} {fd : FuncData} {ps : List Str} {sp : Sp} {E : L2.St → XK} {o e : Expr} {r : List Expr} {ta : TE} {t : TA} {apos cpos : Pos} (he : PE X o ta) (c : Cls X.K C) (hm : Meth X.K C m fa) (F : FnOk X.prog X.w X.K X.mg X.base CX k fa fd ps sp)
    (hr : Room k X.A) (hb : Binds X.K fd ps []) (hx : ∀ σ, PassesAt CX X σ (E σ)) (ha : PA X (e :: r) t) (h1 : notStar e = true) (h2 : (backTo cpos (starEach r X.env)).any (·.1) = false) (hbase : attOk o = true) (hl : (apos.endLine == cpos.line) = true) (h20 : (e :: r).length < 20) :
    PE X (.Call (.Attribute o m apos) (e :: r) [] cpos) (tMethP C m sp E ta t) := by
  have hplain : (backTo cpos (starEach (e :: r) X.env)).any (·.1) = false := by
    rw [star_cons h1]
    show (false || (backTo cpos (starEach r X.env)).any (·.1)) = false
    rw [h2]; rfl
  refine ⟨fun pins s σ H Q I h => ?_⟩
  refine PySem.W.methodCall_KW (thn (he.run pins s σ H _ I h) fun u s1 ⟨x, H1, I1, rx, a, dx, fs, ex, ea, l, q⟩ => ?_) (meth_tree hbase hl hplain h20)
  subst ex
  obtain rfl : u = Value.ref a := rx
  refine getmeth_ok I1 ea c hm l ?_
  exact PySem.W.callWith_K (first := [.ref a]) (h₀ := X.base) I.ok.mod.kin hm.kp (thn (ha.run cpos pins s1 σ H1 _ I1 q) fun us s2 ⟨vs, H2, I2, rv, q2⟩ => ⟨I2.kIn, run_fnS (us := .ref a :: us) (vs := .ref a :: vs) F hr hb (hx σ) I2 (.cons rfl rv) q2⟩) (star_cons h1 _ _) h2
theorem pe_methP0 {CX : CXT} {k : Nat} {C fa : Addr} {m : Str} {fd : FuncData} {ps : List Str} {sp : Sp} {E : L2.St → XK} {o : Expr} {ta : TE} {apos cpos : Pos} (he : PE X o ta) (c : Cls X.K C) (hm : Meth X.K C m fa) (F : FnOk X.prog X.w X.K X.mg X.base CX k fa fd ps sp)
    (hr : Room k X.A) (hb : Binds X.K fd ps []) (hx : ∀ σ, PassesAt CX X σ (E σ)) (hbase : attOk o = true) (hl : (apos.endLine == cpos.line) = true) :
    PE X (.Call (.Attribute o m apos) [] [] cpos) (tMethP C m sp E ta tNil) := by
  refine ⟨fun pins s σ H Q I h => ?_⟩
  refine PySem.W.methodCall_KW (thn (he.run pins s σ H _ I h) fun u s1 ⟨x, H1, I1, rx, a, dx, fs, ex, ea, l, q⟩ => ?_) (meth_tree hbase hl rfl (by decide))
  subst ex
  obtain rfl : u = Value.ref a := rx
  refine getmeth_ok I1 ea c hm l ?_
  exact PySem.W.callWith_K0 (first := [.ref a]) I1.kIn hm.kp (run_fnS (us := [.ref a]) (vs := [.ref a]) F hr hb (hx σ) I1 (.cons rfl .nil) q)
/-- a method's receiver -/
theorem isIns_at {x : XV} {v : V} {O : Addr → Prop} {w : Wd} {cl : String} {m : Str} (k : WOk w) (r : XRep X.K O w x v) (h : isIns cl m x = true) : ∃ a dx fs, v = .ref a ∧ w.H a = some (.ins (He.ga X.K (Str.ofString cl)) dx fs) ∧ fs.lookup m = none := by
  unfold isIns at h
  cases hm : x.mo with
  | none => rw [hm] at h; cases h
  | some o =>
    rw [hm] at h
    simp only at h
    split at h
    · rename_i c' ns ms hi
      simp only [Bool.and_eq_true, decide_eq_true_eq, Bool.not_eq_true'] at h
      obtain ⟨rfl, h2⟩ := h
      obtain ⟨a, dx, fs, e1, e2, e3, e4⟩ := r.inst k hm hi
      subst e3
      exact ⟨a, dx, fs, e1, e2, anyIx_lookup _ h2⟩
    · cases h
/-- a call's arguments, perhaps none -/
def mTA (X : Cx) (ls : List Expr) : TA := match ls with
  | [] => tNil
  | _ => weA X ls
theorem ok_mth (C : CxOk c k ck X) (tk : Takes X Wx) {cl m : String} {x : Str} {o : Expr} {ls : List Expr} {apos : Pos} (hx : Str.ofString m = x) (hc : cl ∈ ck.cls) (hn : (cl, m) ∈ ck.mth) (hb : attOk o = true) (hl : (apos.endLine == pos.line) = true) (h20 : ls.length < 20)
    (hs : ∀ e r, ls = e :: r → notStar e = true ∧ (backTo pos (starEach r X.env)).any (·.1) = false) (hnil : ls = [] → fs = fun _ => .ok []) (ho : OkE X Wx o f) (hA : OkA X Wx ls fs) :
    OkE X Wx (.Call (.Attribute o x apos) ls [] pos) (fun sl => (f sl).bind fun x => if isIns cl (Str.ofString m) x then (fs sl).bind fun xs => (match argsOf (x :: xs) with
      | some ss => noMu (c (cl ++ "." ++ m) ss)
      | none => .stuck) else .stuck) := by
  intro sl σ A w t
  subst hx
  obtain ⟨fa, fd, ps, hm, hbd, F⟩ := C.mth _ _ hn
  have P : PE X (.Call (.Attribute o (Str.ofString m) apos) ls [] pos) (tMethP (He.ga X.K (Str.ofString cl)) (Str.ofString m) (spR X.K (c (cl ++ "." ++ m))) (WE Wx) (weE X o) (mTA X ls)) := by
    cases ls with
    | nil => exact pe_methP0 pe_we (C.cls _ hc) hm F (C.room.mono (Nat.le_succ _)) hbd (fun σ => passAt tk σ) hb hl
    | cons e r => exact pe_methP pe_we (C.cls _ hc) hm F (C.room.mono (Nat.le_succ _)) hbd (fun σ => passAt tk σ) pa_we (hs e r rfl).1 (hs e r rfl).2 hb hl h20
  have qA : ∀ w1, At X.K sl σ A w1 → PostR X.K Wx (fun w' x v => XsRep X.K (old w1) w' x v) σ w1 (fs sl) ((mTA X ls) σ w1.H) := fun w1 t1 => by
    cases ls with
    | nil => rw [hnil rfl]; exact fun Q q => q w1 [] t1.ok (WLe.refl _) ⟨[], ⟨rfl, rfl⟩, own_nil, fun a h => absurd h (by simp)⟩
    | cons e r => exact hA sl σ A w1 t1
  have q := ho sl σ A w t
  cases hf : f sl with
  | stuck => simp only [hf]; trivial
  | exc ex => rw [hf] at q; simp only [hf]; exact fun Q qq => ⟨_, P, q _ qq⟩
  | ok y =>
    rw [hf] at q
    simp only [hf, R.bind_ok]
    by_cases hi : isIns cl (Str.ofString m) y = true
    · simp only [hi, if_true]
      cases hfs : fs sl with
      | stuck => trivial
      | exc ex =>
        refine fun Q qq => ⟨_, P, q _ fun w1 v k1 l1 r1 => ?_⟩
        obtain ⟨a, dx, fs', rfl, e2, e3⟩ := isIns_at k1 r1 hi
        refine ⟨a, dx, fs', rfl, e2, e3, ?_⟩
        have q2 := qA w1 (t.mono l1 k1)
        rw [hfs] at q2
        exact q2 _ fun w' cls d k' l' => qq w' cls d k' (l1.trans l')
      | ok xs =>
        simp only [R.bind_ok]
        cases ha : argsOf (y :: xs) with
        | none => trivial
        | some ss =>
          show PostR _ _ _ _ _ (noMu (c (cl ++ "." ++ m) ss)) _
          have go : ∀ {r : R XV} {Q : VK}, noMu (c (cl ++ "." ++ m) ss) = r → r ≠ .stuck → WantR X.K Wx w σ Q r → weE X (.Call (.Attribute o (Str.ofString m) apos) ls [] pos) σ w.H Q := fun {r Q} hr hn qq => by
            refine ⟨_, P, q _ fun w1 v k1 l1 r1 => ?_⟩
            have r1' := r1
            obtain ⟨a, dx, fs', rfl, e2, e3⟩ := isIns_at k1 r1 hi
            refine ⟨a, dx, fs', rfl, e2, e3, ?_⟩
            have q2 := qA w1 (t.mono l1 k1)
            rw [hfs] at q2
            refine q2 _ fun w2 vs k2 l2 ⟨B, p1, p2, p3⟩ => ?_
            obtain ⟨B0, x0, _, _⟩ := r1'
            exact call_pure k2 (l1.trans l2) (xs := y :: xs) ⟨.ref a, vs, B0, B, rfl, x0.mono l2, p1, rfl⟩ ha hr hn qq
          cases hc2 : noMu (c (cl ++ "." ++ m) ss) with
          | stuck => trivial
          | exc ex => exact fun Q qq => go (r := .exc ex) hc2 (by simp) qq
          | ok z => exact fun Q qq => go (r := .ok z) hc2 (by simp) qq
    · simp only [hi]; trivial
end
end Mo
namespace Mo
open PySem PySem.Spec PyProof.Rows L2
section
variable {c : Calls} {k : Nat} {ck : Ck} {X : Cx} {Wx : WX} {a b e : Expr} {f g h : Sl → R XV} {pos : Pos} {es : List Expr} {fs : Sl → R (List XV)}
/-! ### instances are made -/
def tMakeP (C : Addr) (sp : Sp) (E : L2.St → XK) (t : TA) : TE := fun σ H Q => t σ H fun vs H1 => ∀ x dx, H1 x = none → H1 dx = none → dx ≠ x → sp (.ref x :: vs) (upd (upd H1 dx (.own x)) x (.ins C dx [])) (fun v H2 => v = .non ∧ Q (.ref x) H2) (E σ)
theorem run_mk {CX : CXT} {k : Nat} {C fa : Addr} {fd : FuncData} {ps : List Str} {sp : Sp} {E : L2.St → XK} {pins : List (Addr × Obj)} {σ : L2.St} {H : Hp} {s : Shared} {Q : VK} {us : List Value} {vs : List V} (M : Mk X.K C fa) (F : FnOk X.prog X.w X.K X.mg X.base CX k fa fd ps sp) (hr : Room (k + 1) X.A) (hb : Binds X.K fd ps [])
    (hx : PassesAt CX X σ (E σ)) (I : Inv X pins σ H s) (r : Vals vs us) (hh : ∀ x dx, H x = none → H dx = none → dx ≠ x → sp (.ref x :: vs) (upd (upd H dx (.own x)) x (.ins C dx [])) (fun v H2 => v = .non ∧ Q (.ref x) H2) (E σ)) :
    wpAny (model X.prog X.w) X.A (call (.ref C) us) (EP X pins σ Q) X.xe s := by
  have hq := hh (s.heap.objs.size + 1) s.heap.objs.size (I.hok.fresh (Nat.le_succ _)) (I.hok.fresh (Nat.le_refl _)) (Nat.ne_of_lt (Nat.lt_succ_self _))
  have J := Inv.made (C := C) I
  have rr : Vals (V.ref (s.heap.objs.size + 1) :: vs) (Value.ref (s.heap.objs.size + 1) :: us) := .cons rfl r
  have hl : (Value.ref (s.heap.objs.size + 1) :: us).length = ps.length := by rw [← rr.length]; exact F.len _ _ _ _ hq
  have bb := hb _ (Value.ref (s.heap.objs.size + 1) :: us) J.kIn (by rw [List.append_nil]; exact hl)
  rw [List.append_nil] at bb
  refine wpAny_call (make_map (f := fa) I.kIn M.makes M.init (beq_iff_eq.mp M.fn) (codeAny_mono (F.run _ X.stack _ _ ⟨Value.ref (s.heap.objs.size + 1) :: us, []⟩ _ _ _ (E σ) (hr.make C us []) (J.env0.make C us []) bb rr hq) fun res s' z => ?_))
  cases res with
  | error ex => exact hx pins _ _ ex s' J z
  | ok fl => cases fl with
    | ret u =>
      obtain ⟨v, H', J2, rv, ev, q3⟩ := J.after z
      subst ev
      exact ⟨rv, V.ref (s.heap.objs.size + 1), H', J2, rfl, q3⟩
    | _ => exact z.elim
theorem pe_mkP {CX : CXT} {k : Nat} {C fa : Addr} {fd : FuncData} {ps : List Str} {sp : Sp} {E : L2.St → XK} {x : Str} {r : List Expr} {t : TA} {p : Pos} (M : Mk X.K C fa) (F : FnOk X.prog X.w X.K X.mg X.base CX k fa fd ps sp) (hr : Room (k + 1) X.A) (hg : Gl X x) (hm : X.mg x = some (.ref C)) (hb : Binds X.K fd ps [])
    (hx : ∀ σ, PassesAt CX X σ (E σ)) (ha : PA X (e :: r) t) (hdb : (x == ("__debug__" : Str)) = false) (h1 : notStar e = true) (h2 : (backTo pos (starEach r X.env)).any (·.1) = false) : PE X (.Call (.Name x p) (e :: r) [] pos) (tMakeP C sp E t) := by
  refine ⟨fun pins s σ H Q I hh => wpAny_Call_Name_kw (ld_glob I hg hm ?_ hdb)⟩
  exact PySem.W.callWith_K (h₀ := X.base) I.ok.mod.kin M.kp (thn (ha.run pos pins s σ H _ I hh) fun us s1 ⟨vs, H1, I1, rv, q⟩ => ⟨I1.kIn, run_mk M F hr hb (hx σ) I1 rv q⟩) (star_cons h1 _ _) h2
theorem pe_mkP0 {CX : CXT} {k : Nat} {C fa : Addr} {fd : FuncData} {ps : List Str} {sp : Sp} {E : L2.St → XK} {x : Str} {p : Pos} (M : Mk X.K C fa) (F : FnOk X.prog X.w X.K X.mg X.base CX k fa fd ps sp) (hr : Room (k + 1) X.A) (hg : Gl X x) (hm : X.mg x = some (.ref C)) (hb : Binds X.K fd ps [])
    (hx : ∀ σ, PassesAt CX X σ (E σ)) (hdb : (x == ("__debug__" : Str)) = false) : PE X (.Call (.Name x p) [] [] pos) (tMakeP C sp E tNil) := by
  refine ⟨fun pins s σ H Q I hh => wpAny_Call_Name_kw (ld_glob I hg hm ?_ hdb)⟩
  exact PySem.W.callWith_K0 I.kIn M.kp (run_mk (us := []) M F hr hb (hx σ) I .nil hh)
theorem minus_at {H : Hp} {A : List Addr} {a : Addr} (h : a ∉ A) : minus H A a = H a := by unfold minus; rw [if_neg h]
theorem minus_in {H : Hp} {A : List Addr} {a : Addr} (h : a ∈ A) : minus H A a = none := by unfold minus; rw [if_pos h]
theorem args_more {K : PySem.W.Frag} {F G G' H H' : Hp} (e : Ex G G') : ∀ {ss : List SV} {vs : List V}, ArgsR K F G H ss vs [] → bvs ss vs = [] → ArgsR K F G' H' ss vs []
  | [], _, h, _ => h
  | s :: ss, _, ⟨v, r, A1, A2, e1, e2, e3, e4⟩, hb => by
    obtain ⟨rfl, rfl⟩ := List.append_eq_nil_iff.mp e4.symm
    subst e1
    cases s with
    | cl d => exact ⟨v, r, [], [], rfl, e2, args_more e e3 hb, rfl⟩
    | lk m => obtain ⟨⟨B, o⟩, _⟩ := e2; exact ⟨v, r, [], [], rfl, ⟨⟨B, o.mono (.refl _) fun a _ o z => e a o z⟩, rfl⟩, args_more e e3 hb, rfl⟩
    | bo i m => cases hb
    | no => exact e2.elim
    | ow m => exact e2.elim
theorem mkF_ok {r : R XV} {z : XV} (h : mkF r = .ok z) : ∃ m, r = .ok (.mu (.cl .non) [m]) ∧ z = .nw m := by
  unfold mkF at h
  split at h
  · cases h; exact ⟨_, rfl, rfl⟩
  · cases h
  · cases h
theorem mkF_exc {r : R XV} {ex : Exn} (h : mkF r = .exc ex) : ∃ e0, r = .exc e0 ∧ ex = { e0 with ms := [] } := by
  unfold mkF at h
  split at h
  · cases h
  · cases h; exact ⟨_, rfl, rfl⟩
  · cases h
theorem ok_mk (C : CxOk c k ck X) (tk : Takes X Wx) {cl : String} {x : Str} {ls : List Expr} {p : Pos} (hx : Str.ofString cl = x) (hg : glB ck.sc x = true) (hn : nameOk x = true) (hc : cl ∈ ck.mks)
    (hs : ∀ e r, ls = e :: r → notStar e = true ∧ (backTo pos (starEach r X.env)).any (·.1) = false) (hnil : ls = [] → fs = fun _ => .ok []) (hA : OkA X Wx ls fs) :
    OkE X Wx (.Call (.Name x p) ls [] pos) (fun sl => (fs sl).bind fun xs => match argsOf xs with
      | some ss => mkF (c (cl ++ ".__init__") (.bo 0 (.ins (Str.ofString cl) [] []) :: ss))
      | none => .stuck) := by
  intro sl σ A w t
  subst hx
  obtain ⟨fa, fd, ps, M, hm, hbd, F⟩ := C.mks _ hc
  have gl : Gl X (Str.ofString cl) := glB_ok (by rw [C.sc]; exact hg)
  have P : PE X (.Call (.Name (Str.ofString cl) p) ls [] pos) (tMakeP (He.ga X.K (Str.ofString cl)) (spR X.K (c (cl ++ ".__init__"))) (WE Wx) (mTA X ls)) := by
    cases ls with
    | nil => exact pe_mkP0 M F C.room gl hm hbd (fun σ => passAt tk σ) (nameOk_d hn).1
    | cons e r => exact pe_mkP M F C.room gl hm hbd (fun σ => passAt tk σ) pa_we (nameOk_d hn).1 (hs e r rfl).1 (hs e r rfl).2
  have qA : PostR X.K Wx (fun w' x v => XsRep X.K (old w) w' x v) σ w (fs sl) (mTA X ls σ w.H) := by
    cases ls with
    | nil => rw [hnil rfl]; exact fun Q q => q w [] t.ok (WLe.refl _) ⟨[], ⟨rfl, rfl⟩, own_nil, fun a h => absurd h (by simp)⟩
    | cons e r => exact hA sl σ A w t
  cases hfs : fs sl with
  | stuck => simp only [hfs]; trivial
  | exc ex => rw [hfs] at qA; simp only [hfs]; exact fun Q qq => ⟨_, P, qA _ qq⟩
  | ok xs =>
    rw [hfs] at qA
    simp only [hfs, R.bind_ok]
    cases ha : argsOf xs with
    | none => trivial
    | some ss =>
      simp only
      have go : ∀ {Q : VK}, mkF (c (cl ++ ".__init__") (.bo 0 (.ins (Str.ofString cl) [] []) :: ss)) ≠ .stuck → WantR X.K Wx w σ Q (mkF (c (cl ++ ".__init__") (.bo 0 (.ins (Str.ofString cl) [] []) :: ss))) → weE X (.Call (.Name (Str.ofString cl) p) ls [] pos) σ w.H Q := fun {Q} hn qq => by
        refine ⟨_, P, qA _ fun w1 vs k1 l1 ⟨B, p1, _, _⟩ => fun x dx nx ndx ne => ?_⟩
        obtain ⟨i1, i2⟩ := args_rep k1 p1 ha
        have xH : ∀ b o, w1.H b = some o → b ≠ x ∧ b ≠ dx := fun b o q => ⟨fun z => (by rw [z, nx] at q; cases q), fun z => (by rw [z, ndx] at q; cases q)⟩
        have eM : Ex w1.H (minus (upd (upd w1.H dx (.own x)) x (.ins (He.ga X.K (Str.ofString cl)) dx [])) [x]) := fun b o q => by
          obtain ⟨h1, h2⟩ := xH b o q
          rw [minus_at (by simpa using h1), upd_ne h1, upd_ne h2]; exact q
        refine ⟨.bo 0 (.ins (Str.ofString cl) [] []) :: ss, w1.F, [x], k1.fh.trans eM, ⟨.ref x, vs, [x], [], rfl, ⟨x, [], [], rfl, ⟨dx, [], upd_same, rfl, rfl⟩, ⟨rfl, rfl⟩, rfl⟩, args_more eM i1 i2, rfl⟩, by simp, fun b hb o u => ?_, ?_⟩
        · obtain rfl := List.mem_singleton.mp hb
          rw [upd_same]; intro z; cases z
        · have hbv : bvs (.bo 0 (.ins (Str.ofString cl) [] []) :: ss) (.ref x :: vs) = [.ref x] := by
            show V.ref x :: bvs ss vs = _
            rw [i2]
          rw [hbv]
          have base : ∀ F' H', Ex w1.F F' → Ex F' H' → Ex (minus (upd (upd w1.H dx (.own x)) x (.ins (He.ga X.K (Str.ofString cl)) dx [])) [x]) H' → NewF (minus (upd (upd w1.H dx (.own x)) x (.ins (He.ga X.K (Str.ofString cl)) dx [])) [x]) w1.F F' → WOk (w1.called F' H') ∧ WLe w (w1.called F' H') := fun F' H' e1 e2 e3 e4 => by
            have e5 := eM.trans e3
            refine ⟨Wd.called_ok e2 (k1.gh.trans e5), l1.trans (Wd.called_le k1 e1 e5 fun b hb q => e4 b ?_ q)⟩
            cases z : w1.H b with
            | none => exact absurd z hb
            | some o =>
              obtain ⟨h1, h2⟩ := xH b o z
              rw [minus_at (by simpa using h1), upd_ne h1, upd_ne h2, z]; simp
          cases hc0 : mkF (c (cl ++ ".__init__") (.bo 0 (.ins (Str.ofString cl) [] []) :: ss)) with
          | stuck => exact absurd hc0 hn
          | exc ex =>
            obtain ⟨e0, h1, h2⟩ := mkF_exc hc0
            rw [hc0] at qq
            rw [h1]
            intro F' H' A' cls d e1 e2 e3 e4 _ e5
            obtain ⟨k3, l3⟩ := base F' H' e1 e2 e3 e4
            exact qq (w1.called F' H') cls d k3 l3 (by rw [h2]; exact e5)
          | ok z =>
            obtain ⟨m, h1, h2⟩ := mkF_ok hc0
            rw [hc0] at qq
            subst h2
            rw [h1]
            intro F' H' v e1 e2 e3 e4 ⟨B', A', x0, en⟩
            obtain ⟨k3, l3⟩ := base F' H' e1 e2 e3 e4
            refine ⟨x0.1, qq (w1.called F' H') (.ref x) k3 l3 ?_⟩
            obtain ⟨v', r', A1, A2, q1, q2, ⟨q3, q5⟩, q4⟩ := en.ms
            cases q1
            rw [q5, List.append_nil] at q4
            subst q4
            refine ⟨A', q2, ⟨(List.nodup_append.mp en.nd).2.1, fun b hb => ?_⟩, fun b hb o => ?_⟩
            · have no := en.no b (List.mem_append_right _ hb)
              refine ⟨?_, no.2⟩
              show (match w1.G b with | some o => some o | none => F' b) = none
              have : w1.H b = none := by
                rcases en.na b hb with z | z
                · rw [List.mem_singleton.mp z]; exact nx
                · by_cases hx : b = x
                  · rw [hx]; exact nx
                  · by_cases hd : b = dx
                    · rw [hd]; exact ndx
                    · rw [upd_ne hx, upd_ne hd] at z; exact z
              rw [k1.gh.free this]
              exact no.1
            · have : w1.H b = none := by
                rcases en.na b hb with z | z
                · rw [List.mem_singleton.mp z]; exact nx
                · by_cases hx : b = x
                  · rw [hx]; exact nx
                  · by_cases hd : b = dx
                    · rw [hd]; exact ndx
                    · rw [upd_ne hx, upd_ne hd] at z; exact z
              exact o (l1.h.free this)
      cases hc0 : mkF (c (cl ++ ".__init__") (.bo 0 (.ins (Str.ofString cl) [] []) :: ss)) with
      | stuck => trivial
      | exc ex => exact fun Q qq => go (by rw [hc0]; simp) (by rw [hc0]; exact qq)
      | ok z => exact fun Q qq => go (by rw [hc0]; simp) (by rw [hc0]; exact qq)
/-! ### dicts -/
theorem PostR.newo {O : Addr → Prop} {w : Wd} {σ : L2.St} {m : MO} {ho : HO} {B : List Addr} {T : VK → Prop} (k : WOk w) (nO : ∀ p, w.H p = none → ¬ O p) (hf : ∀ o' u, ho ≠ .frz o' u) (hB : Own w B) (hO : ∀ a ∈ B, ¬ O a ∧ w.H a ≠ none)
    (r : ∀ p, w.H p = none → ORep X.K w.F (upd w.H p ho) m (.ref p) (p :: B)) (hT : ∀ Q : VK, (∀ p, w.H p = none → Q (.ref p) (upd w.H p ho)) → T Q) :
    PostR X.K Wx (fun w' x v => XRep X.K O w' x v) σ w (.ok (.nw m)) T := fun Q q => hT Q fun p np => by
  refine q (w.own p ho) (.ref p) (Wd.own_ok k np) (Wd.own_le np) ⟨p :: B, r p np, own_new k np hf hB fun a ha => (hO a ha).2, fun a ha => ?_⟩
  rcases List.mem_cons.mp ha with z | z
  · rw [z]; exact nO p np
  · exact (hO a z).1
theorem ok_dnew : OkE X Wx (.Dict [] [] pos) (fun _ => .ok (.nw (.dct [] []))) := fun sl σ A w t =>
  PostR.newo (B := []) (ho := .dK []) t.ok (fun p np o => o np) (by intro _ _ z; cases z) own_nil (fun a h => absurd h (by simp)) (fun p np => ⟨p, [], [], rfl, ⟨[], .inl upd_same, rfl, rfl, List.nodup_nil⟩, ⟨rfl, rfl⟩, rfl⟩) fun Q q => ⟨_, pe_dnewK, q⟩
theorem isD_of {H : Hp} {a : Addr} {ks : List Mo.D} {vs : List V} (h : DicR H a ks vs) : IsD H a := by
  obtain ⟨kvs, h1, _⟩ := h
  exact .inl ⟨kvs, h1⟩
theorem m1_of {o e : Expr} {m : Str} {apos cpos : Pos} (hb : attOk o = true) (hs : notStar e = true) (hl : (apos.endLine == cpos.line) = true) : M1 X o m apos e cpos :=
  ⟨att_base hb _ _ _, by rw [star_cons hs]; rfl, hl, by rw [star_cons hs]; rfl⟩
theorem m2_of {o e f : Expr} {m : Str} {apos cpos : Pos} (hb : attOk o = true) (hs : notStar e = true) (hs2 : notStar f = true) (hl : (apos.endLine == cpos.line) = true) : M2 X o m apos e f cpos :=
  ⟨att_base hb _ _ _, by rw [star_cons hs, star_cons hs2]; rfl, hl, by rw [star_cons hs, star_cons hs2]; rfl⟩
/-- what d.get(k, y) gives -/
theorem dgt_rep {O : Addr → Prop} {w : Wd} {x y z : XV} {kd : Mo.D} {v u q : V} (k : WOk w) (rx : XRep X.K O w x v) (rk : Rep X.K w.F kd u) (ry : XRep X.K O w y q) (h : dgtF x (.cl kd) y = some z) (hy : (∃ d, y = .cl d) ∨ ∃ m, y = .nw m) :
    ∃ a o, v = .ref a ∧ IsD w.H a ∧ DGet w.H a u o ∧ XRep X.K O w z (o.getD q) := by
  have main : ∀ {m : MO} {ks : List Mo.D} {ms : List MO}, x.mo = some m → m.dic = some (ks, ms) → isK kd = true → ∃ a o, v = .ref a ∧ IsD w.H a ∧ DGet w.H a u o ∧
      (match dget ks ms kd with | some m' => ∃ u', o = some u' ∧ XRep X.K O w (x.sub m') u' | none => o = none) := fun {m ks ms} hm hd hk => by
    obtain ⟨a, vs, e1, e2, e3, e4⟩ := rx.dic k hm hd
    refine ⟨a, _, e1, isD_of e2, e2.get hk rk, ?_⟩
    unfold dget
    cases hj : dfind ks kd with
    | none => simp
    | some j =>
      have := dfind_lt hj
      rw [e2.len, ← e3] at this
      have hms : ms[j]? = some ms[j] := List.getElem?_eq_getElem this
      simp only [Option.bind_some, hms]
      obtain ⟨u', h1, h2⟩ := e4 j _ hms
      exact ⟨u', h1, h2⟩
  unfold dgtF at h
  cases hm : x.mo with
  | none => rw [hm] at h; cases h
  | some m =>
    rw [hm] at h
    rcases hy with ⟨d, rfl⟩ | ⟨m0, rfl⟩
    · simp only at h
      cases hd : m.dic with
      | none => rw [hd] at h; cases h
      | some p =>
        obtain ⟨ks, ms⟩ := p
        rw [hd] at h
        simp only at h
        split at h
        · rename_i hk
          obtain ⟨a, o, e1, e2, e3, e4⟩ := main hm hd hk
          refine ⟨a, o, e1, e2, e3, ?_⟩
          cases hg : dget ks ms kd with
          | none => rw [hg] at h e4; cases h; rw [show o = none from e4]; exact ry
          | some m' => rw [hg] at h e4; cases h; obtain ⟨u', rfl, h2⟩ := e4; exact h2
        · cases h
    · simp only at h
      cases hd : m.dic with
      | none => rw [hd] at h; cases h
      | some p =>
        obtain ⟨ks, ms⟩ := p
        rw [hd] at h
        simp only at h
        split at h
        · rename_i hk
          obtain ⟨a, o, e1, e2, e3, e4⟩ := main hm hd hk
          refine ⟨a, o, e1, e2, e3, ?_⟩
          cases hg : dget ks ms kd with
          | none =>
            rw [hg] at h e4; cases h; rw [show o = none from e4]
            exact ry.rd
          | some m' => rw [hg] at h e4; cases h; obtain ⟨u', rfl, h2⟩ := e4; exact h2
        · cases h
theorem dgt_cl {x y k0 : XV} {z : XV} (h : dgtF x k0 y = some z) : ∃ kd, k0 = .cl kd ∧ ((∃ d, y = .cl d) ∨ ∃ m, y = .nw m) ∧ ∃ m p, x.mo = some m ∧ m.dic = some p := by
  unfold dgtF at h
  split at h
  · rename_i m kd d hm
    cases hd : m.dic with
    | none => rw [hd] at h; cases h
    | some p => exact ⟨kd, rfl, .inl ⟨_, rfl⟩, m, p, hm, hd⟩
  · rename_i m kd d hm
    cases hd : m.dic with
    | none => rw [hd] at h; cases h
    | some p => exact ⟨kd, rfl, .inr ⟨_, rfl⟩, m, p, hm, hd⟩
  · cases h
theorem isD_at0 {x : XV} {v : V} {O : Addr → Prop} {w : Wd} (k : WOk w) (r : XRep X.K O w x v) (h : x.isD = true) : ∃ p, v = .ref p ∧ IsD w.H p := by
  unfold XV.isD at h
  cases hm : x.mo with
  | none => rw [hm] at h; cases h
  | some m =>
    rw [hm] at h
    simp only at h
    cases hd : m.dic with
    | none => rw [hd] at h; cases h
    | some q =>
      obtain ⟨ks, ms⟩ := q
      obtain ⟨p, vs, e1, e2, _⟩ := r.dic k hm hd
      exact ⟨p, e1, isD_of e2⟩
theorem ok_dg1 (C : CxOk c k ck X) {apos : Pos} (hb0 : attOk a = true) (hs : notStar b = true) (hl : (apos.endLine == pos.line) = true) (ha : OkE X Wx a f) (hb : OkE X Wx b g) :
    OkE X Wx (.Call (.Attribute a "get" apos) [b] [] pos) (fun sl => (f sl).bind fun x => if x.isD then (g sl).bind fun k => R.of (dgtF x k (.cl .non)) else .stuck) := by
  have hu1 : X.A.units + 1 < cLine := by have := C.room.units; omega
  have P := pe_dget1 hu1 (pe_we (X := X) (e := a)) (pe_we (X := X) (e := b)) (m1_of (X := X) hb0 hs hl)
  intro sl σ A w t
  have q := ha sl σ A w t
  cases hf : f sl with
  | stuck => simp only [hf]; trivial
  | exc ex => rw [hf] at q; simp only [hf]; exact fun Q qq => ⟨_, P, q _ qq⟩
  | ok x =>
    rw [hf] at q
    simp only [hf, R.bind_ok]
    by_cases hd : x.isD = true
    · simp only [hd, if_true]
      cases hg' : g sl with
      | stuck => trivial
      | exc ex =>
        refine fun Q qq => ⟨_, P, q _ fun w1 v k1 l1 r1 => ?_⟩
        obtain ⟨p, e1, e2⟩ := isD_at0 k1 r1 hd
        have q2 := hb sl σ A w1 (t.mono l1 k1)
        rw [hg'] at q2
        exact ⟨p, e1, e2, q2 _ fun w' cls d k' l' => qq w' cls d k' (l1.trans l')⟩
      | ok y =>
        simp only [R.bind_ok]
        refine PostR.of_none fun z hz Q qq => ⟨_, P, q _ fun w1 v k1 l1 r1 => ?_⟩
        obtain ⟨p, e1, e2⟩ := isD_at0 k1 r1 hd
        have q2 := hb.at1 (t.mono l1 k1) l1
        rw [hg'] at q2
        refine ⟨p, e1, e2, q2 _ fun w2 u k2 l2 r2 => ?_⟩
        obtain ⟨kd, rfl, _, _⟩ := dgt_cl hz
        have rn : XRep X.K (old w) w2 (.cl .non) V.non := XRep.cl (d := .non) rfl
        obtain ⟨a', o, f1, f2, f3, f4⟩ := dgt_rep (q := .non) k2 (r1.mono l2) r2.cl_of rn hz (.inl ⟨_, rfl⟩)
        rw [e1] at f1
        cases f1
        exact ⟨o, f3, qq w2 _ k2 (l1.trans l2) f4⟩
    · simp only [hd]; trivial
theorem ok_dgt (C : CxOk c k ck X) {apos : Pos} (hb0 : attOk a = true) (hs : notStar b = true) (hs2 : notStar e = true) (hl : (apos.endLine == pos.line) = true) (ha : OkE X Wx a f) (hb : OkE X Wx b g) (he : OkE X Wx e h) :
    OkE X Wx (.Call (.Attribute a "get" apos) [b, e] [] pos) (fun sl => (f sl).bind fun x => if x.isD then (g sl).bind fun k => (h sl).bind fun y => R.of (dgtF x k y) else .stuck) := by
  have hu1 : X.A.units + 1 < cLine := by have := C.room.units; omega
  have P := pe_dget2 hu1 (pe_we (X := X) (e := a)) (pe_we (X := X) (e := b)) (pe_we (X := X) (e := e)) (m2_of (X := X) hb0 hs hs2 hl)
  intro sl σ A w t
  have q := ha sl σ A w t
  cases hf : f sl with
  | stuck => simp only [hf]; trivial
  | exc ex => rw [hf] at q; simp only [hf]; exact fun Q qq => ⟨_, P, q _ qq⟩
  | ok x =>
    rw [hf] at q
    simp only [hf, R.bind_ok]
    by_cases hd : x.isD = true
    · simp only [hd, if_true]
      cases hg' : g sl with
      | stuck => trivial
      | exc ex =>
        refine fun Q qq => ⟨_, P, q _ fun w1 v k1 l1 r1 => ?_⟩
        obtain ⟨p, e1, e2⟩ := isD_at0 k1 r1 hd
        have q2 := hb sl σ A w1 (t.mono l1 k1)
        rw [hg'] at q2
        exact ⟨p, e1, e2, q2 _ fun w' cls d k' l' => qq w' cls d k' (l1.trans l')⟩
      | ok y =>
        simp only [R.bind_ok]
        cases hh : h sl with
        | stuck => trivial
        | exc ex =>
          refine fun Q qq => ⟨_, P, q _ fun w1 v k1 l1 r1 => ?_⟩
          obtain ⟨p, e1, e2⟩ := isD_at0 k1 r1 hd
          have q2 := hb.at1 (t.mono l1 k1) l1
          rw [hg'] at q2
          refine ⟨p, e1, e2, q2 _ fun w2 u k2 l2 r2 => ?_⟩
          have q3 := he sl σ A w2 (t.mono (l1.trans l2) k2)
          rw [hh] at q3
          exact q3 _ fun w' cls d k' l' => qq w' cls d k' ((l1.trans l2).trans l')
        | ok z0 =>
          simp only [R.bind_ok]
          refine PostR.of_none fun z hz Q qq => ⟨_, P, q _ fun w1 v k1 l1 r1 => ?_⟩
          obtain ⟨p, e1, e2⟩ := isD_at0 k1 r1 hd
          have q2 := hb.at1 (t.mono l1 k1) l1
          rw [hg'] at q2
          refine ⟨p, e1, e2, q2 _ fun w2 u k2 l2 r2 => ?_⟩
          have q3 := he.at1 (t.mono (l1.trans l2) k2) (l1.trans l2)
          rw [hh] at q3
          refine q3 _ fun w3 v3 k3 l3 r3 => ?_
          obtain ⟨kd, rfl, hy, _⟩ := dgt_cl hz
          obtain ⟨a', o, f1, f2, f3, f4⟩ := dgt_rep k3 ((r1.mono l2).mono l3) (r2.mono l3).cl_of r3 hz hy
          rw [e1] at f1
          cases f1
          exact ⟨o, f3, qq w3 _ k3 ((l1.trans l2).trans l3) f4⟩
    · simp only [hd]; trivial
/-! ### displays of dicts -/
structure OkPs (X : Cx) (Wx : WX) (pos : Pos) (ks : List (Option Expr)) (vs : List Expr) (f : Sl → R (List XV × List XV)) : Prop where
  ok : ∃ trs, PPs X pos ks vs trs ∧ ∀ sl σ A w, At X.K sl σ A w → PostR X.K Wx (fun w' (x : List XV × List XV) (ps : List (V × V)) => (∃ B, XsR1 X.K w' x.1 (ps.map (·.1)) B) ∧ XsRep X.K (old w) w' x.2 (ps.map (·.2))) σ w (f sl) (tPairs trs σ w.H)
theorem okPs_nil : OkPs X Wx pos [] [] (fun _ => .ok ([], [])) := ⟨[], pps_nil, fun sl σ A w t Q q => q w [] t.ok (WLe.refl _) ⟨⟨[], rfl, rfl⟩, ⟨[], ⟨rfl, rfl⟩, own_nil, fun a h => absurd h (by simp)⟩⟩⟩
theorem okPs_cons {ks : List (Option Expr)} {vs : List Expr} {ff : Sl → R (List XV × List XV)} (ha : OkE X Wx a f) (hb : OkE X Wx b g) (hr : OkPs X Wx pos ks vs ff) :
    OkPs X Wx pos (some a :: ks) (b :: vs) (fun sl => (f sl).bind fun x => (g sl).bind fun y => (ff sl).bind fun p => .ok (x :: p.1, y :: p.2)) := by
  obtain ⟨trs, h1, h2⟩ := hr.ok
  refine ⟨(weE X a, weE X b) :: trs, pps_cons pe_we pe_we h1, fun sl σ A w t => ?_⟩
  refine PostR.bind (body := fun x H1 Q => weE X b σ H1 fun y H2 => tPairs trs σ H2 fun ps H3 => Q ((x, y) :: ps) H3) (ha sl σ A w t) (fun Q q => q) fun x w1 v hx k1 l1 r1 => ?_
  refine PostR.bind (body := fun y H2 Q => tPairs trs σ H2 fun ps H3 => Q ((v, y) :: ps) H3) (hb sl σ A w1 (t.mono l1 k1)) (fun Q q => q) fun y w2 u hy k2 l2 r2 => ?_
  refine PostR.bind (body := fun ps H3 Q => Q ((v, u) :: ps) H3) (h2 sl σ A w2 (t.mono (l1.trans l2) k2)) (fun Q q => q) fun p w3 ps hp k3 l3 r3 => ?_
  refine fun Q qq => qq w3 _ k3 (WLe.refl _) ?_
  obtain ⟨⟨B0, s1⟩, B3, t1, t2, t3⟩ := r3
  obtain ⟨B1, p1, p2, p3⟩ := r1
  obtain ⟨B2, q1, q2, q3⟩ := r2
  refine ⟨⟨B1 ++ B0, v, ps.map (·.1), B1, B0, rfl, (p1.mono l2).mono l3, s1, rfl⟩, B2 ++ B3, ⟨u, ps.map (·.2), B2, B3, rfl, q1.mono l3, t1, rfl⟩, ⟨?_, fun a ha => ?_⟩, fun a ha => ?_⟩
  · rw [List.nodup_append]
    exact ⟨q2.nd, t2.nd, fun a h1 b h2 e => by subst e; exact t3 a h2 (q1.there a h1)⟩
  · rcases List.mem_append.mp ha with z | z
    · exact (q2.mono l3 q1.there).no a z
    · exact t2.no a z
  · rcases List.mem_append.mp ha with z | z
    · exact fun o => q3 a z (old_le l1 a o)
    · exact fun o => t3 a z (old_le (l1.trans l2) a o)
/-- keys of data -/
theorem keys_of {K : PySem.W.Frag} {w : Wd} : ∀ {xs : List XV} {ps : List (V × V)} {B : List Addr} {ks : List Mo.D}, XsR1 K w xs (ps.map (·.1)) B → clL xs = some ks → distK ks = true →
    ∃ kvs : List (Key × V), ps = kvs.map (fun kv => (kV kv.1, kv.2)) ∧ ks = kvs.map (fun p => keyD p.1)
  | [], ps, _, _, ⟨h, _⟩, e, _ => by
    cases e
    rw [List.map_eq_nil_iff] at h
    subst h
    exact ⟨[], rfl, rfl⟩
  | x :: xs, ps, _, ks, ⟨v, r, B1, B2, e1, e2, e3, e4⟩, e, hd => by
    cases ps with
    | nil => cases e1
    | cons p ps =>
      obtain ⟨v', y⟩ := p
      cases x with
      | cl d =>
        cases q : clL xs with
        | none => simp only [clL, q] at e; cases e
        | some ks' =>
          simp only [clL, q] at e
          cases e
          unfold distK at hd
          simp only [Bool.and_eq_true] at hd
          rw [List.map_cons] at e1
          cases e1
          obtain ⟨kvs, h1, h2⟩ := keys_of e3 q hd.2
          obtain ⟨kk, hk⟩ := isK_key hd.1.1
          subst h1 h2
          have ev : v' = kV kk := rep_key (K := K) (T := w.F) (by rw [← hk]; exact e2.1)
          exact ⟨(kk, y) :: kvs, by rw [ev]; rfl, by rw [hk]; rfl⟩
      | _ => cases e
theorem dist_nodup : ∀ {kvs : List (Key × V)}, distK (kvs.map fun p => keyD p.1) = true → (kvs.map (·.1)).Nodup
  | [], _ => List.nodup_nil
  | p :: r, h => by
    rw [List.map_cons] at h
    unfold distK at h
    simp only [Bool.and_eq_true, Bool.not_eq_true'] at h
    obtain ⟨⟨h1, h2⟩, h3⟩ := h
    rw [List.map_cons, List.nodup_cons]
    refine ⟨fun z => ?_, dist_nodup h3⟩
    obtain ⟨q, hq, e⟩ := List.mem_map.mp z
    have : (r.map fun p => keyD p.1).any (eqK (keyD p.1)) = true := List.any_eq_true.mpr ⟨keyD q.1, List.mem_map_of_mem (f := fun p : Key × V => keyD p.1) hq, by rw [eqK_keyD, e]; simp⟩
    rw [h2] at this
    cases this
theorem merge_new : ∀ {kvs acc : List (Key × V)}, ((acc ++ kvs).map (·.1)).Nodup → mergeK acc kvs = acc ++ kvs
  | [], acc, _ => by simp [mergeK]
  | p :: r, acc, h => by
    have hnot : (acc.any fun kv => decide (kv.1 = p.1)) = false := by
      rw [List.any_eq_false]
      intro q hq e
      rw [List.map_append, List.nodup_append] at h
      exact h.2.2 q.1 (List.mem_map_of_mem (f := (·.1)) hq) p.1 (by simp) (of_decide_eq_true e)
    have hp : putK acc p.1 p.2 = acc ++ [p] := by
      unfold putK
      rw [hnot]
      simp
    show mergeK (putK acc p.1 p.2) r = _
    rw [hp, merge_new (by rw [List.append_assoc]; exact h), List.append_assoc]
    rfl
theorem ok_disp {ks : List (Option Expr)} {vs : List Expr} {ff : Sl → R (List XV × List XV)} (hall : ks.all (·.isSome) = true) (hl : ks.length = vs.length) (h0 : ks ≠ []) (h15 : ks.length ≤ 15) (hp : OkPs X Wx pos ks vs ff) : OkE X Wx (.Dict ks vs pos) (fun sl => (ff sl).bind fun p => dispF p.1 p.2) := by
  obtain ⟨trs, h1, h2⟩ := hp.ok
  have P := pe_disp h1 hall hl h0 h15
  intro sl σ A w t
  have post : ∀ p, w.H p = none → PostR X.K Wx (fun w' (x : List XV × List XV) (ps : List (V × V)) => (∃ B, XsR1 X.K w' x.1 (ps.map (·.1)) B) ∧ XsRep X.K (old (w.own p (.dK []))) w' x.2 (ps.map (·.2))) σ (w.own p (.dK [])) (ff sl) (tPairs trs σ (upd w.H p (.dK []))) := fun p np =>
    h2 sl σ A (w.own p (.dK [])) (t.mono (Wd.own_le np) (Wd.own_ok t.ok np))
  cases hf : ff sl with
  | stuck => simp only [hf]; trivial
  | exc ex =>
    simp only [hf, R.bind_exc]
    refine fun Q qq => ⟨_, P, fun p np => ?_⟩
    have q := post p np
    rw [hf] at q
    exact q _ fun w' cls d k' l' => qq w' cls d k' ((Wd.own_le np).trans l')
  | ok pr =>
    simp only [hf, R.bind_ok]
    unfold dispF
    split
    · rename_i kd ms hk hm
      split
      · rename_i hc
        refine fun Q qq => ⟨_, P, fun p np => ?_⟩
        have q := post p np
        rw [hf] at q
        refine q _ fun w1 ps k1 l1 ⟨⟨B0, s1⟩, B, t1, t2, t3⟩ => ?_
        obtain ⟨kvs, e1, e2⟩ := keys_of s1 hk hc.2.2
        subst e1 e2
        have hn := dist_nodup hc.2.2
        have hp1 : w1.H p = some (.dK []) := l1.h p _ upd_same
        have hg1 : w1.G p = none := l1.gg p (by show upd w.H p _ p ≠ none; rw [upd_same]; simp) (t.ok.gh.free np)
        have hl15 : kvs.length ≤ 15 := by have := hc.1; rw [List.length_map] at this; exact this
        refine ⟨hp1, kvs, rfl, hl15, ?_⟩
        have hmg : mergeK [] kvs = kvs := merge_new (by simpa using hn)
        rw [hmg]
        have pB : p ∉ B := fun z => t3 p z (by show upd w.H p _ p ≠ none; rw [upd_same]; simp)
        have ro := moL_rep t1 hm
        have vsm : (kvs.map fun kv => (kV kv.1, kv.2)).map (·.2) = kvs.map (·.2) := by rw [List.map_map]; rfl
        rw [vsm] at ro
        refine qq ⟨w1.F, w1.G, upd w1.H p (.dK kvs), w1.bs⟩ (.ref p) ⟨k1.fg, k1.gh.mut hg1⟩ ?_ ⟨p :: B, ⟨p, kvs.map (·.2), B, rfl, ⟨kvs, .inl upd_same, rfl, rfl, hn⟩, ro.mono (.refl _) fun a ha o z => ?_, rfl⟩, ⟨List.nodup_cons.mpr ⟨pB, t2.nd⟩, fun a ha => ?_⟩, fun a ha => ?_⟩
        · have l := (Wd.own_le (o := .dK []) np).trans l1
          exact ⟨l.f, l.g, fun b o z => by
            show upd w1.H p _ b = some o
            rw [upd_ne (by rintro rfl; rw [np] at z; cases z)]; exact l.h b o z, l.ff, l.gg, l.bs⟩
        · show upd w1.H p _ a = some o
          rw [upd_ne (by rintro rfl; exact pB ha)]; exact z
        · rcases List.mem_cons.mp ha with z | z
          · subst z; exact ⟨hg1, fun o u q => by
              have q' : upd w1.H a _ a = some (.frz o u) := q
              rw [upd_same] at q'; cases q'⟩
          · refine ⟨(t2.no a z).1, fun o u q => ?_⟩
            have q' : upd w1.H p _ a = some (.frz o u) := q
            rw [upd_ne (by rintro rfl; exact pB z)] at q'
            exact (t2.no a z).2 o u q'
        · rcases List.mem_cons.mp ha with z | z
          · rw [z]; exact fun o => o np
          · exact fun o => t3 a z (by
              show upd w.H p _ a ≠ none
              by_cases e : a = p
              · rw [e, upd_same]; simp
              · rw [upd_ne e]; exact o)
      · trivial
    · trivial
end
end Mo
namespace Mo
open PySem PySem.Spec PyProof.Rows L2
section
variable {c : Calls} {k : Nat} {ck : Ck} {X : Cx} {Wx : WX} {a b e : Expr} {f g h : Sl → R XV} {pos : Pos} {es : List Expr} {fs : Sl → R (List XV)}
/-! ### slices -/
def weO (X : Cx) (e : Option Expr) : TO := fun σ H Q => ∃ t, PO X e t ∧ t σ H Q
theorem po_we {X : Cx} {e : Option Expr} : PO X e (weO X e) := ⟨fun pins s σ H Q I ⟨t, h, q⟩ => h.run pins s σ H Q I q⟩
/-- a slice's part -/
def OkO (X : Cx) (Wx : WX) (e : Option Expr) (f : Sl → R (Option Int)) : Prop := ∀ sl σ A w, At X.K sl σ A w → PostR X.K Wx (fun _ x o => x = o) σ w (f sl) (weO X e σ w.H)
theorem okO_no : OkO X Wx none (fun _ => .ok none) := fun sl σ A w t Q q => ⟨_, po_none, q w none t.ok (WLe.refl _) rfl⟩
theorem okO_so (he : OkE X Wx e f) : OkO X Wx (some e) (fun sl => (f sl).bind fun x => R.of (bnd x)) := by
  intro sl σ A w t
  refine PostR.bind (body := fun x H1 Q => ∃ i, x = V.int i ∧ Q (some i) H1) (he sl σ A w t) (fun Q q => ⟨_, po_some pe_we, q⟩) fun x w1 v hx k1 l1 r1 => ?_
  cases x with
  | cl d => cases d with
    | int i => exact fun Q q => ⟨i, r1.cl_of, q w1 (some i) k1 (WLe.refl _) rfl⟩
    | _ => trivial
  | _ => trivial
theorem cutL_map {α β : Type} (ff : α → β) (xs : List α) (l h : Option Int) : cutL (xs.map ff) l h = (cutL xs l h).map ff := by
  unfold cutL
  rw [List.length_map, ← List.map_drop, ← List.map_take]
theorem repL_cut {K : PySem.W.Frag} {T : Hp} {ds : List Mo.D} {vs : List V} (r : RepL K T ds vs) (l h : Option Int) : RepL K T (cutL ds l h) (cutV vs l h) := by
  unfold cutL cutV
  rw [← r.length]
  exact (r.drop _).take _
theorem cutL_all {α : Type} {xs : List α} {l h : Option Int} (h0 : HT.sIx xs.length 0 l = 0) (h1 : HT.sIx xs.length xs.length h = xs.length) : cutL xs l h = xs := by
  unfold cutL
  rw [h0, h1]; simp
/-- what a slice's rule is -/
theorem sli_rule (x : XV) (lo hi : Option Int) : ∃ r : V → Option Int → Option Int → Hp → VK → Prop, L2.SlR X r ∧ ∀ (O : Addr → Prop) (w : Wd) (σ : L2.St) (v : V) (z : XV), WOk w → (∀ p, w.H p = none → ¬ O p) → XRep X.K O w x v → sliF x lo hi = some z →
    PostR X.K Wx (fun w' x v => XRep X.K O w' x v) σ w (.ok z) (r v lo hi w.H) := by
  cases hm : x.mo with
  | none => exact ⟨_, sl_list, fun O w σ v z k nO rx hz => by unfold sliF at hz; rw [hm] at hz; cases hz⟩
  | some m =>
    have lst : ∀ ms, m.islst = some ms → (∀ z, sliF x lo hi = some z → (clM ms).map (fun ds => XV.nw (.lst ((cutL ds lo hi).map .cl))) = some z) → ∃ r : V → Option Int → Option Int → Hp → VK → Prop, L2.SlR X r ∧ ∀ (O : Addr → Prop) (w : Wd) (σ : L2.St) (v : V) (z : XV), WOk w → (∀ p, w.H p = none → ¬ O p) → XRep X.K O w x v → sliF x lo hi = some z →
        PostR X.K Wx (fun w' x v => XRep X.K O w' x v) σ w (.ok z) (r v lo hi w.H) := fun ms hl hz0 => ⟨_, sl_list, fun O w σ v z k nO rx hz => by
      have hz' := hz0 z hz
      cases hc : clM ms with
      | none => rw [hc] at hz'; cases hz'
      | some ds =>
        rw [hc] at hz'
        cases hz'
        obtain ⟨a, vs, rfl, e2, e3⟩ := rx.ldsR (ds := ds) k (by unfold XV.lds; rw [hm]; simp only [Option.bind_some, hl]; exact hc)
        exact PostR.newl (vs := cutV vs lo hi) k nO (repL_cut e3 lo hi) fun Q q => ⟨a, vs, rfl, e2, q⟩⟩
    have no : (sliF x lo hi = none) → ∃ r : V → Option Int → Option Int → Hp → VK → Prop, L2.SlR X r ∧ ∀ (O : Addr → Prop) (w : Wd) (σ : L2.St) (v : V) (z : XV), WOk w → (∀ p, w.H p = none → ¬ O p) → XRep X.K O w x v → sliF x lo hi = some z →
        PostR X.K Wx (fun w' x v => XRep X.K O w' x v) σ w (.ok z) (r v lo hi w.H) := fun hn => ⟨_, sl_list, fun O w σ v z k nO rx hz => by
      rw [hn] at hz; cases hz⟩
    cases m with
    | cl d =>
      cases d with
      | str s =>
        refine ⟨_, sl_str, fun O w σ v z k nO rx hz => ?_⟩
        unfold sliF at hz
        rw [hm] at hz
        simp only at hz
        split at hz
        · rename_i hl
          cases hz
          have ev : v = .str s := rx.clR hm
          exact PostR.val (u := .str (cutS s lo hi)) k rfl fun Q q => ⟨s, ev, hl, q⟩
        · cases hz
      | tup ds =>
        refine ⟨_, sl_tupA, fun O w σ v z k nO rx hz => ?_⟩
        unfold sliF at hz
        rw [hm] at hz
        cases hz
        obtain ⟨a, vs, rfl, e2, e3⟩ := rx.clR hm
        refine fun Q q => ⟨a, vs, rfl, k.fh.sqt e2, fun h => ?_, fun h p np => ?_⟩
        · rw [← e3.length] at h
          have := cutL_all h.1 h.2
          exact q w (.ref a) k (WLe.refl _) (XRep.cl (by rw [this]; exact ⟨a, vs, rfl, e2, e3⟩))
        · exact q (w.add p (.tup (cutV vs lo hi))) (.ref p) (Wd.add_ok k) (Wd.add_le k np) (XRep.cl ⟨p, _, rfl, .inl (.inl upd_same), (repL_cut e3 lo hi).mono (Wd.add_le (o := .tup (cutV vs lo hi)) k np).f⟩)
      | lst ds => exact lst _ rfl (by intro z hz; unfold sliF at hz; rw [hm] at hz; exact hz)
      | _ => exact no (by unfold sliF; rw [hm]; rfl)
    | lst ms => exact lst _ rfl (by intro z hz; unfold sliF at hz; rw [hm] at hz; exact hz)
    | _ => exact no (by unfold sliF; rw [hm]; rfl)
theorem ok_sli {x y : Option Expr} {p2 : Pos} {fl fh : Sl → R (Option Int)} (ha : OkE X Wx a f) (hl : OkO X Wx x fl) (hh : OkO X Wx y fh) :
    OkE X Wx (.Subscript a (.Slice x y none p2) pos) (fun sl => (f sl).bind fun v => (fl sl).bind fun l => (fh sl).bind fun h => R.of (sliF v l h)) := by
  intro sl σ A w t
  have P := fun (r : V → Option Int → Option Int → Hp → VK → Prop) (hr : L2.SlR X r) => pe_slice (p2 := p2) (pos := pos) hr (pe_we (X := X) (e := a)) (po_we (X := X) (e := x)) (po_we (X := X) (e := y))
  have q := ha sl σ A w t
  cases hf : f sl with
  | stuck => simp only [hf]; trivial
  | exc ex => rw [hf] at q; simp only [hf]; exact fun Q qq => ⟨_, P _ sl_list, q _ qq⟩
  | ok v =>
    rw [hf] at q
    simp only [hf, R.bind_ok]
    cases h1 : fl sl with
    | stuck => trivial
    | exc ex =>
      refine fun Q qq => ⟨_, P _ sl_list, q _ fun w1 u k1 l1 r1 => ?_⟩
      have q2 := hl sl σ A w1 (t.mono l1 k1)
      rw [h1] at q2
      exact q2 _ fun w' cls d k' l' => qq w' cls d k' (l1.trans l')
    | ok l =>
      simp only [R.bind_ok]
      cases h2 : fh sl with
      | stuck => trivial
      | exc ex =>
        refine fun Q qq => ⟨_, P _ sl_list, q _ fun w1 u k1 l1 r1 => ?_⟩
        have q2 := hl sl σ A w1 (t.mono l1 k1)
        rw [h1] at q2
        refine q2 _ fun w2 o k2 l2 r2 => ?_
        have q3 := hh sl σ A w2 (t.mono (l1.trans l2) k2)
        rw [h2] at q3
        exact q3 _ fun w' cls d k' l' => qq w' cls d k' ((l1.trans l2).trans l')
      | ok hb =>
        simp only [R.bind_ok]
        obtain ⟨r, hr, hrule⟩ := sli_rule (X := X) (Wx := Wx) v l hb
        refine PostR.of_none fun z hz Q qq => ⟨_, P r hr, q _ fun w1 u k1 l1 r1 => ?_⟩
        have q2 := hl sl σ A w1 (t.mono l1 k1)
        rw [h1] at q2
        refine q2 _ fun w2 o k2 l2 r2 => ?_
        have q3 := hh sl σ A w2 (t.mono (l1.trans l2) k2)
        rw [h2] at q3
        refine q3 _ fun w3 o3 k3 l3 r3 => ?_
        subst r2 r3
        have l13 := (l1.trans l2).trans l3
        exact hrule (old w) w3 σ u z k3 (fun p np o => o (l13.h.free np)) ((r1.mono l2).mono l3) hz Q fun w' v' k' l' r' => qq w' v' k' (l13.trans l') r'
/-! ### list(range(..)), methods of texts -/
theorem small_ok {i : Int} (h : smallB i = true) : -(2 ^ 62) ≤ i ∧ i < 2 ^ 62 := by
  unfold smallB at h
  simp only [Bool.and_eq_true, decide_eq_true_eq] at h
  exact h
theorem rgV_rep {K : PySem.W.Frag} {T : Hp} (i : Int) (n : Nat) : RepL K T (rangeD i n) ((List.range n).map fun j : Nat => V.int (i + (j : Nat))) := by
  unfold rangeD
  refine repL_of (by simp) fun j d hj => ?_
  rw [List.getElem?_map] at hj ⊢
  cases q : (List.range n)[j]? with
  | none => rw [q] at hj; cases hj
  | some m => rw [q] at hj; cases hj; exact ⟨_, rfl, rfl⟩
theorem ok_lrng (C : CxOk c k ck X) {p2 p3 p4 : Pos} (hg : glB ck.sc "list" = true) (hf : "list" ∈ ck.free) (hg2 : glB ck.sc "range" = true) (hf2 : "range" ∈ ck.free) (hs : notStar a = true) (hs2 : notStar b = true) (ha : OkE X Wx a f) (hb : OkE X Wx b g) :
    OkE X Wx (.Call (.Name "list" p2) [.Call (.Name "range" p3) [a, b] [] p4] [] pos) (fun sl => (f sl).bind fun x => (g sl).bind fun y => lrngF x y) :=
  ok_op2 ha hb fun x y => ⟨fun v u H Q => ∃ i j, v = .int i ∧ u = .int j ∧ (j - i).toNat ≤ 1000000 ∧ ∀ q, H q = none → Q (.ref q) (upd H q (.lst (rgV i j))), fun σ H Q q => ⟨_, pe_rgL C.calm (glB_ok (by rw [C.sc]; exact hg)) (C.free _ hf) (prg_2 (glB_ok (by rw [C.sc]; exact hg2)) (C.free _ hf2) pe_we pe_we (star_cons hs _ _) (star_cons hs2 _ _) (by rw [star_cons hs2]; rfl)), q⟩, fun w0 w σ v u k l rx ry => by
    unfold lrngF
    split
    · rename_i i j
      split
      · rename_i hc
        exact PostR.newl (vs := rgV i j) k (fun p np o => o (l.h.free np)) (rgV_rep i _) fun Q q => ⟨i, j, rx.cl_of, ry.cl_of, hc, q⟩
      · trivial
    · trivial⟩
theorem ok_sm0 {apos : Pos} {x : Str} (hx : Str.ofString SM.isdigit.nm = x) (hb : attOk a = true) (hl : (apos.endLine == pos.line) = true) (ha : OkE X Wx a f) : OkE X Wx (.Call (.Attribute a x apos) [] [] pos) (fun sl => (f sl).bind (sm0F .isdigit)) := by
  subst hx
  exact ok_op1 ha fun y => ⟨fun v H Q => (∃ a, v = .str a) ∧ ∃ a, v = .str a ∧ ([] : List V) = [] ∧ True ∧ Q (.bl (Txt.isdigit a)) H, fun σ H Q q => ⟨_, pe_m0 PySem.F.slot_str_isdigit PySem.F.type_str_isdigit mt_isdigit pe_we (att_base hb _ _ _) hl, q⟩, fun w0 w σ v k l rx => by
    unfold sm0F
    split
    · exact PostR.val (u := .bl _) k rfl fun Q q => ⟨⟨_, rx.cl_of⟩, _, rx.cl_of, rfl, trivial, q⟩
    · trivial⟩
theorem ok_sm1 {m : SM} {apos : Pos} {x : Str} (hm : m = .join ∨ m = .split ∨ m = .find) (hx : Str.ofString m.nm = x) (hb0 : attOk a = true) (hs : notStar b = true) (hl : (apos.endLine == pos.line) = true) (ha : OkE X Wx a f) (hb : OkE X Wx b g) :
    OkE X Wx (.Call (.Attribute a x apos) [b] [] pos) (fun sl => (f sl).bind fun x => if x.isS then (g sl).bind fun y => sm1F m x y else .stuck) := by
  subst hx
  have main : ∀ (r : V → List V → Hp → VK → Prop), PE X (.Call (.Attribute a (Str.ofString m.nm) apos) [b] [] pos) (tM1 r (weE X a) (weE X b)) →
      (∀ x y, x.isS = true → ∀ (O : Addr → Prop) (w : Wd) (σ : L2.St) (v u : V), WOk w → (∀ p, w.H p = none → ¬ O p) → XRep X.K O w x v → XRep X.K O w y u → PostR X.K Wx (fun w' x v => XRep X.K O w' x v) σ w (sm1F m x y) (r v [u] w.H)) →
      OkE X Wx (.Call (.Attribute a (Str.ofString m.nm) apos) [b] [] pos) (fun sl => (f sl).bind fun x => if x.isS then (g sl).bind fun y => sm1F m x y else .stuck) := fun r P hr => by
    intro sl σ A w t
    have q := ha sl σ A w t
    cases hf : f sl with
    | stuck => simp only [hf]; trivial
    | exc ex => rw [hf] at q; simp only [hf]; exact fun Q qq => ⟨_, P, q _ qq⟩
    | ok x =>
      rw [hf] at q
      simp only [hf, R.bind_ok]
      by_cases hi : x.isS = true
      · simp only [hi, if_true]
        have isS : ∀ {w1 v}, XRep X.K (old w) w1 x v → ∃ s, v = .str s := fun {w1 v} r1 => by
          unfold XV.isS at hi
          split at hi
          · exact ⟨_, r1.cl_of⟩
          · cases hi
        cases hg : g sl with
        | stuck => trivial
        | exc ex =>
          refine fun Q qq => ⟨_, P, q _ fun w1 v k1 l1 r1 => ⟨isS r1, ?_⟩⟩
          have q2 := hb sl σ A w1 (t.mono l1 k1)
          rw [hg] at q2
          exact q2 _ fun w' cls d k' l' => qq w' cls d k' (l1.trans l')
        | ok y =>
          simp only [R.bind_ok]
          have step : ∀ {Q : VK}, (∀ w2 v u, WOk w2 → WLe w w2 → XRep X.K (old w) w2 x v → XRep X.K (old w) w2 y u → r v [u] w2.H Q) → weE X (.Call (.Attribute a (Str.ofString m.nm) apos) [b] [] pos) σ w.H Q := fun {Q} hh => by
            refine ⟨_, P, q _ fun w1 v k1 l1 r1 => ⟨isS r1, ?_⟩⟩
            have q2 := hb.at1 (t.mono l1 k1) l1
            rw [hg] at q2
            exact q2 _ fun w2 u k2 l2 r2 => hh w2 v u k2 (l1.trans l2) (r1.mono l2) r2
          cases hz : sm1F m x y with
          | stuck => trivial
          | exc ex =>
            refine fun Q qq => step fun w2 v u k2 l2 rx ry => ?_
            have h3 := hr x y hi (old w) w2 σ v u k2 (fun p np o => o (l2.h.free np)) rx ry
            rw [hz] at h3
            exact h3 Q fun w' cls d k' l' er => qq w' cls d k' (l2.trans l') er
          | ok z =>
            refine fun Q qq => step fun w2 v u k2 l2 rx ry => ?_
            have h3 := hr x y hi (old w) w2 σ v u k2 (fun p np o => o (l2.h.free np)) rx ry
            rw [hz] at h3
            exact h3 Q fun w' v' k' l' r' => qq w' v' k' (l2.trans l') r'
      · simp only [hi]; trivial
  have strX : ∀ {x : XV}, x.isS = true → ∃ s, x = .cl (.str s) := fun {x} hi => by
    unfold XV.isS at hi
    split at hi
    · exact ⟨_, rfl⟩
    · cases hi
  rcases hm with rfl | rfl | rfl
  · refine main _ (pe_join pe_we pe_we (by rw [star_cons hs]; rfl) (att_base hb0 _ _ _) hl) fun x y hi O w σ v u k nO rx ry => ?_
    obtain ⟨s, rfl⟩ := strX hi
    unfold sm1F
    simp only
    cases hl : y.rd.lds with
    | none => trivial
    | some ds =>
      simp only [Option.bind_some]
      cases hn : strsD ds with
      | none => trivial
      | some ss =>
        simp only
        split
        · rename_i hc
          obtain ⟨p, us, rfl, e2, e3⟩ := ry.rd.ldsR k hl
          obtain rfl := repL_strs e3 hn
          exact PostR.val (u := .str _) k rfl fun Q q => ⟨s, p, ss, rx.cl_of, rfl, .inl e2, hc, q⟩
        · trivial
  · refine main _ (pe_split pe_we pe_we (by rw [star_cons hs]; rfl) (att_base hb0 _ _ _) hl) fun x y hi O w σ v u k nO rx ry => ?_
    obtain ⟨s, rfl⟩ := strX hi
    unfold sm1F
    simp only
    split
    · split
      · rename_i hc
        exact PostR.newl (vs := (Txt.split _ _).map V.str) k nO (repL_str _) fun Q q => ⟨s, _, rx.cl_of, by rw [show u = _ from ry.cl_of], hc.1, hc.2, q⟩
      · trivial
    · trivial
  · refine main _ (pe_m1 PySem.F.slot_str_find PySem.F.type_str_find mt_find pe_we pe_we (by rw [star_cons hs]; rfl) (att_base hb0 _ _ _) hl) fun x y hi O w σ v u k nO rx ry => ?_
    obtain ⟨s, rfl⟩ := strX hi
    unfold sm1F
    simp only
    split
    · exact PostR.val (u := .int _) k rfl fun Q q => ⟨s, _, rx.cl_of, by rw [show u = _ from ry.cl_of], q⟩
    · trivial
end
end Mo
namespace Mo
open PySem PySem.Spec PyProof.Rows L2
/-! ### targets -/
def weG (X : Cx) (tg : Expr) : TG := fun v σ H Q => ∃ t, PG X tg t ∧ t v σ H Q
theorem pg_we {X : Cx} {tg : Expr} : PG X tg (weG X tg) := ⟨fun pins s σ H v u Q I r ⟨t, h, q⟩ => h.run pins s σ H v u Q I r q⟩
def weGs (X : Cx) (ts : List Expr) : TGs := fun v σ H Q => ∃ t, PGs X ts t ∧ t v σ H Q
theorem pgs_we {X : Cx} {ts : List Expr} : PGs X ts (weGs X ts) := ⟨fun pins s σ H v u Q I r ⟨t, h, q⟩ => h.run pins s σ H v u Q I r q⟩
structure Off (l : List Nat) (σ σ' : L2.St) : Prop where
  len : σ'.length = σ.length
  eq : ∀ i, i ∉ l → σ'[i]? = σ[i]?
theorem Off.trans {l l' m : List Nat} {σ σ1 σ2 : L2.St} (a : Off l σ σ1) (b : Off l' σ1 σ2) (h : ∀ i, i ∈ l ∨ i ∈ l' → i ∈ m) : Off m σ σ2 :=
  ⟨b.len.trans a.len, fun i hi => (b.eq i fun z => hi (h i (.inr z))).trans (a.eq i fun z => hi (h i (.inl z)))⟩
theorem At.set {K : PySem.W.Frag} {sl : Sl} {σ : L2.St} {A : List Addr} {w : Wd} (t : At K sl σ A w) {s : SV} {o : Option V} {C : List Addr} (h : SvR K w s o C) (hc : Own w C) (hn : ∀ a ∈ C, a ∉ A) (i : Nat) :
    ∃ A', At K (sl.set i s) (σ.set i o) A' w ∧ ∀ a ∈ A', a ∈ A ∨ a ∈ C := by
  obtain ⟨A', h1, h2, h3⟩ := SlR.set h i t.sl t.ow.nd hc.nd hn
  exact ⟨A', ⟨t.ok, h1, h2, fun a ha => (h3 a ha).elim (t.ow.no a) (hc.no a)⟩, h3⟩
theorem At.setCl {K : PySem.W.Frag} {sl : Sl} {σ : L2.St} {A : List Addr} {w : Wd} (t : At K sl σ A w) {d : D} {v : V} (h : Rep K w.F d v) (i : Nat) : ∃ A', At K (sl.set i (.cl d)) (σ.set i (some v)) A' w ∧ ∀ a ∈ A', a ∈ A := by
  obtain ⟨A', h1, h2⟩ := t.set (s := .cl d) (C := []) ⟨v, rfl, h, rfl⟩ own_nil (fun a h => absurd h (by simp)) i
  exact ⟨A', h1, fun a ha => (h2 a ha).elim id fun z => absurd z (by simp)⟩
/-- what targets ask of the context -/
structure TgOk (N : List Str) (tl : Str → Bool) (X : Cx) : Prop where
  N : X.N = N
  nd : X.N.Nodup
  calm : X.calm = true
  tl : ∀ x, tl x = true → L2.Loc X.env.scope x ∧ (X.fn x = true ∨ X.env.scope.names.lookup x = some .local)
section
variable {X : Cx} {N : List Str} {tl : Str → Bool}
theorem chkT_star {t : Tg} {x : Expr} (h : chkT N tl t x = true) : notStar x = true := by
  cases t <;> unfold chkT at h <;> split at h <;> first | rfl | cases h
theorem assign_cons {x : Expr} (h : notStar x = true) (xs : List Expr) (env : Env) : assignEach (x :: xs) env = (false, assign x env) :: assignEach xs env := by
  cases x <;> first | rfl | (cases h; done)
theorem assign_len : ∀ {ts : List Tg} {xs : List Expr} {env : Env}, chkTs N tl ts xs = true → (assignEach xs env).length = xs.length ∧ (assignEach xs env).findIdx? (·.1) = none ∧ ts.length = xs.length
  | [], xs, _, h => by
    unfold chkTs at h
    cases xs with
    | nil => exact ⟨rfl, rfl, rfl⟩
    | cons _ _ => cases h
  | t :: ts, xs, env, h => by
    unfold chkTs at h
    cases xs with
    | nil => cases h
    | cons x xs =>
      simp only [Bool.and_eq_true] at h
      obtain ⟨h1, h2, h3⟩ := assign_len (env := env) h.2
      rw [assign_cons (chkT_star h.1)]
      exact ⟨by simp [h1], by rw [List.findIdx?_cons]; simp [h2], by simp [h3]⟩
theorem tgxL_len : ∀ {ts : List Tg} {ds : List XV} {sl sl' : Sl}, tgxL ts ds sl = some sl' → ds.length = ts.length
  | [], [], _, _, _ => rfl
  | [], _ :: _, _, _, e => by unfold tgxL at e; cases e
  | _ :: _, [], _, _, e => by unfold tgxL at e; cases e
  | t :: ts, d :: ds, sl, sl', e => by
    unfold tgxL at e
    cases h : tgx t d sl with
    | none => rw [h] at e; cases e
    | some s1 => rw [h] at e; simp [tgxL_len e]
mutual
theorem tgo_tgx : ∀ (t : Tg) (d : D) (sl : Sl), tgo t d sl = tgx t (.cl d) sl
  | .n i, d, sl => by unfold tgo tgx; rfl
  | .t ts, d, sl => by
    unfold tgx
    cases d with
    | tup ds =>
      unfold tgo
      show tgoL ts ds sl = tgxL ts (ds.map .cl) sl
      exact tgoL_tgxL ts ds sl
    | _ => unfold tgo; rfl
theorem tgoL_tgxL : ∀ (ts : List Tg) (ds : List D) (sl : Sl), tgoL ts ds sl = tgxL ts (ds.map .cl) sl
  | [], [], sl => by unfold tgoL tgxL; rfl
  | [], _ :: _, sl => by unfold tgoL tgxL; rfl
  | _ :: _, [], sl => by unfold tgoL tgxL; rfl
  | t :: ts, d :: ds, sl => by
    rw [List.map_cons]
    unfold tgoL tgxL
    rw [tgo_tgx t d sl]
    cases tgx t (.cl d) sl with
    | none => rfl
    | some s1 => exact tgoL_tgxL ts ds s1
end
theorem own_sub {w : Wd} {A B : List Addr} (h : Own w A) (s : ∀ a ∈ B, a ∈ A) (n : B.Nodup) : Own w B := ⟨n, fun a ha => h.no a (s a ha)⟩
theorem cls_R1 {K : PySem.W.Frag} {w : Wd} : ∀ {ds : List D} {vs : List V}, RepL K w.F ds vs → XsR1 K w (ds.map .cl) vs []
  | [], vs, h => ⟨h, rfl⟩
  | d :: ds, _, ⟨v, r, e1, e2, e3⟩ => ⟨v, r, [], [], e1, ⟨e2, rfl⟩, cls_R1 e3, rfl⟩
theorem subs_R1 {K : PySem.W.Frag} {w : Wd} (m0 : MO) : ∀ {ms : List MO} {vs : List V} {A : List Addr}, ORepL K w.F w.G ms vs A → XsR1 K w (ms.map (XV.lk m0).sub) vs []
  | [], vs, _, h => ⟨h.1, rfl⟩
  | m :: ms, _, _, ⟨v, r, A1, A2, e1, e2, e3, e4⟩ => ⟨v, r, [], [], e1, by
      cases m with
      | cl d => exact ⟨e2.1, rfl⟩
      | _ => exact ⟨⟨_, e2⟩, rfl⟩, subs_R1 m0 e3, rfl⟩
theorem kids_R1 {K : PySem.W.Frag} {w : Wd} (m0 : MO) : ∀ {ms : List MO} {vs : List V} {A : List Addr}, ORepL K w.F w.H ms vs A → XsR1 K w (ms.map (XV.nw m0).kid) vs A
  | [], vs, _, h => h
  | m :: ms, _, _, ⟨v, r, A1, A2, e1, e2, e3, e4⟩ => ⟨v, r, A1, A2, e1, by
      cases m with
      | cl d => exact ⟨e2.1, e2.2⟩
      | _ => exact e2, kids_R1 m0 e3, e4⟩
mutual
/-- targets: a value is laid into slots -/
theorem ok_tg (C : TgOk N tl X) : ∀ {t : Tg} {x : Expr}, chkT N tl t x = true → ∀ {sl sl' : Sl} {σ : L2.St} {A Cc : List Addr} {w : Wd} {y : XV} {v : V}, At X.K sl σ A w → XR1 X.K w y v Cc → Own w Cc → (∀ a ∈ Cc, a ∉ A) → tgx t y sl = some sl' →
    ∀ Q : L2.St → Hp → Prop, (∀ σ' A', At X.K sl' σ' A' w → (∀ a ∈ A', a ∈ A ∨ a ∈ Cc) → Off t.slots σ σ' → Q σ' w.H) → weG X x v σ w.H Q
  | .n i, x, h, sl, sl', σ, A, Cc, w, y, v, t, r, ow, dj, e, Q, q => by
    unfold chkT at h
    split at h
    · rename_i xn pn
      simp only [Bool.and_eq_true, decide_eq_true_eq] at h
      unfold tgx at e
      obtain ⟨l1, l2⟩ := C.tl _ h.2
      have go : ∀ {s : SV} {C2 : List Addr}, sl.set i s = sl' → SvR X.K w s (some v) C2 → Own w C2 → (∀ a ∈ C2, a ∈ Cc) → weG X (.Name xn pn) v σ w.H Q := fun {s C2} es hs ho hc => by
        subst es
        obtain ⟨A', t2, s2⟩ := t.set hs ho (fun a ha => dj a (hc a ha)) i
        refine ⟨_, pg_name C.nd (by rw [C.N]; exact h.1) l1 l2, q _ A' t2 (fun a ha => (s2 a ha).imp id (hc a)) ⟨by simp, fun j hj => ?_⟩⟩
        have : j ≠ i := by simpa [Tg.slots] using hj
        rw [List.getElem?_set_ne (Ne.symm this)]
      cases y with
      | cl d => cases e; exact go rfl ⟨v, rfl, r.1, rfl⟩ own_nil (fun a h => absurd h (by simp))
      | lk m => cases e; obtain ⟨⟨C', o⟩, _⟩ := r; exact go rfl ⟨v, C', rfl, o, rfl⟩ own_nil (fun a h => absurd h (by simp))
      | nw m => cases e; exact go (s := .ow m) rfl ⟨v, rfl, r⟩ ow (fun a h => h)
      | tm m => cases e
      | al => cases e
      | mu _ _ => cases e
    · cases h
  | .t ts, x, h, sl, sl', σ, A, Cc, w, y, v, t, r, ow, dj, e, Q, q => by
    unfold chkT at h
    split at h
    · rename_i xs n p
      obtain ⟨h1, h2, h3⟩ := assign_len (env := X.env) h
      unfold tgx at e
      cases hy : y.tup with
      | none => rw [hy] at e; cases e
      | some ys =>
        rw [hy] at e
        simp only [Option.bind_some] at e
        have hl : ys.length = ts.length := tgxL_len e
        have go : ∀ {a : Addr} {vs : List V} {C2 : List Addr}, v = .ref a → SqT X.K w.H a vs → XsR1 X.K w ys vs C2 → Own w C2 → (∀ a ∈ C2, a ∈ Cc) → weG X (.Tuple xs n p) v σ w.H Q := fun {a vs C2} ev sq rs ho hc => by
          subst ev
          exact ⟨_, pg_tup C.calm pgs_we h1 h2, a, vs, rfl, sq, by rw [← rs.length, hl, h3], ok_tgs C h t rs ho (fun a ha => dj a (hc a ha)) e Q fun σ' A' t2 s2 o => q σ' A' t2 (fun a ha => (s2 a ha).imp id (hc a)) o⟩
        cases y with
        | cl d =>
          cases d with
          | tup ds =>
            cases hy
            obtain ⟨a, vs, e1, e2, e3⟩ := r.1
            exact go e1 (t.ok.fh.sm.sqt e2) (cls_R1 e3) own_nil (fun a h => absurd h (by simp))
          | _ => cases hy
        | lk m =>
          cases m with
          | tup ms =>
            cases hy
            obtain ⟨⟨C', a, vs, B, e1, e2, e3, e4⟩, _⟩ := r
            exact go e1 (.inl (t.ok.gh.rd e2)) (subs_R1 _ e3) own_nil (fun a h => absurd h (by simp))
          | _ => cases hy
        | nw m =>
          cases m with
          | tup ms =>
            cases hy
            obtain ⟨a, vs, B, e1, e2, e3, e4⟩ := r
            subst e4
            exact go e1 (.inl e2) (kids_R1 _ e3) (own_sub ow (fun b hb => List.mem_cons_of_mem _ hb) (List.nodup_cons.mp ow.nd).2) (fun b hb => List.mem_cons_of_mem _ hb)
          | _ => cases hy
        | tm m => cases hy
        | al => cases hy
        | mu _ _ => cases hy
    · cases h
theorem ok_tgs (C : TgOk N tl X) : ∀ {ts : List Tg} {xs : List Expr}, chkTs N tl ts xs = true → ∀ {sl sl' : Sl} {σ : L2.St} {A Cc : List Addr} {w : Wd} {ys : List XV} {vs : List V}, At X.K sl σ A w → XsR1 X.K w ys vs Cc → Own w Cc → (∀ a ∈ Cc, a ∉ A) → tgxL ts ys sl = some sl' →
    ∀ Q : L2.St → Hp → Prop, (∀ σ' A', At X.K sl' σ' A' w → (∀ a ∈ A', a ∈ A ∨ a ∈ Cc) → Off (Tg.slotsL ts) σ σ' → Q σ' w.H) → weGs X xs vs σ w.H Q
  | [], xs, h, sl, sl', σ, A, Cc, w, ys, vs, t, r, ow, dj, e, Q, q => by
    unfold chkTs at h
    cases xs with
    | cons _ _ => cases h
    | nil =>
      cases ys with
      | cons _ _ => unfold tgxL at e; cases e
      | nil =>
        unfold tgxL at e
        cases e
        exact ⟨_, pgs_nil, r.1, q σ A t (fun _ h => .inl h) ⟨rfl, fun _ _ => rfl⟩⟩
  | tg :: ts, xs, h, sl, sl', σ, A, Cc, w, ys, vs, t, r, ow, dj, e, Q, q => by
    unfold chkTs at h
    cases xs with
    | nil => cases h
    | cons x xs =>
      simp only [Bool.and_eq_true] at h
      cases ys with
      | nil => unfold tgxL at e; cases e
      | cons y ys =>
        unfold tgxL at e
        obtain ⟨v, vr, C1, C2, rfl, r1, r2, rfl⟩ := r
        have nd := List.nodup_append.mp ow.nd
        cases h1 : tgx tg y sl with
        | none => rw [h1] at e; cases e
        | some s1 =>
          rw [h1] at e
          simp only [Option.bind_some] at e
          refine ⟨_, pgs_cons pg_we pgs_we (by rw [assign_cons (chkT_star h.1)]; rfl), v, vr, rfl, ok_tg C h.1 t r1 (own_sub ow (fun a ha => List.mem_append_left _ ha) nd.1) (fun a ha => dj a (List.mem_append_left _ ha)) h1 _ fun σ1 A1 t1 s1' o1 => ?_⟩
          refine ok_tgs C h.2 t1 r2 (own_sub ow (fun a ha => List.mem_append_right _ ha) nd.2.1) (fun a ha z => ?_) e Q fun σ2 A2 t2 s2 o2 => q σ2 A2 t2 (fun a ha => ?_) (o1.trans o2 fun i hi => by
            show i ∈ tg.slots ++ Tg.slotsL ts
            exact List.mem_append.mpr hi)
          · rcases s1' a z with y | y
            · exact dj a (List.mem_append_right _ ha) y
            · exact nd.2.2 a y a ha rfl
          · rcases s2 a ha with y | y
            · rcases s1' a y with z | z
              · exact .inl z
              · exact .inr (List.mem_append_left _ z)
            · exact .inr (List.mem_append_right _ y)
end
end
/-! ### what is walked -/
/-- J walks the items xs from w1 on -/
structure Goes (K : PySem.W.Frag) (J : L2.It) (w1 : Wd) (xs : List XV) : Prop where
  go : ∀ w2, WOk w2 → Ex w1.F w2.F → Ex w1.G w2.G → ∀ i, i < xs.length → J.go i w2.H
  yld : ∀ w2, WOk w2 → Ex w1.F w2.F → Ex w1.G w2.G → ∀ i x H', J.yld i w2.H x H' → i < xs.length → ∃ w3 y, H' = w3.H ∧ WOk w3 ∧ WLe w2 w3 ∧ xs[i]? = some y ∧ XR1 K w3 y x []
  stop : ∀ w2, WOk w2 → Ex w1.F w2.F → Ex w1.G w2.G → J.stop xs.length w2.H
def Its.l : Its → List XV
  | .ds u => u.map .cl
  | .xs u => u
theorem goes_seq {K : PySem.W.Frag} {w1 : Wd} {J : L2.It} {xs : List XV} {vs : List V} (h : ∀ w2, WOk w2 → Ex w1.F w2.F → Ex w1.G w2.G → (∀ i, i < vs.length → J.go i w2.H) ∧ (∀ i x H', J.yld i w2.H x H' → H' = w2.H ∧ vs[i]? = some x) ∧ J.stop vs.length w2.H) (hl : xs.length = vs.length)
    (r : ∀ w2, Ex w1.F w2.F → Ex w1.G w2.G → ∀ (i : Nat) y, xs[i]? = some y → ∃ u, vs[i]? = some u ∧ XR1 K w2 y u []) : Goes K J w1 xs where
  go := fun w2 k e g i hi => (h w2 k e g).1 i (by rw [← hl]; exact hi)
  yld := fun w2 k e g i x H' hy hi => by
    obtain ⟨e1, e2⟩ := (h w2 k e g).2.1 i x H' hy
    have hx : xs[i]? = some xs[i] := List.getElem?_eq_getElem hi
    obtain ⟨u, h1, h2⟩ := r w2 e g i _ hx
    rw [e2] at h1
    cases h1
    exact ⟨w2, _, e1, k, WLe.refl _, hx, h2⟩
  stop := fun w2 k e g => by rw [hl]; exact (h w2 k e g).2.2
theorem goes_list {K : PySem.W.Frag} {w1 : Wd} {a : Addr} {vs : List V} {xs : List XV} (h : ∀ w2, WOk w2 → Ex w1.F w2.F → Ex w1.G w2.G → SqL K w2.H a vs) (hl : xs.length = vs.length)
    (r : ∀ w2, Ex w1.F w2.F → Ex w1.G w2.G → ∀ (i : Nat) y, xs[i]? = some y → ∃ u, vs[i]? = some u ∧ XR1 K w2 y u []) : Goes K (Itl K a) w1 xs :=
  goes_seq (fun w2 k e g => ⟨fun i hi => ⟨vs, vs[i], h w2 k e g, by simp⟩, fun i x H' ⟨e1, e2⟩ => ⟨e1, e2 vs (h w2 k e g)⟩, ⟨vs, h w2 k e g, Nat.le_refl _⟩⟩) hl r
theorem goes_tup {K : PySem.W.Frag} {w1 : Wd} {a : Addr} {vs : List V} {xs : List XV} (h : ∀ w2, WOk w2 → Ex w1.F w2.F → Ex w1.G w2.G → SqT K w2.H a vs) (hl : xs.length = vs.length)
    (r : ∀ w2, Ex w1.F w2.F → Ex w1.G w2.G → ∀ (i : Nat) y, xs[i]? = some y → ∃ u, vs[i]? = some u ∧ XR1 K w2 y u []) : Goes K (Itt K a) w1 xs :=
  goes_seq (fun w2 k e g => ⟨fun i hi => ⟨vs, vs[i], h w2 k e g, by simp⟩, fun i x H' ⟨e1, e2⟩ => ⟨e1, e2 vs (h w2 k e g)⟩, ⟨vs, h w2 k e g, Nat.le_refl _⟩⟩) hl r
/-- items of data -/
theorem cl_items {K : PySem.W.Frag} {w1 : Wd} {ds : List D} {vs : List V} (r : RepL K w1.F ds vs) : ∀ w2 : Wd, Ex w1.F w2.F → Ex w1.G w2.G → ∀ (i : Nat) y, (ds.map XV.cl)[i]? = some y → ∃ u, vs[i]? = some u ∧ XR1 K w2 y u [] := fun w2 e _ i y hi => by
  rw [List.getElem?_map] at hi
  cases q : ds[i]? with
  | none => rw [q] at hi; cases hi
  | some d =>
    rw [q] at hi
    cases hi
    obtain ⟨u, h1, h2⟩ := r.get q
    exact ⟨u, h1, h2.mono e, rfl⟩
theorem lk_items {K : PySem.W.Frag} {w1 : Wd} {m0 : MO} {ms : List MO} {vs : List V} {A : List Addr} (r : ORepL K w1.F w1.G ms vs A) : ∀ w2 : Wd, Ex w1.F w2.F → Ex w1.G w2.G → ∀ (i : Nat) y, (ms.map (XV.lk m0).sub)[i]? = some y → ∃ u, vs[i]? = some u ∧ XR1 K w2 y u [] := fun w2 e g i y hi => by
  rw [List.getElem?_map] at hi
  cases q : ms[i]? with
  | none => rw [q] at hi; cases hi
  | some m =>
    rw [q] at hi
    cases hi
    obtain ⟨u, B, h1, h2, _⟩ := r.get q
    refine ⟨u, h1, ?_⟩
    have h3 := h2.mono e (fun a _ o z => g a o z)
    cases m with
    | cl d => exact ⟨h3.1, rfl⟩
    | _ => exact ⟨⟨B, h3⟩, rfl⟩
theorem rangeD_get {lo : Int} {n i : Nat} (h : i < n) : (rangeD lo n)[i]? = some (.int (lo + i)) := by
  unfold rangeD
  rw [List.getElem?_map, List.getElem?_range h]
  rfl
theorem rangeD_len (lo : Int) (n : Nat) : (rangeD lo n).length = n := by unfold rangeD; rw [List.length_map, List.length_range]
def weI (X : Cx) (tg it : Expr) : TI := fun σ H R => ∃ t, PI X tg it t ∧ t σ H R
theorem pi_we {X : Cx} {tg it : Expr} : PI X tg it (weI X tg it) := ⟨fun pins s σ H R I ⟨t, h, q⟩ => h.run pins s σ H R I q⟩
def OkI (X : Cx) (Wx : WX) (tg it : Expr) (f : Sl → R Its) : Prop := ∀ sl σ A w, At X.K sl σ A w → PostR X.K Wx (fun w' its J => Goes X.K J w' its.l) σ w (f sl) (weI X tg it σ w.H)
section
variable {c : Calls} {k : Nat} {ck : Ck} {X : Cx} {Wx : WX} {a b e tg : Expr} {f g : Sl → R XV} {pos : Pos}
theorem chars_len (s : Str) : (chars s).length = s.length := by
  unfold chars Str.length
  simp
theorem goes_str {K : PySem.W.Frag} {w1 : Wd} {s : Str} : Goes K (L2.Its s) w1 ((chars s).map .cl) where
  go := fun w2 k e g i hi => by
    rw [List.length_map, chars_len] at hi
    exact hi
  yld := fun w2 k e g i x H' ⟨e1, c, e2, e3⟩ hi => by
    refine ⟨w2, .cl (.str (sgn c)), e1, k, WLe.refl _, ?_, by rw [e3]; rfl, rfl⟩
    unfold chars
    rw [List.getElem?_map, List.getElem?_map, Array.getElem?_toList, e2]
    rfl
  stop := fun w2 k e g => by
    rw [List.length_map, chars_len]
    exact Nat.le_refl _
theorem okI_exp (he : OkE X Wx e f) : OkI X Wx tg e (fun sl => (f sl).bind itF) := by
  intro sl σ A w t
  have q := he sl σ A w t
  cases hf : f sl with
  | stuck => simp only [hf]; trivial
  | exc ex => rw [hf] at q; simp only [hf]; exact fun Q qq => ⟨_, pi_list pe_we, q _ qq⟩
  | ok z =>
    rw [hf] at q
    simp only [hf, R.bind_ok]
    unfold itF
    split
    · refine fun Q qq => ⟨_, pi_list pe_we, q _ fun w1 v k1 l1 r1 => ?_⟩
      obtain ⟨a, vs, rfl, e2, e3⟩ := r1.cl_of
      exact ⟨a, rfl, ⟨vs, k1.fh.sql e2⟩, qq w1 _ k1 l1 (goes_list (fun w2 k e _ => (e.trans k.fh).sql e2) (by show (List.map _ _).length = _; rw [List.length_map, e3.length]) (cl_items e3))⟩
    · refine fun Q qq => ⟨_, pi_tup pe_we, q _ fun w1 v k1 l1 r1 => ?_⟩
      obtain ⟨a, vs, rfl, e2, e3⟩ := r1.cl_of
      exact ⟨a, rfl, ⟨vs, k1.fh.sqt e2⟩, qq w1 _ k1 l1 (goes_tup (fun w2 k e _ => (e.trans k.fh).sqt e2) (by show (List.map _ _).length = _; rw [List.length_map, e3.length]) (cl_items e3))⟩
    · split
      · refine fun Q qq => ⟨_, pi_str pe_we, q _ fun w1 v k1 l1 r1 => ?_⟩
        exact ⟨_, r1.cl_of, qq w1 _ k1 l1 goes_str⟩
      · trivial
    · have lkP : ∀ {its : Its} {ms : List MO}, (∀ w1 v, WOk w1 → XRep X.K (old w) w1 (.lk (.lst ms)) v → ∃ a vs, v = .ref a ∧ SqL X.K w1.H a vs ∧ Goes X.K (Itl X.K a) w1 its.l) → (∀ Q, (∀ w' v, WOk w' → WLe w w' → XRep X.K (old w) w' (.lk (.lst ms)) v → Q v w'.H) → weE X e σ w.H Q) →
          PostR X.K Wx (fun w' its J => Goes X.K J w' its.l) σ w (.ok its) (weI X tg e σ w.H) := fun {its ms} hg hq Q qq => by
        refine ⟨_, pi_list pe_we, hq _ fun w1 v k1 l1 r1 => ?_⟩
        obtain ⟨a, vs, rfl, e2, G⟩ := hg w1 v k1 r1
        exact ⟨a, rfl, ⟨vs, e2⟩, qq w1 _ k1 l1 G⟩
      rename_i ms
      cases hc : clM ms with
      | some ds =>
        refine lkP (ms := ms) (fun w1 v k1 r1 => ?_) q
        obtain ⟨B, ⟨⟨A', a, vs, B', e1, e2, e3, e4⟩, _⟩, _⟩ := r1
        obtain rfl := clM_map hc
        refine ⟨a, vs, e1, .inl (k1.gh.rd e2), goes_list (fun w2 k e g => .inl ((g.trans k.gh).rd e2)) (by show (List.map _ _).length = _; rw [List.length_map]; have := e3.length; rw [List.length_map] at this; exact this) fun w2 e g i y hi => ?_⟩
        have e' : Its.l (.ds ds) = (ds.map MO.cl).map (XV.lk (.lst [])).sub := by
          show ds.map XV.cl = _
          rw [List.map_map]; rfl
        rw [e'] at hi
        exact lk_items e3 w2 e g i y hi
      | none =>
        refine lkP (ms := ms) (fun w1 v k1 r1 => ?_) q
        obtain ⟨B, ⟨⟨A', a, vs, B', e1, e2, e3, e4⟩, _⟩, _⟩ := r1
        exact ⟨a, vs, e1, .inl (k1.gh.rd e2), goes_list (fun w2 k e g => .inl ((g.trans k.gh).rd e2)) (by show (List.map _ _).length = _; rw [List.length_map]; exact e3.length) (lk_items e3)⟩
    · trivial
theorem rangeC_get {lo c : Int} {n i : Nat} (h : i < n) : (rangeC lo c n)[i]? = some (.int (lo + i * c)) := by
  unfold rangeC
  rw [List.getElem?_map, List.getElem?_range h]
  rfl
theorem rangeC_len (lo c : Int) (n : Nat) : (rangeC lo c n).length = n := by unfold rangeC; rw [List.length_map, List.length_range]
theorem goes_rangeC {K : PySem.W.Frag} {w1 : Wd} {lo c : Int} {n : Nat} : Goes K (Itc lo c n) w1 ((rangeC lo c n).map .cl) where
  go := fun w2 k e g i hi => by rw [List.length_map, rangeC_len] at hi; exact hi
  yld := fun w2 k e g i x H' ⟨e1, e2⟩ hi => by
    rw [List.length_map, rangeC_len] at hi
    exact ⟨w2, .cl (.int (lo + i * c)), e1, k, WLe.refl _, by rw [List.getElem?_map, rangeC_get hi]; rfl, e2, rfl⟩
  stop := fun w2 k e g => by rw [List.length_map, rangeC_len]; exact Nat.le_refl _
theorem rangeC_one (lo : Int) (n : Nat) : rangeC lo 1 n = rangeD lo n := by
  unfold rangeC rangeD
  exact List.map_congr_left fun a _ => by rw [Int.mul_one]
theorem okI_rng1 (C : CxOk c k ck X) {p2 p3 : Pos} (hg : glB ck.sc "range" = true) (hf : "range" ∈ ck.free) (hs : notStar a = true) (ha : OkE X Wx a f) : OkI X Wx tg (.Call (.Name "range" p2) [a] [] p3) (fun sl => (f sl).bind rng1F) := by
  intro sl σ A w t
  have P : PI X tg (.Call (.Name "range" p2) [a] [] p3) (iL1 (tCons (weE X a) tNil)) := pi_any1 (glB_ok (by rw [C.sc]; exact hg)) (C.free _ hf) (pa_cons pe_we pa_nil (star_cons hs _ _)) (by rw [star_cons hs]; rfl)
  have q := ha sl σ A w t
  cases hf : f sl with
  | stuck => simp only [hf]; trivial
  | exc ex => rw [hf] at q; simp only [hf]; exact fun Q qq => ⟨_, P, q _ qq⟩
  | ok z =>
    rw [hf] at q
    simp only [hf, R.bind_ok]
    unfold rng1F
    split
    · rename_i j
      refine fun Q qq => ⟨_, P, q _ fun w1 v k1 l1 r1 => ?_⟩
      have ev : v = .int j := r1.cl_of
      subst ev
      refine ⟨j, rfl, qq w1 _ k1 l1 ?_⟩
      show Goes _ _ _ ((rangeD 0 j.toNat).map .cl)
      rw [Int.sub_zero, ← rangeC_one]
      exact goes_rangeC
    · trivial
theorem okI_rng2 (C : CxOk c k ck X) {p2 p3 : Pos} (hg : glB ck.sc "range" = true) (hfr : "range" ∈ ck.free) (hs : notStar a = true) (hs2 : notStar b = true) (ha : OkE X Wx a f) (hb : OkE X Wx b g) :
    OkI X Wx tg (.Call (.Name "range" p2) [a, b] [] p3) (fun sl => (f sl).bind fun x => (g sl).bind fun y => rng2F x y) := by
  intro sl σ A w t
  have P : PI X tg (.Call (.Name "range" p2) [a, b] [] p3) (iL2 (tCons (weE X a) (tCons (weE X b) tNil))) := pi_any2 (glB_ok (by rw [C.sc]; exact hg)) (C.free _ hfr) (pa_cons pe_we (pa_cons pe_we pa_nil (star_cons hs2 _ _)) (star_cons hs _ _)) (by rw [star_cons hs, star_cons hs2]; rfl) (by rw [star_cons hs2]; rfl)
  have q := ha sl σ A w t
  cases hf : f sl with
  | stuck => simp only [hf]; trivial
  | exc ex => rw [hf] at q; simp only [hf]; exact fun Q qq => ⟨_, P, q _ qq⟩
  | ok z =>
    rw [hf] at q
    simp only [hf, R.bind_ok]
    cases hg' : g sl with
    | stuck => trivial
    | exc ex =>
      refine fun Q qq => ⟨_, P, q _ fun w1 v k1 l1 r1 => ?_⟩
      have q2 := hb sl σ A w1 (t.mono l1 k1)
      rw [hg'] at q2
      exact q2 _ fun w' cls d k' l' => qq w' cls d k' (l1.trans l')
    | ok z2 =>
      show PostR _ _ _ _ _ (rng2F z z2) _
      unfold rng2F
      split
      · rename_i i j
        refine fun Q qq => ⟨_, P, q _ fun w1 v k1 l1 r1 => ?_⟩
        have q2 := hb.at1 (t.mono l1 k1) l1
        rw [hg'] at q2
        refine q2 _ fun w2 u k2 l2 r2 => ?_
        have ev : v = .int i := r1.cl_of
        have eu : u = .int j := r2.cl_of
        subst ev eu
        refine ⟨i, j, rfl, qq w2 _ k2 (l1.trans l2) ?_⟩
        show Goes _ _ _ ((rangeD i (j - i).toNat).map .cl)
        rw [← rangeC_one]
        exact goes_rangeC
      · trivial
theorem okI_rng3 (C : CxOk c k ck X) {p2 p3 : Pos} {h : Sl → R XV} (hg : glB ck.sc "range" = true) (hfr : "range" ∈ ck.free) (hs : notStar a = true) (hs2 : notStar b = true) (hs3 : notStar e = true) (ha : OkE X Wx a f) (hb : OkE X Wx b g) (he : OkE X Wx e h) :
    OkI X Wx tg (.Call (.Name "range" p2) [a, b, e] [] p3) (fun sl => (f sl).bind fun x => (g sl).bind fun y => (h sl).bind fun z => rng3F x y z) := by
  intro sl σ A w t
  have P : PI X tg (.Call (.Name "range" p2) [a, b, e] [] p3) (iL3 (tCons (weE X a) (tCons (weE X b) (tCons (weE X e) tNil)))) := pi_any3 (glB_ok (by rw [C.sc]; exact hg)) (C.free _ hfr) (pa_cons pe_we (pa_cons pe_we (pa_cons pe_we pa_nil (star_cons hs3 _ _)) (star_cons hs2 _ _)) (star_cons hs _ _)) (by rw [star_cons hs]) (by rw [star_cons hs2, star_cons hs3]; rfl)
  have q := ha sl σ A w t
  cases hf : f sl with
  | stuck => simp only [hf]; trivial
  | exc ex => rw [hf] at q; simp only [hf]; exact fun Q qq => ⟨_, P, q _ qq⟩
  | ok z =>
    rw [hf] at q
    simp only [hf, R.bind_ok]
    cases hg' : g sl with
    | stuck => trivial
    | exc ex =>
      refine fun Q qq => ⟨_, P, q _ fun w1 v k1 l1 r1 => ?_⟩
      have q2 := hb sl σ A w1 (t.mono l1 k1)
      rw [hg'] at q2
      exact q2 _ fun w' cls d k' l' => qq w' cls d k' (l1.trans l')
    | ok z2 =>
      simp only [R.bind_ok]
      cases hh' : h sl with
      | stuck => trivial
      | exc ex =>
        refine fun Q qq => ⟨_, P, q _ fun w1 v k1 l1 r1 => ?_⟩
        have q2 := hb.at1 (t.mono l1 k1) l1
        rw [hg'] at q2
        refine q2 _ fun w2 u k2 l2 r2 => ?_
        have q3 := he sl σ A w2 (t.mono (l1.trans l2) k2)
        rw [hh'] at q3
        exact q3 _ fun w' cls d k' l' => qq w' cls d k' (l1.trans (l2.trans l'))
      | ok z3 =>
        show PostR _ _ _ _ _ (rng3F z z2 z3) _
        unfold rng3F
        split
        · rename_i i j d
          split
          · rename_i hd
            refine fun Q qq => ⟨_, P, q _ fun w1 v k1 l1 r1 => ?_⟩
            have q2 := hb.at1 (t.mono l1 k1) l1
            rw [hg'] at q2
            refine q2 _ fun w2 u k2 l2 r2 => ?_
            have q3 := he.at1 (t.mono (l1.trans l2) k2) (l1.trans l2)
            rw [hh'] at q3
            refine q3 _ fun w3 y k3 l3 r3 => ?_
            have ev : v = .int i := r1.cl_of
            have eu : u = .int j := r2.cl_of
            have ey : y = .int d := r3.cl_of
            subst ev eu ey
            exact ⟨i, j, d, rfl, hd.1, PyProof.noPylong_of_log2 hd.2, qq w3 _ k3 (l1.trans (l2.trans l3)) goes_rangeC⟩
          · trivial
        · trivial
/-! ### enumerate, zip -/
theorem pairsD_len : ∀ (ds : List Mo.D) (n : Nat), (pairsD n ds).length = ds.length
  | [], _ => rfl
  | _ :: ds, n => by unfold pairsD; simp [pairsD_len ds]
theorem pairsD_get : ∀ (ds : List Mo.D) (n i : Nat) {d : Mo.D}, ds[i]? = some d → (pairsD n ds)[i]? = some (.tup [.int (n + i : Nat), d])
  | [], _, _, _, h => by simp at h
  | e :: ds, n, 0, _, h => by simp at h; subst h; rfl
  | e :: ds, n, i + 1, _, h => by
    unfold pairsD
    rw [List.getElem?_cons_succ, pairsD_get ds (n + 1) i (by simpa using h)]
    congr 4
    omega
theorem fls_R {K : PySem.W.Frag} {w : Wd} {O : Addr → Prop} {x : XV} {v : V} {ds : List Mo.D} (k : WOk w) (r : XRep K O w x v) (h : x.fls = some ds) : ∃ a vs, v = .ref a ∧ RepL K w.F ds vs ∧ ∀ w2, WOk w2 → Ex w.F w2.F → Ex w.G w2.G → SqL K w2.H a vs := by
  unfold XV.fls at h
  split at h
  · cases h
    obtain ⟨a, vs, e1, e2, e3⟩ := r.cl_of
    exact ⟨a, vs, e1, e3, fun w2 k2 e _ => (e.trans k2.fh).sql e2⟩
  · obtain ⟨B, ⟨⟨A', a, vs, B', e1, e2, e3, e4⟩, _⟩, _⟩ := r
    obtain rfl := clM_map h
    refine ⟨a, vs, e1, ?_, fun w2 k2 e g => .inl ((g.trans k2.gh).rd e2)⟩
    refine repL_of (by have := e3.length; rw [List.length_map] at this; exact this) fun i d hi => ?_
    obtain ⟨u, B2, h1, h2, _⟩ := e3.get (i := i) (m := .cl d) (by rw [List.getElem?_map, hi]; rfl)
    exact ⟨u, h1, h2.1⟩
  · cases h
theorem enumF_eq (x : XV) : enumF x = match x.fls with
    | some ds => .ok (.ds (pairsD 0 ds))
    | none => .stuck := by
  unfold enumF XV.fls
  cases x with
  | cl d => cases d <;> rfl
  | lk m => cases m with
    | lst ms => rfl
    | _ => rfl
  | _ => rfl
theorem goes_enum {K : PySem.W.Frag} {w1 : Wd} {a : Addr} {vs : List V} {ds : List Mo.D} (r : RepL K w1.F ds vs) (h : ∀ w2, WOk w2 → Ex w1.F w2.F → Ex w1.G w2.G → SqL K w2.H a vs) : Goes K (Ite K a) w1 ((pairsD 0 ds).map .cl) where
  go := fun w2 k e g i hi => by
    rw [List.length_map, pairsD_len, r.length] at hi
    exact ⟨vs, vs[i], h w2 k e g, by simp⟩
  yld := fun w2 k e g i x H' ⟨T, y, e1, e2, e3, e4⟩ hi => by
    subst e3
    have q := e4 vs (h w2 k e g)
    obtain ⟨d, h1, h2⟩ := r.getV q
    refine ⟨w2.add T (.tup [.int (i : Nat), y]), .cl (.tup [.int (i : Nat), d]), rfl, Wd.add_ok k, Wd.add_le k e2, ?_, ⟨T, _, e1, .inl (.inl upd_same), ⟨_, _, rfl, rfl, ⟨_, _, rfl, ?_, rfl⟩⟩⟩, rfl⟩
    · rw [List.getElem?_map, pairsD_get ds 0 i h1, Nat.zero_add]; rfl
    · exact (h2.mono e).mono (Wd.add_le (o := .tup [.int (i : Nat), y]) k e2).f
  stop := fun w2 k e g => by
    rw [List.length_map, pairsD_len, r.length]
    exact ⟨vs, h w2 k e g, Nat.le_refl _⟩
theorem okI_enum (C : CxOk c k ck X) {p2 p3 p4 : Pos} {xs : List Expr} {n : Nat} (hg : glB ck.sc "enumerate" = true) (hf : "enumerate" ∈ ck.free) (hs : notStar a = true) (ha : OkE X Wx a f) : OkI X Wx (.Tuple xs n p4) (.Call (.Name "enumerate" p2) [a] [] p3) (fun sl => (f sl).bind enumF) := by
  intro sl σ A w t
  have P : PI X (.Tuple xs n p4) (.Call (.Name "enumerate" p2) [a] [] p3) (iEnum X.K (tCons (weE X a) tNil)) := pi_enum (glB_ok (by rw [C.sc]; exact hg)) (C.free _ hf) (pa_cons pe_we pa_nil (star_cons hs _ _)) (by rw [star_cons hs]; rfl)
  have q := ha sl σ A w t
  cases hfs : f sl with
  | stuck => simp only [hfs]; trivial
  | exc ex => rw [hfs] at q; simp only [hfs]; exact fun Q qq => ⟨_, P, q _ qq⟩
  | ok z =>
    rw [hfs] at q
    simp only [hfs, R.bind_ok]
    rw [enumF_eq]
    cases hl : z.fls with
    | none => trivial
    | some ds =>
      refine fun Q qq => ⟨_, P, q _ fun w1 v k1 l1 r1 => ?_⟩
      obtain ⟨a', vs, rfl, e3, e4⟩ := fls_R k1 r1 hl
      exact ⟨a', vs, rfl, e4 w1 k1 (.refl _) (.refl _), qq w1 _ k1 l1 (goes_enum e3 e4)⟩
theorem zipD_len : ∀ (ds es : List Mo.D), ds.length = es.length → (zipD ds es).length = ds.length
  | [], [], _ => rfl
  | _ :: ds, _ :: es, h => by unfold zipD; simp [zipD_len ds es (by simpa using h)]
  | [], _ :: _, h => by simp at h
  | _ :: _, [], h => by simp at h
theorem zipD_get : ∀ (ds es : List Mo.D) (i : Nat) {d e : Mo.D}, ds[i]? = some d → es[i]? = some e → (zipD ds es)[i]? = some (.tup [d, e])
  | [], _, _, _, _, h, _ => by simp at h
  | _ :: _, [], _, _, _, _, h => by simp at h
  | d0 :: ds, e0 :: es, 0, _, _, h, h' => by simp at h h'; subst h h'; rfl
  | d0 :: ds, e0 :: es, i + 1, _, _, h, h' => by
    unfold zipD
    rw [List.getElem?_cons_succ, zipD_get ds es i (by simpa using h) (by simpa using h')]
theorem goes_zip {K : PySem.W.Frag} {w1 : Wd} {a b : Addr} {vs us : List V} {ds es : List Mo.D} (hl : ds.length = es.length) (r : RepL K w1.F ds vs) (r' : RepL K w1.F es us) (h : ∀ w2, WOk w2 → Ex w1.F w2.F → Ex w1.G w2.G → SqL K w2.H a vs ∧ SqL K w2.H b us) : Goes K (Itz K a b) w1 ((zipD ds es).map .cl) where
  go := fun w2 k e g i hi => by
    rw [List.length_map, zipD_len _ _ hl] at hi
    obtain ⟨h1, h2⟩ := h w2 k e g
    have i1 : i < vs.length := by rw [← r.length]; exact hi
    have i2 : i < us.length := by rw [← r'.length, ← hl]; exact hi
    exact ⟨vs, us, vs[i], us[i], h1, h2, by simp, by simp⟩
  yld := fun w2 k e g i x H' ⟨T, y, z, e1, e2, e3, e4, e5⟩ hi => by
    subst e3
    obtain ⟨h1, h2⟩ := h w2 k e g
    obtain ⟨d, p1, p2⟩ := r.getV (e4 vs h1)
    obtain ⟨d', q1, q2⟩ := r'.getV (e5 us h2)
    have m := (Wd.add_le (o := .tup [y, z]) k e2).f
    refine ⟨w2.add T (.tup [y, z]), .cl (.tup [d, d']), rfl, Wd.add_ok k, Wd.add_le k e2, ?_, ⟨T, _, e1, .inl (.inl upd_same), ⟨_, _, rfl, (p2.mono e).mono m, ⟨_, _, rfl, (q2.mono e).mono m, rfl⟩⟩⟩, rfl⟩
    rw [List.getElem?_map, zipD_get ds es i p1 q1]; rfl
  stop := fun w2 k e g => by
    rw [List.length_map, zipD_len _ _ hl]
    obtain ⟨h1, h2⟩ := h w2 k e g
    exact ⟨vs, us, h1, h2, .inl (by rw [r.length]; exact Nat.le_refl _)⟩
theorem okI_zip (C : CxOk c k ck X) {p2 p3 p4 : Pos} {xs : List Expr} {n : Nat} (hg : glB ck.sc "zip" = true) (hf : "zip" ∈ ck.free) (hs : notStar a = true) (hs2 : notStar b = true) (ha : OkE X Wx a f) (hb : OkE X Wx b g) :
    OkI X Wx (.Tuple xs n p4) (.Call (.Name "zip" p2) [a, b] [] p3) (fun sl => (f sl).bind fun x => (g sl).bind fun y => zipF x y) := by
  intro sl σ A w t
  have P : PI X (.Tuple xs n p4) (.Call (.Name "zip" p2) [a, b] [] p3) (iZip X.K (tCons (weE X a) (tCons (weE X b) tNil))) := pi_zip (glB_ok (by rw [C.sc]; exact hg)) (C.free _ hf) (pa_cons pe_we (pa_cons pe_we pa_nil (star_cons hs2 _ _)) (star_cons hs _ _)) (by rw [star_cons hs]) (by rw [star_cons hs2]; rfl)
  have q := ha sl σ A w t
  cases hfs : f sl with
  | stuck => simp only [hfs]; trivial
  | exc ex => rw [hfs] at q; simp only [hfs]; exact fun Q qq => ⟨_, P, q _ qq⟩
  | ok z =>
    rw [hfs] at q
    simp only [hfs, R.bind_ok]
    cases hg' : g sl with
    | stuck => trivial
    | exc ex =>
      refine fun Q qq => ⟨_, P, q _ fun w1 v k1 l1 r1 => ?_⟩
      have q2 := hb sl σ A w1 (t.mono l1 k1)
      rw [hg'] at q2
      exact q2 _ fun w' cls d k' l' => qq w' cls d k' (l1.trans l')
    | ok z2 =>
      show PostR _ _ _ _ _ (zipF z z2) _
      unfold zipF
      split
      · rename_i ds es hd he
        split
        · rename_i hl
          refine fun Q qq => ⟨_, P, q _ fun w1 v k1 l1 r1 => ?_⟩
          have q2 := hb.at1 (t.mono l1 k1) l1
          rw [hg'] at q2
          refine q2 _ fun w2 u k2 l2 r2 => ?_
          obtain ⟨a', vs, rfl, e3, e4⟩ := fls_R k2 (r1.mono l2) hd
          obtain ⟨b', us, rfl, e5, e6⟩ := fls_R k2 r2 he
          exact ⟨a', b', vs, us, rfl, e4 w2 k2 (.refl _) (.refl _), e6 w2 k2 (.refl _) (.refl _), qq w2 _ k2 (l1.trans l2) (goes_zip hl e3 e5 fun w3 k3 e g => ⟨e4 w3 k3 e g, e6 w3 k3 e g⟩)⟩
        · trivial
      · trivial
/-! ### isinstance of built-in types -/
theorem kit_tab : (["NoneType", "bool", "int", "str", "tuple", "list", "dict"].all fun a => [Ty.int, .bool, .str, .tuple, .list, .dict].all fun t => decide (kitB a t.nm = some (isTy a t))) = true := by decide +kernel
theorem kit_of_ty {a : String} (h : a ∈ ["NoneType", "bool", "int", "str", "tuple", "list", "dict"]) (t : Ty) : kitB a t.nm = some (isTy a t) := by
  have q := List.all_eq_true.mp (List.all_eq_true.mp kit_tab a h) t (by cases t <;> simp)
  exact of_decide_eq_true q
theorem ty_mem {d : D} {a : String} (h : d.ty = some a) : a ∈ ["NoneType", "bool", "int", "str", "tuple", "list", "dict"] := by
  cases d <;> cases h <;> simp
theorem rep_ty {K : PySem.W.Frag} {H : Hp} {d : D} {v : V} {a : String} (r : Rep K H d v) (h : d.ty = some a) : TyX K H v (.type a) := by
  cases d with
  | non => cases h; rw [show v = V.non from r]; exact .base .non
  | bl b => cases h; rw [show v = V.bl b from r]; exact .base (.bl b)
  | int i => cases h; rw [show v = V.int i from r]; exact .base (.int i)
  | str s => cases h; rw [show v = V.str s from r]; exact .base (.str s)
  | tup ds =>
    cases h
    obtain ⟨p, vs, rfl, e2, _⟩ := r
    rcases e2 with (e | ⟨o, e⟩) | ⟨o, _, _, e, cc, _⟩
    · exact .base (.tup e)
    · exact .fTuple e
    · exact .kTuple e cc
  | lst ds =>
    cases h
    obtain ⟨p, vs, rfl, e2, _⟩ := r
    rcases e2 with (e | ⟨o, e⟩) | ⟨o, _, _, e, cc, _⟩
    · exact .base (.lst e)
    · exact .base (.frz e)
    · exact .kList e cc
  | dct ks ds =>
    cases h
    obtain ⟨p, vs, rfl, ⟨kvs, e2, _⟩, _⟩ := r
    rcases e2 with e | ⟨o, e⟩
    · exact .base (.dK e)
    · exact .fDict e
  | ins _ _ _ => cases h
  | exn _ => cases h
theorem ty_boot (t : Ty) : bootBuiltins (Str.ofString t.nm) = some (.type t.nm) := by
  cases t
  · exact boot_int
  · exact boot_bool
  · exact boot_str
  · exact boot_tuple
  · exact boot_list
  · exact boot_dict
theorem ok_isi (C : CxOk c k ck X) {t : Ty} {y : Str} {p2 p3 : Pos} (hg : glB ck.sc "isinstance" = true) (hf : "isinstance" ∈ ck.free) (hy : Str.ofString t.nm = y) (hgy : glB ck.sc y = true) (hny : nameOk y = true) (hfy : t.nm ∈ ck.free) (hs : notStar a = true) (ha : OkE X Wx a f) :
    OkE X Wx (.Call (.Name "isinstance" p2) [a, .Name y p3] [] pos) (fun sl => (f sl).bind (isiF t)) := by
  subst hy
  have T : PE X (.Name (Str.ofString t.nm) p3) (tC (.ty t.nm)) := pe_bltn (glB_ok (by rw [C.sc]; exact hgy)) (C.free _ hfy) (ty_boot t) rfl (nameOk_d hny).2.2 (nameOk_d hny).1
  have P := pe_callB (X := X) (p := p2) (pos := pos) call_isi (glB_ok (by rw [C.sc]; exact hg)) (C.free _ hf) boot_isinstance (pa_cons (pe_we (X := X) (e := a)) (pa_cons T pa_nil) (star_cons hs _ _)) (he := star_cons hs _ _)
  exact ok_op1 ha fun x => ⟨_, fun σ H Q q => ⟨_, P, q⟩, fun w0 w σ v k l rx => by
    unfold isiF
    cases hd : x.d with
    | none => trivial
    | some d =>
      simp only
      cases ht : d.ty with
      | none => trivial
      | some s =>
        simp only
        exact PostR.val (u := .bl (isTy s t)) k rfl fun Q qq => ⟨v, .ty t.nm, .type s, .type t.nm, isTy s t, rfl, .ty _, rep_ty (rx.dat k hd) ht, kit_ty (kit_of_ty (ty_mem ht) t), qq⟩⟩
/-! ### comprehensions -/
theorem wipe_len (σ : L2.St) (vs : List Nat) : (wipe σ vs).length = σ.length := wipe_length σ vs
theorem wipe_get {σ : L2.St} : ∀ {vs : List Nat} {i : Nat}, (wipe σ vs)[i]? = if i ∈ vs then (if i < σ.length then some none else none) else σ[i]?
  | [], i => by simp [wipe]
  | v :: vs, i => by
    have ih := wipe_get (σ := σ) (vs := vs) (i := i)
    show ((wipe σ vs).set v none)[i]? = _
    by_cases e : v = i
    · subst e
      rw [List.getElem?_set]
      simp [wipe_len]
    · rw [List.getElem?_set_ne e, ih]
      by_cases h : i ∈ vs
      · simp [h]
      · simp [h, Ne.symm e]
theorem wipe_off {vs : List Nat} {σ σ' : L2.St} (h : Off vs σ σ') : wipe σ' vs = wipe σ vs := by
  apply List.ext_getElem?
  intro i
  rw [wipe_get, wipe_get, h.len]
  by_cases hi : i ∈ vs
  · simp [hi]
  · simp [hi, h.eq i hi]
theorem wipe_wipe {vs : List Nat} {σ : L2.St} : wipe (wipe σ vs) vs = wipe σ vs := wipe_off ⟨wipe_len _ _, fun i hi => by rw [wipe_get, if_neg hi]⟩
theorem At.wipe {K : PySem.W.Frag} {sl : Sl} {σ : L2.St} {A : List Addr} {w : Wd} (t : At K sl σ A w) : ∀ vs : List Nat, ∃ A', At K (wipeS sl vs) (L2.wipe σ vs) A' w ∧ ∀ a ∈ A', a ∈ A
  | [] => ⟨A, t, fun _ h => h⟩
  | v :: vs => by
    obtain ⟨A1, t1, s1⟩ := At.wipe t vs
    obtain ⟨A2, t2, s2⟩ := t1.set (s := .no) (o := none) (C := []) rfl own_nil (fun a h => absurd h (by simp)) v
    exact ⟨A2, t2, fun a ha => s1 a ((s2 a ha).elim id fun z => absurd z (by simp))⟩
/-- a block's contexts -/
abbrev blkX (X : Cx) (scope : Scope) (s : Shared) (H : Hp) (C : Addr) (cl : List (Str × Addr)) (fp : List Addr) : Cx := X.blk s H scope (compEnvC scope cl C X.env) fp
theorem blk_ok (C : CxOk c k ck X) (scope : Scope) (s : Shared) (H : Hp) (Cc : Addr) (cl : List (Str × Addr)) (fp : List Addr) : CxOk c k (ck.blk scope) (blkX X scope s H Cc cl fp) :=
  ⟨⟨C.N, C.nd, by show relS scope X.env.scope = relS scope ck.sc; rw [C.sc], C.fn, C.free, C.gi, C.gs, C.exc, C.xp, C.cls, C.nat, C.mth, C.mks, C.ixf⟩, C.calm, C.room⟩
theorem lclB_ok {X : Cx} {x : Str} (h : lclB X.env.scope x = true) : X.env.scope.names.lookup x = some .local := by
  unfold lclB at h
  split at h
  · assumption
  · cases h
theorem blk_tg (C : CxOk c k ck X) (scope : Scope) (s : Shared) (H : Hp) (Cc : Addr) (cl : List (Str × Addr)) (fp : List Addr) : TgOk ck.N (lclB (ck.blk scope).sc) (blkX X scope s H Cc cl fp) :=
  ⟨C.N, C.nd, C.calm, fun x hx => by
    have e : (blkX X scope s H Cc cl fp).env.scope = (ck.blk scope).sc := (blk_ok C scope s H Cc cl fp).sc
    rw [← e] at hx
    exact ⟨.inl (lclB_ok hx), .inr (lclB_ok hx)⟩⟩
abbrev noW : WX := fun _ _ _ _ => False
theorem own_ix {N : List Str} {t : Tg} : (ownOf N t).map (·.2) = t.slots := by
  unfold ownOf
  rw [List.map_map]
  exact List.map_id' _
theorem nox_ok {α : Type} {r : R α} {x : α} (h : nox r = .ok x) : r = .ok x := by
  cases r <;> first | exact h | cases h
theorem nox_exc {α : Type} {r : R α} {e : Exn} : nox r ≠ .exc e := by
  cases r <;> simp [nox]
theorem compX_exc {gg : XV → Sl → Option Sl} {cnd : Sl → R Bool} {el : Sl → R XV} {sl : Sl} {e : Exn} : ∀ {ds : List XV}, compX gg cnd el sl ds ≠ .exc e
  | [] => by simp [compX]
  | d :: ds => by
    unfold compX
    cases gg d sl with
    | none => simp
    | some s1 =>
      simp only
      cases hc : nox (cnd s1) with
      | stuck => simp
      | exc e => exact absurd hc nox_exc
      | ok q =>
        cases q with
        | false => simp only [R.bind_ok]; exact compX_exc
        | true =>
          simp only [R.bind_ok, if_true]
          cases he : nox (el s1) with
          | stuck => simp
          | exc e => exact absurd he nox_exc
          | ok x =>
            cases hi : x.item with
            | none => simp [hi]
            | some m =>
              simp only [R.bind_ok, hi, R.of_some]
              cases hr : compX gg cnd el sl ds with
              | stuck => simp
              | exc e => exact absurd hr compX_exc
              | ok r => simp
theorem compL_X (t : Tg) {cnd : Sl → R Bool} {el : Sl → R XV} {sl : Sl} : ∀ ds : List D, compL (tgo t) cnd el sl ds = compX (tgx t) cnd el sl (ds.map .cl)
  | [] => by unfold compL; rfl
  | d :: ds => by
    rw [List.map_cons]
    unfold compL compX
    rw [tgo_tgx t d sl, compL_X t ds]
/-- the block's parts, at once for every start -/
def WeEB (X : Cx) (scope : Scope) (e : Expr) : TE := fun σ H Q => ∀ s H0 C cl fp, weE (blkX X scope s H0 C cl fp) e σ H Q
def WeGB (X : Cx) (scope : Scope) (tg : Expr) : TG := fun v σ H Q => ∀ s H0 C cl fp, weG (blkX X scope s H0 C cl fp) tg v σ H Q
def weTs (X : Cx) (ifs : List Expr) : TT := fun σ H Q => ∃ t, PTs X ifs t ∧ t σ H Q
theorem pts_we {X : Cx} {ifs : List Expr} : PTs X ifs (weTs X ifs) := ⟨fun pins s σ H Q I ⟨t, h, q⟩ => h.run pins s σ H Q I q⟩
def WeTB (X : Cx) (scope : Scope) (ifs : List Expr) : TT := fun σ H Q => ∀ s H0 C cl fp, weTs (blkX X scope s H0 C cl fp) ifs σ H Q
/-- one turn's state of a list that grows: what has been taken off -/
theorem comp_go (C : CxOk c k ck X) {scope : Scope} {tt : Tg} {tg elt : Expr} {ifs : List Expr} {ff : Sl → R XV} {cc : Sl → R Bool} (ht : chkT ck.N (lclB (ck.blk scope).sc) tt tg = true)
    (he : ∀ s H C cl fp, OkE (blkX X scope s H C cl fp) noW elt ff)
    (hc : ∀ s H C cl fp sl σ A w, At X.K sl σ A w → PostR X.K noW (fun _ x b => x = b) σ w (cc sl) (weTs (blkX X scope s H C cl fp) ifs σ w.H))
    {sl : Sl} {σ : L2.St} {A : List Addr} {w0 w : Wd} (t0 : At X.K sl σ A w0) {J : L2.It} {ds : List XV} (hl : ds.length < sizeLine) (l0 : WLe w0 w) (k0 : WOk w) (G : Goes X.K J w ds) {ms : List MO} (hm : compX (tgx tt) cc ff (wipeS sl tt.slots) ds = .ok ms) {Dd : Addr} (hD : w.H Dd = none)
    {Q : VK} (q : ∀ w' v, WOk w' → WLe w0 w' → XRep X.K (old w0) w' (.nw (.lst ms)) v → Q v w'.H) :
    ∃ W : Nat → Nat → Hp → Prop, (∃ m, W 0 m (upd w.H Dd (.lst []))) ∧ ∀ i m H, W i m H →
      (J.stop i H ∧ Q (.ref Dd) H) ∨ (J.go i H ∧ ∃ Nx : Hp → Prop, (∀ H', Nx H' → ∃ m', m' < m ∧ W (i + 1) m' H') ∧ ∀ x H', J.yld i H x H' → WeGB X scope tg x (wipe σ tt.slots) H' fun σ2 H2 => wipe σ2 tt.slots = wipe σ tt.slots ∧ WeTB X scope ifs σ2 H2 fun b H3 =>
        if b = true then WeEB X scope elt σ2 H3 fun y H4 => ∃ acc, H4 Dd = some (.lst acc) ∧ acc.length < sizeLine ∧ Nx (upd H4 Dd (.lst (acc ++ [y]))) else Nx H3) := by
  -- the word: i items are taken; the new list holds what they gave
  let W : Nat → Nat → Hp → Prop := fun i m H => m = ds.length - i ∧ i ≤ ds.length ∧ ∃ (w2 : Wd) (acc : List V) (Bc : List Addr) (m1 m2 : List MO), H = w2.H ∧ WOk w2 ∧ WLe w0 w2 ∧ (Ex w.F w2.F ∧ Ex w.G w2.G) ∧ w2.H Dd = some (.lst acc) ∧ w2.G Dd = none ∧
    ORepL X.K w2.F w2.H m1 acc Bc ∧ Own w2 Bc ∧ (∀ a ∈ Bc, ¬ old w0 a ∧ a ≠ Dd) ∧ acc.length ≤ i ∧ ms = m1 ++ m2 ∧ compX (tgx tt) cc ff (wipeS sl tt.slots) (ds.drop i) = .ok m2
  have h0D : w0.H Dd = none := l0.h.free hD
  refine ⟨W, ⟨ds.length, rfl, Nat.zero_le _, w.own Dd (.lst []), [], [], [], ms, rfl, Wd.own_ok k0 hD, l0.trans (Wd.own_le hD), ⟨Ex.refl _, Ex.refl _⟩, upd_same, k0.gh.free hD, ⟨rfl, rfl⟩, own_nil, fun a h => absurd h (by simp), Nat.le_refl _, rfl, hm⟩, ?_⟩
  rintro i m H ⟨rfl, hi, w2, acc, Bc, m1, m2, rfl, k2, l2, ⟨eF, eG⟩, hd, gd, ro, ow, no, hacc, rfl, hcl⟩
  have frzD : ∀ o u, w2.H Dd ≠ some (.frz o u) := fun o u z => by rw [hd] at z; cases z
  rcases Nat.lt_or_ge i ds.length with hlt | hge
  · refine .inr ⟨G.go w2 k2 eF eG i hlt, fun H' => ∃ m', m' < ds.length - i ∧ W (i + 1) m' H', fun H' z => z, fun x H' hy => ?_⟩
    obtain ⟨w3, d, rfl, k3, l3, hd3, r3⟩ := G.yld w2 k2 eF eG i x H' hy hlt
    have hdrop : ds.drop i = d :: ds.drop (i + 1) := by
      rw [List.drop_eq_getElem_cons hlt]
      rw [List.getElem?_eq_getElem hlt] at hd3
      cases hd3; rfl
    rw [hdrop] at hcl
    unfold compX at hcl
    obtain ⟨Aw, tw, sw⟩ := (t0.mono (l2.trans l3) k3).wipe tt.slots
    cases hg : tgx tt d (wipeS sl tt.slots) with
    | none => rw [hg] at hcl; cases hcl
    | some s1 =>
      rw [hg] at hcl
      simp only at hcl
      intro s' H0 C' cl fp
      refine ok_tg (blk_tg C scope s' H0 C' cl fp) ht tw r3 own_nil (fun a h => absurd h (by simp)) hg _ fun σ' A' t4 s4 off => ⟨(wipe_off off).trans wipe_wipe, ?_⟩
      cases hq : cc s1 with
      | stuck => rw [hq] at hcl; cases hcl
      | exc ex => rw [hq] at hcl; cases hcl
      | ok qb =>
        rw [hq] at hcl
        simp only [nox, R.bind_ok] at hcl
        intro s2' H02 C2' cl2 fp2
        have pc := hc s2' H02 C2' cl2 fp2 s1 σ' A' w3 t4
        rw [hq] at pc
        refine pc _ fun w5 b k5 l5 eb => ?_
        subst eb
        have l05 := (l2.trans l3).trans l5
        have keepD : ∀ {w' : Wd}, WLe w2 w' → w'.H Dd = some (.lst acc) ∧ w'.G Dd = none := fun l => ⟨l.h _ _ hd, l.gg Dd (by rw [hd]; simp) gd⟩
        cases qb with
        | false =>
          simp only [Bool.false_eq_true, if_false] at hcl
          have kd := keepD (l3.trans l5)
          exact iteF ⟨_, by omega, rfl, hlt, w5, acc, Bc, m1, m2, rfl, k5, l05, ⟨eF.trans ((l3.trans l5).f), eG.trans ((l3.trans l5).g)⟩, kd.1, kd.2, ro.mono (l3.trans l5).f (fun a _ o z => (l3.trans l5).h a o z), ow.mono (l3.trans l5) ro.there, no, by omega, rfl, hcl⟩
        | true =>
          simp only [if_true] at hcl
          cases hel : ff s1 with
          | stuck => rw [hel] at hcl; cases hcl
          | exc ex => rw [hel] at hcl; cases hcl
          | ok z =>
            rw [hel] at hcl
            simp only [nox, R.bind_ok] at hcl
            cases hit : z.item with
            | none => rw [hit] at hcl; cases hcl
            | some mi =>
              rw [hit] at hcl
              simp only [R.of_some, R.bind_ok] at hcl
              cases hrest : compX (tgx tt) cc ff (wipeS sl tt.slots) (ds.drop (i + 1)) with
              | stuck => rw [hrest] at hcl; cases hcl
              | exc ex => rw [hrest] at hcl; cases hcl
              | ok m3 =>
                rw [hrest] at hcl
                simp only [R.bind_ok] at hcl
                cases hcl
                refine iteT ?_
                intro s3' H03 C3' cl3 fp3
                have pe := (he s3' H03 C3' cl3 fp3) s1 σ' A' w5 (t4.mono l5 k5)
                rw [hel] at pe
                refine pe _ fun w6 y k6 l6 r6 => ?_
                have l26 := (l3.trans l5).trans l6
                have kd := keepD l26
                refine ⟨acc, kd.1, by omega, _, by omega, rfl, hlt, ?_⟩
                obtain ⟨B6, x1, x2, x3⟩ := r6
                have ro6 : ORep X.K w6.F w6.H mi y B6 := by
                  cases z with
                  | cl d' => cases hit; exact x1
                  | nw m' => cases hit; exact x1
                  | lk m' => cases hit
                  | tm m' => cases hit
                  | al => cases hit
                  | mu _ _ => cases hit
                have no6 : ∀ a ∈ B6, ¬ old w0 a ∧ a ≠ Dd := fun a ha => ⟨fun o => x3 a ha (old_le l05 a o), fun e => x3 a ha (by subst e; exact ex_some (l3.trans l5).h (by rw [hd]; simp))⟩
                have nD : ∀ {w' : Wd} {ms : List MO} {vs : List V} {B : List Addr}, (∀ a ∈ B, a ≠ Dd) → ORepL X.K w'.F w'.H ms vs B → ORepL X.K w'.F (upd w'.H Dd (.lst (acc ++ [y]))) ms vs B := fun hB r => r.mono (Ex.refl _) fun a ha o q => by
                  rw [upd_ne (hB a ha)]; exact q
                have roA : ORepL X.K w6.F w6.H (m1 ++ [mi]) (acc ++ [y]) (Bc ++ B6) := by
                  refine (ro.mono l26.f (fun a _ o z => l26.h a o z)).append ?_
                  exact ⟨y, [], B6, [], rfl, ro6, ⟨rfl, rfl⟩, by simp⟩
                have owA : ∀ a ∈ Bc ++ B6, w6.G a = none ∧ ∀ o u, w6.H a ≠ some (.frz o u) := fun a ha => by
                  rcases List.mem_append.mp ha with z | z
                  · exact (ow.mono l26 ro.there).no a z
                  · exact x2.no a z
                have noA : ∀ a ∈ Bc ++ B6, ¬ old w0 a ∧ a ≠ Dd := fun a ha => by
                  rcases List.mem_append.mp ha with z | z
                  · exact no a z
                  · exact no6 a z
                have k7 : WOk ⟨w6.F, w6.G, upd w6.H Dd (.lst (acc ++ [y])), w6.bs⟩ := ⟨k6.fg, k6.gh.mut kd.2⟩
                have l7 : WLe w0 ⟨w6.F, w6.G, upd w6.H Dd (.lst (acc ++ [y])), w6.bs⟩ := ⟨(l05.trans l6).f, (l05.trans l6).g, fun a o q => by
                  show upd w6.H Dd _ a = some o
                  rw [upd_ne (by rintro rfl; rw [h0D] at q; cases q)]
                  exact (l05.trans l6).h a o q, (l05.trans l6).ff, (l05.trans l6).gg, (l05.trans l6).bs⟩
                refine ⟨⟨w6.F, w6.G, upd w6.H Dd (.lst (acc ++ [y])), w6.bs⟩, acc ++ [y], Bc ++ B6, m1 ++ [mi], m3, rfl, k7, l7, ⟨eF.trans l26.f, eG.trans l26.g⟩, upd_same, kd.2, nD (fun a ha => (noA a ha).2) roA, ⟨?_, fun a ha => ⟨(owA a ha).1, fun o u q => ?_⟩⟩, noA, by rw [List.length_append]; simp; omega, by rw [List.append_assoc]; rfl, hrest⟩
                · rw [List.nodup_append]
                  exact ⟨ow.nd, x2.nd, fun a h1 b h2 e => by
                    subst e
                    exact x3 a h2 (ex_some (l3.trans l5).h (ro.there a h1))⟩
                · have q' : upd w6.H Dd (.lst (acc ++ [y])) a = some (.frz o u) := q
                  rw [upd_ne (noA a ha).2] at q'
                  exact (owA a ha).2 o u q'
  · have e : i = ds.length := Nat.le_antisymm hi hge
    subst e
    refine .inl ⟨G.stop w2 k2 eF eG, ?_⟩
    rw [List.drop_length] at hcl
    unfold compX at hcl
    cases hcl
    rw [List.append_nil] at q
    refine q w2 (.ref Dd) k2 l2 ⟨Dd :: Bc, ⟨Dd, acc, Bc, rfl, .inl hd, ro, rfl⟩, ⟨List.nodup_cons.mpr ⟨fun z => (no Dd z).2 rfl, ow.nd⟩, fun a ha => ?_⟩, fun a ha => ?_⟩
    · rcases List.mem_cons.mp ha with z | z
      · subst z; exact ⟨gd, frzD⟩
      · exact ow.no a z
    · rcases List.mem_cons.mp ha with z | z
      · subst z; exact fun o => o h0D
      · exact (no a z).1
theorem PostR.impT {α β : Type} {K : PySem.W.Frag} {Wx : WX} {rep : Wd → α → β → Prop} {σ : L2.St} {w : Wd} {r : R α} {T T' : (β → Hp → Prop) → Prop} (h : PostR K Wx rep σ w r T) (hT : ∀ Q, T Q → T' Q) : PostR K Wx rep σ w r T' := by
  cases r with
  | stuck => trivial
  | ok x => exact fun Q q => hT Q (h Q q)
  | exc e => exact fun Q q => hT Q (h Q q)
theorem ok_compT (C : CxOk c k ck X) {scope : Scope} {tt : Tg} {tg it elt : Expr} {ifs : List Expr} {ff : Sl → R XV} {cc : Sl → R Bool} {r : Sl → R Its} (ht : chkT ck.N (lclB (ck.blk scope).sc) tt tg = true)
    (hi : OkI X Wx tg it r) (he : ∀ s H C cl fp, OkE (blkX X scope s H C cl fp) noW elt ff)
    (hc : ∀ s H C cl fp sl σ A w, At X.K sl σ A w → PostR X.K noW (fun _ x b => x = b) σ w (cc sl) (weTs (blkX X scope s H C cl fp) ifs σ w.H)) :
    ∀ sl σ A w, At X.K sl σ A w → PostR X.K Wx (fun w' x v => XRep X.K (old w) w' x v) σ w ((r sl).bind (compI tt cc ff (wipeS sl tt.slots))) (tLc (weI X tg it) (WeGB X scope tg) (WeTB X scope ifs) (WeEB X scope elt) tt.slots σ w.H) := by
  intro sl σ A w t
  have q := hi sl σ A w t
  cases hr : r sl with
  | stuck => trivial
  | exc ex => rw [hr] at q; exact fun Q qq => q _ qq
  | ok its =>
    rw [hr] at q
    simp only [R.bind_ok]
    have hI : compI tt cc ff (wipeS sl tt.slots) its = if its.l.length < sizeLine then (compX (tgx tt) cc ff (wipeS sl tt.slots) its.l).bind fun ms => R.ok (XV.nw (.lst ms)) else .stuck := by
      cases its with
      | ds ds =>
        show (if ds.length < sizeLine then (compL (tgo tt) cc ff (wipeS sl tt.slots) ds).bind fun ms => R.ok (XV.nw (.lst ms)) else .stuck) = _
        rw [compL_X]
        show _ = if (ds.map XV.cl).length < sizeLine then _ else _
        rw [List.length_map]
        rfl
      | xs xs => rfl
    rw [hI]
    split
    · rename_i hl
      cases hm : compX (tgx tt) cc ff (wipeS sl tt.slots) its.l with
      | stuck => trivial
      | exc ex => exact absurd hm compX_exc
      | ok ms =>
        exact fun Q qq => q _ fun w1 J k1 l1 G Dd hD => comp_go C ht he hc t hl l1 k1 G hm hD qq
    · trivial
theorem ok_comp (C : CxOk c k ck X) {scope : Scope} {tt : Tg} {tg it elt : Expr} {ifs : List Expr} {ff : Sl → R XV} {cc : Sl → R Bool} {r : Sl → R Its} (hs : notSet it = true) (ht : chkT ck.N (lclB (ck.blk scope).sc) tt tg = true) (hbk : blkC ck.N ck.sc scope (ownOf ck.N tt) = true)
    (hi : OkI X Wx tg it r) (he : ∀ s H C cl fp, OkE (blkX X scope s H C cl fp) noW elt ff)
    (hc : ∀ s H C cl fp sl σ A w, At X.K sl σ A w → PostR X.K noW (fun _ x b => x = b) σ w (cc sl) (weTs (blkX X scope s H C cl fp) ifs σ w.H)) :
    OkE X Wx (.ListComp elt [⟨tg, it, ifs, 0⟩] scope pos) (fun sl => (r sl).bind (compI tt cc ff (wipeS sl tt.slots))) := by
  have P : PE X (.ListComp elt [⟨tg, it, ifs, 0⟩] scope pos) (tLc (weI X tg it) (WeGB X scope tg) (WeTB X scope ifs) (WeEB X scope elt) ((ownOf ck.N tt).map (·.2))) :=
    pe_lc C.calm C.nd pi_we (blkOk_by (by rw [C.N, C.sc]; exact hbk)) (fun s H Cc cl fp => ⟨fun pins s' σ H' v u Q I rr h => (pg_we (X := blkX X scope s H Cc cl fp)).run pins s' σ H' v u Q I rr (h s H Cc cl fp)⟩)
      (fun s H Cc cl fp => ⟨fun pins s' σ H' Q I h => (pts_we (X := blkX X scope s H Cc cl fp)).run pins s' σ H' Q I (h s H Cc cl fp)⟩)
      (fun s H Cc cl fp => ⟨fun pins s' σ H' Q I h => (pe_we (X := blkX X scope s H Cc cl fp)).run pins s' σ H' Q I (h s H Cc cl fp)⟩)
      (fun x => by cases it <;> first | rfl | (cases hs; done))
  rw [own_ix] at P
  intro sl σ A w t
  exact (ok_compT C ht hi he hc sl σ A w t).impT fun Q q => ⟨_, P, q⟩
end
end Mo
namespace Mo
open PySem PySem.Spec PyProof.Rows L2
/-! ### isinstance of an error that is kept -/
def rIsX (K : PySem.W.Frag) : List V → Hp → VK → Prop := fun xs H Q => ∃ (a C : Addr) (c : V) (u : Value) (b : Bool), xs = [.ref a, c] ∧ H a = some (ExH (.ref C) a) ∧ ExcC K C ∧ ClsV c u ∧ PySem.W.kitOne K (.ref C) u = some b ∧ Q (.bl b) H
def rIsXT (K : PySem.W.Frag) : List V → Hp → VK → Prop := fun xs H Q => ∃ (a C tp : Addr) (cs : List V) (us : List Value) (b : Bool), xs = [.ref a, .ref tp] ∧ H a = some (ExH (.ref C) a) ∧ H tp = some (.tup cs) ∧ ExcC K C ∧ Paired ClsV cs us ∧ PySem.W.kitAny K (.ref C) us = some b ∧ Q (.bl b) H
theorem inst_at {X : Cx} {pins : List (Addr × Obj)} {σ : L2.St} {H : Hp} {s : Shared} {a C : Addr} (I : Inv X pins σ H s) (h : H a = some (ExH (.ref C) a)) : ∃ oe, PySem.W.InstAt s.heap a oe C none := by
  obtain ⟨⟨oe, vs, g, z, dd⟩, _⟩ := (show ObjOk X.prog X.w H s.heap a (ExH (.ref C) a) from I.hok a _ h)
  obtain ⟨oc, od, oda, osl⟩ := oe
  obtain ⟨h1, h2⟩ := z
  dsimp only at h1 h2 dd
  subst h1 h2 dd
  exact ⟨_, g, rfl, rfl, trivial⟩
section
variable {X : Cx}
theorem call_isX : CallR X (.builtin "isinstance") (rIsX X.K) := by
  intro pins s σ H xs us Q I r h
  obtain ⟨a, C, c, u, b, rfl, ha, E, k, e, q⟩ := h
  obtain ⟨u1, u2, rfl, r1, r2⟩ := vals2 r
  cases (show u1 = Value.ref a from r1)
  have e2 := k.eq r2
  subst e2
  obtain ⟨oe, J⟩ := inst_at I ha
  exact PySem.W.kia_one (PySem.W.handS_kitx_exc E.hg E.hk E.hs E.hd E.ha E.hn E.ht E.hm) I.kIn J e (fun z => nomatch z) fun tk => ⟨.bl b, H, I.tok tk, rfl, q⟩
theorem call_isXT : CallR X (.builtin "isinstance") (rIsXT X.K) := by
  intro pins s σ H xs us Q I r h
  obtain ⟨a, C, tp, cs, ws, b, rfl, ha, hT, E, k, e, q⟩ := h
  obtain ⟨u1, u2, rfl, r1, r2⟩ := vals2 r
  cases (show u1 = Value.ref a from r1)
  cases (show u2 = Value.ref tp from r2)
  obtain ⟨oe, J⟩ := inst_at I ha
  obtain ⟨_, its, rv, o, h1, h2, n, h3⟩ := (show ObjOk X.prog X.w H s.heap tp (.tup cs) from I.hok tp _ hT)
  have e3 := ClsV.all k rv
  subst e3
  obtain ⟨oc, od, dt, sl⟩ := o
  simp only at h2 h3
  subst h2 h3
  exact PySem.W.kia_tup (PySem.W.handS_kitx_exc E.hg E.hk E.hs E.hd E.ha E.hn E.ht E.hm) I.kIn J h1 e (fun z => nomatch z) fun tk => ⟨.bl b, H, I.tok tk, rfl, q⟩
end
/-- a class as a value -/
def clsV (K : PySem.W.Frag) (c : String) : V := if c = "ValueError" then .ty "ValueError" else .ref (He.ga K (Str.ofString c))
def clsU (K : PySem.W.Frag) (c : String) : Value := if c = "ValueError" then .type "ValueError" else .ref (He.ga K (Str.ofString c))
theorem clsV_ok (K : PySem.W.Frag) (c : String) : ClsV (clsV K c) (clsU K c) := by
  unfold clsV clsU
  split
  · exact .ty _
  · exact .own _
theorem boot_ve : bootBuiltins (Str.ofString "ValueError") = some (.type "ValueError") := by rfl
section
variable {c : Calls} {k : Nat} {ck : Ck} {X : Cx} {Wx : WX} {a : Expr} {f : Sl → R XV} {pos : Pos}
theorem pe_cls {d y : String} {x : Str} {p : Pos} (h : XpOk X.K X.mg d y) (hx : Str.ofString y = x) (hg : Gl X x) (hn : nameOk x = true) : PE X (.Name x p) (tC (clsV X.K y)) := by
  subst hx
  have q := h.nm
  unfold clsV
  by_cases hy : y = "ValueError"
  · subst hy
    rw [if_pos rfl] at q ⊢
    exact pe_bltn hg q boot_ve rfl (nameOk_d hn).2.2 (nameOk_d hn).1
  · rw [if_neg hy] at q ⊢
    exact pe_glob hg q rfl (nameOk_d hn).1
theorem isx_rep {K : PySem.W.Frag} {O : Addr → Prop} {w : Wd} {x : XV} {v : V} {d : String} (kk : WOk w) (r : XRep K O w x v) (h : x.d = some (.exn d)) : ∃ a, v = .ref a ∧ w.H a = some (ExH (.ref (He.ga K (Str.ofString d))) a) := by
  obtain ⟨a, e1, e2⟩ := r.dat kk h
  exact ⟨a, e1, e2⟩
theorem ok_isx (C : CxLo c k ck X) {ds : List String} {cl : String} {y : Str} {p2 p3 : Pos} (hg : glB ck.sc "isinstance" = true) (hf : "isinstance" ∈ ck.free) (hy : Str.ofString cl = y) (hgy : glB ck.sc y = true) (hny : nameOk y = true) (hd : ∀ d ∈ ds, (d, cl) ∈ ck.xp) (hne : ∃ d, d ∈ ds) (hs : notStar a = true) (ha : OkE X Wx a f) :
    OkE X Wx (.Call (.Name "isinstance" p2) [a, .Name y p3] [] pos) (fun sl => (f sl).bind (isxF ds [cl])) := by
  obtain ⟨d0, hd0⟩ := hne
  have T : PE X (.Name y p3) (tC (clsV X.K cl)) := pe_cls (C.xp _ _ (hd d0 hd0)) hy (glB_ok (by rw [C.sc]; exact hgy)) hny
  have P := pe_callB (X := X) (p := p2) (pos := pos) call_isX (glB_ok (by rw [C.sc]; exact hg)) (C.free _ hf) boot_isinstance (pa_cons (pe_we (X := X) (e := a)) (pa_cons T pa_nil) (star_cons hs _ _)) (he := star_cons hs _ _)
  exact ok_op1 ha fun x => ⟨_, fun σ H Q q => ⟨_, P, q⟩, fun w0 w σ v kk lw rx => by
    unfold isxF
    cases hx : x.d with
    | none => trivial
    | some dd =>
      cases dd with
      | exn d =>
        simp only
        split
        · rename_i hc
          have hdd : d ∈ ds := by simpa using hc
          have F := C.xp _ _ (hd d hdd)
          obtain ⟨a', rfl, e2⟩ := isx_rep kk rx hx
          refine PostR.val (u := .bl _) kk rfl fun Q qq => ⟨a', _, clsV X.K cl, clsU X.K cl, exnIs d cl, rfl, e2, F.ex, clsV_ok _ _, F.ki, ?_⟩
          simpa using qq
        · trivial
      | _ => trivial⟩
theorem kitAny_of {K : PySem.W.Frag} {D : Addr} {d : String} : ∀ {cs : List String}, (∀ c ∈ cs, PySem.W.kitOne K (.ref D) (clsU K c) = some (exnIs d c)) → PySem.W.kitAny K (.ref D) (cs.map (clsU K)) = some (cs.any (exnIs d))
  | [], _ => rfl
  | c :: cs, h => by
    have h1 := h c List.mem_cons_self
    have h2 := kitAny_of (cs := cs) fun c hc => h c (List.mem_cons_of_mem _ hc)
    show (match PySem.W.kitOne K (.ref D) (clsU K c) with | some true => some true | some false => PySem.W.kitAny K (.ref D) (cs.map (clsU K)) | none => none) = _
    rw [h1, List.any_cons]
    cases exnIs d c with
    | true => rfl
    | false => exact h2
theorem paired_cls (K : PySem.W.Frag) : ∀ cs : List String, Paired ClsV (cs.map (clsV K)) (cs.map (clsU K))
  | [] => .nil
  | c :: cs => .cons (clsV_ok K c) (paired_cls K cs)
def tCs : List V → TA
  | [] => tNil
  | v :: vs => tCons (tC v) (tCs vs)
theorem tCs_iff {σ : L2.St} {H : Hp} : ∀ {vs : List V} {Q : List V → Hp → Prop}, Q vs H → tCs vs σ H Q
  | [], Q, q => q
  | v :: vs, Q, q => by
    show tCs vs σ H fun r H2 => Q (v :: r) H2
    exact tCs_iff q
theorem pa_cls (C : CxLo c k ck X) {d : String} : ∀ {cs : List String} {ys : List Expr}, clsNames ck.sc cs ys = true → (∀ c ∈ cs, (d, c) ∈ ck.xp) → PA X ys (tCs (cs.map (clsV X.K)))
  | [], ys, h, _ => by
    unfold clsNames at h
    cases ys with
    | nil => exact pa_nil
    | cons _ _ => cases h
  | c :: cs, ys, h, hd => by
    unfold clsNames at h
    split at h
    · simp only [Bool.and_eq_true, decide_eq_true_eq] at h
      exact pa_cons (pe_cls (C.xp _ _ (hd c List.mem_cons_self)) h.1.1.1 (glB_ok (by rw [C.sc]; exact h.1.1.2)) h.1.2) (pa_cls C h.2 fun c hc => hd c (List.mem_cons_of_mem _ hc))
    · cases h
theorem ok_isxT (C : CxLo c k ck X) {ds cs : List String} {ys : List Expr} {n : Nat} {p2 p3 : Pos} (hg : glB ck.sc "isinstance" = true) (hf : "isinstance" ∈ ck.free) (hc : clsNames ck.sc cs ys = true) (hd : ∀ d ∈ ds, ∀ c ∈ cs, (d, c) ∈ ck.xp) (hne : ∃ d, d ∈ ds) (hce : ∃ c, c ∈ cs) (hl : cs.length ≤ 100) (hs : notStar a = true) (ha : OkE X Wx a f) :
    OkE X Wx (.Call (.Name "isinstance" p2) [a, .Tuple ys n p3] [] pos) (fun sl => (f sl).bind (isxF ds cs)) := by
  obtain ⟨d0, hd0⟩ := hne
  have T : PE X (.Tuple ys n p3) _ := pe_tup (pa_cls C hc (hd d0 hd0))
  have P := pe_callB (X := X) (p := p2) (pos := pos) call_isXT (glB_ok (by rw [C.sc]; exact hg)) (C.free _ hf) boot_isinstance (pa_cons (pe_we (X := X) (e := a)) (pa_cons T pa_nil) (star_cons hs _ _)) (he := star_cons hs _ _)
  intro sl σ A w t
  refine PostR.bind (body := fun (v : V) H1 (Q : VK) => tTup (tCs (cs.map (clsV X.K))) σ H1 fun y H2 => rIsXT X.K [v, y] H2 Q) (ha sl σ A w t) (fun Q q => ⟨_, P, q⟩) fun x w1 v hx0 kk l1 rx => ?_
  unfold isxF
  cases hx : x.d with
  | none => trivial
  | some dd =>
    cases dd with
    | exn d =>
      simp only
      split
      · rename_i hcc
        have hdd : d ∈ ds := by simpa using hcc
        obtain ⟨a', rfl, e2⟩ := isx_rep kk rx hx
        refine fun Q qq => tCs_iff ⟨small (by simpa using Nat.le_trans hl (by decide)), fun p np => ?_⟩
        refine ⟨a', He.ga X.K (Str.ofString d), p, cs.map (clsV X.K), cs.map (clsU X.K), cs.any (exnIs d), rfl, ?_, upd_same, ?_, paired_cls X.K cs, kitAny_of fun c hcs => (C.xp _ _ (hd d hdd c hcs)).ki, ?_⟩
        · rw [upd_ne (fun z => by rw [z, np] at e2; cases e2)]; exact e2
        · obtain ⟨c0, hc0⟩ := hce
          exact (C.xp _ _ (hd d hdd c0 hc0)).ex
        · exact qq (w1.add p (.tup (cs.map (clsV X.K)))) (.bl (cs.any (exnIs d))) (Wd.add_ok kk) (Wd.add_le kk np) (XRep.cl rfl)
      · trivial
    | _ => trivial
end
end Mo
namespace Mo
open PySem PySem.Spec PyProof.Rows L2
structure Good (c : Calls) (k : Nat) (E0 : E) : Prop where
  e : ∀ {X : Cx} {ck : Ck} {Wx : WX}, CxOk c k ck X → Takes X Wx → ∀ {ex : Expr}, chkE ck E0 ex = true → OkE X Wx ex (evE c E0)
  t : ∀ {X : Cx} {ck : Ck} {Wx : WX}, CxOk c k ck X → Takes X Wx → ∀ {ex : Expr}, chkE ck E0 ex = true → tOk E0 = true → OkT X Wx ex (evE c E0)
  b : ∀ {X : Cx} {ck : Ck} {Wx : WX}, CxOk c k ck X → Takes X Wx → ∀ {op : BoolOp} {xs : List Expr} {pos : Pos}, chkB ck op E0 xs = true → OkE X Wx (.BoolOp op xs pos) (evE c E0)
  w : ∀ {X : Cx} {ck : Ck} {Wx : WX}, CxOk c k ck X → Takes X Wx → ∀ {op : BoolOp} {xs : List Expr} {pos : Pos}, chkB ck op E0 xs = true → tOk E0 = true → OkW X Wx (.BoolOp op xs pos) (evE c E0)
/-- where no row of and, or begins -/
theorem Good.of {c : Calls} {k : Nat} {e : E} (h1 : ∀ {X : Cx} {ck : Ck} {Wx : WX}, CxOk c k ck X → Takes X Wx → ∀ {ex : Expr}, chkE ck e ex = true → OkE X Wx ex (evE c e))
    (h2 : ∀ {X : Cx} {ck : Ck} {Wx : WX}, CxOk c k ck X → Takes X Wx → ∀ {ex : Expr}, chkE ck e ex = true → tOk e = true → OkT X Wx ex (evE c e)) (h3 : ∀ ck op xs, chkB ck op e xs = false) : Good c k e :=
  ⟨h1, h2, fun {X ck Wx} _ _ {op xs pos} h => (by rw [h3] at h; cases h), fun {X ck Wx} _ _ {op xs pos} h => (by rw [h3] at h; cases h)⟩
/-- .. a test by its value -/
theorem Good.plain {c : Calls} {k : Nat} {e : E} (h1 : ∀ {X : Cx} {ck : Ck} {Wx : WX}, CxOk c k ck X → Takes X Wx → ∀ {ex : Expr}, chkE ck e ex = true → plainT ex = true ∧ OkE X Wx ex (evE c e)) (h3 : ∀ ck op xs, chkB ck op e xs = false) : Good c k e :=
  Good.of (fun {X ck Wx} C tk {ex} h => (h1 C tk h).2) (fun {X ck Wx} C tk {ex} h _ => okT_val (h1 C tk h).1 (h1 C tk h).2) h3
structure GoodA (c : Calls) (k : Nat) (es : Es) : Prop where
  a : ∀ {X : Cx} {ck : Ck} {Wx : WX}, CxOk c k ck X → Takes X Wx → ∀ {xs : List Expr}, chkEs ck es xs = true → OkA X Wx xs (evEs c es)
theorem chkB_no {ck : Ck} {op : BoolOp} {e : E} {xs : List Expr} (h1 : ∀ a b, e ≠ .and a b) (h2 : ∀ a b, e ≠ .or a b) : chkB ck op e xs = false := by
  cases e <;> first | (unfold chkB; rfl) | exact absurd rfl (h1 _ _) | exact absurd rfl (h2 _ _)
section
variable {c : Calls} {k : Nat}
theorem good_and {a b : E} (ga : Good c k a) (gb : Good c k b) : Good c k (.and a b) := by
  have tailE : ∀ {X : Cx} {ck : Ck} {Wx : WX}, CxOk c k ck X → Takes X Wx → ∀ {r : Expr} {rs : List Expr} {pos : Pos}, (match rs with | [] => chkE ck b r | _ => chkB ck .And b (r :: rs)) = true → OkE X Wx (.BoolOp .And (r :: rs) pos) (evE c b) := fun {X ck Wx} C tk {r rs pos} h => by
    cases rs with
    | nil => exact ok_one (gb.e C tk h)
    | cons r' rs => exact gb.b C tk h
  have tailW : ∀ {X : Cx} {ck : Ck} {Wx : WX}, CxOk c k ck X → Takes X Wx → ∀ {r : Expr} {rs : List Expr} {pos : Pos}, (match rs with | [] => chkE ck b r | _ => chkB ck .And b (r :: rs)) = true → tOk b = true → OkW X Wx (.BoolOp .And (r :: rs) pos) (evE c b) := fun {X ck Wx} C tk {r rs pos} h ht => by
    cases rs with
    | nil => exact okW_and1 (gb.t C tk h ht)
    | cons r' rs => exact gb.w C tk h ht
  have tt : ∀ {p q : Bool}, (p && q) = true → p = true ∧ q = true := fun {p q} h => by simpa using h
  refine ⟨fun {X ck Wx} C tk {ex} h => ?_, fun {X ck Wx} C tk {ex} h ht => ?_, fun {X ck Wx} C tk {op xs pos} h => ?_, fun {X ck Wx} C tk {op xs pos} h ht => ?_⟩
  · unfold chkE at h
    split at h
    · simp only [Bool.and_eq_true] at h
      exact ok_and (ga.e C tk h.1) (tailE C tk h.2)
    · cases h
  · unfold chkE at h
    split at h
    · simp only [Bool.and_eq_true] at h
      exact okT_W (okW_and (ga.t C tk h.1 (tt ht).1) (tailW C tk h.2 (tt ht).2))
    · cases h
  · unfold chkB at h
    split at h
    · simp only [Bool.and_eq_true, decide_eq_true_eq] at h
      obtain ⟨⟨h0, h1⟩, h2⟩ := h
      subst h0
      exact ok_and (ga.e C tk h1) (tailE C tk h2)
    · cases h
  · unfold chkB at h
    split at h
    · simp only [Bool.and_eq_true, decide_eq_true_eq] at h
      obtain ⟨⟨h0, h1⟩, h2⟩ := h
      subst h0
      exact okW_and (ga.t C tk h1 (tt ht).1) (tailW C tk h2 (tt ht).2)
    · cases h
theorem good_or {a b : E} (ga : Good c k a) (gb : Good c k b) : Good c k (.or a b) := by
  have tailE : ∀ {X : Cx} {ck : Ck} {Wx : WX}, CxOk c k ck X → Takes X Wx → ∀ {r : Expr} {rs : List Expr} {pos : Pos}, (match rs with | [] => chkE ck b r | _ => chkB ck .Or b (r :: rs)) = true → OkE X Wx (.BoolOp .Or (r :: rs) pos) (evE c b) := fun {X ck Wx} C tk {r rs pos} h => by
    cases rs with
    | nil => exact ok_one (gb.e C tk h)
    | cons r' rs => exact gb.b C tk h
  have tailW : ∀ {X : Cx} {ck : Ck} {Wx : WX}, CxOk c k ck X → Takes X Wx → ∀ {r : Expr} {rs : List Expr} {pos : Pos}, (match rs with | [] => chkE ck b r | _ => chkB ck .Or b (r :: rs)) = true → tOk b = true → OkW X Wx (.BoolOp .Or (r :: rs) pos) (evE c b) := fun {X ck Wx} C tk {r rs pos} h ht => by
    cases rs with
    | nil => exact okW_or1 (gb.t C tk h ht)
    | cons r' rs => exact gb.w C tk h ht
  have tt : ∀ {p q : Bool}, (p && q) = true → p = true ∧ q = true := fun {p q} h => by simpa using h
  refine ⟨fun {X ck Wx} C tk {ex} h => ?_, fun {X ck Wx} C tk {ex} h ht => ?_, fun {X ck Wx} C tk {op xs pos} h => ?_, fun {X ck Wx} C tk {op xs pos} h ht => ?_⟩
  · unfold chkE at h
    split at h
    · simp only [Bool.and_eq_true] at h
      exact ok_or (ga.e C tk h.1) (tailE C tk h.2)
    · cases h
  · unfold chkE at h
    split at h
    · simp only [Bool.and_eq_true] at h
      exact okT_W (okW_or (ga.t C tk h.1 (tt ht).1) (tailW C tk h.2 (tt ht).2))
    · cases h
  · unfold chkB at h
    split at h
    · simp only [Bool.and_eq_true, decide_eq_true_eq] at h
      obtain ⟨⟨h0, h1⟩, h2⟩ := h
      subst h0
      exact ok_or (ga.e C tk h1) (tailE C tk h2)
    · cases h
  · unfold chkB at h
    split at h
    · simp only [Bool.and_eq_true, decide_eq_true_eq] at h
      obtain ⟨⟨h0, h1⟩, h2⟩ := h
      subst h0
      exact okW_or (ga.t C tk h1 (tt ht).1) (tailW C tk h2 (tt ht).2)
    · cases h
end
structure GoodI (c : Calls) (k : Nat) (it : It) : Prop where
  i : ∀ {X : Cx} {ck : Ck} {Wx : WX}, CxOk c k ck X → Takes X Wx → ∀ {tg ex : Expr}, chkIt ck it tg ex = true → OkI X Wx tg ex (evIt c it)
structure GoodP (c : Calls) (k : Nat) (ps : Eps) : Prop where
  p : ∀ {X : Cx} {ck : Ck} {Wx : WX}, CxOk c k ck X → Takes X Wx → ∀ {ks : List (Option Expr)} {vs : List Expr} {pos : Pos}, chkPs ck ps ks vs = true → OkPs X Wx pos ks vs (evPs c ps) ∧ ks.all (·.isSome) = true ∧ ks.length = vs.length
structure GoodO (c : Calls) (k : Nat) (o : Eo) : Prop where
  o : ∀ {X : Cx} {ck : Ck} {Wx : WX}, CxOk c k ck X → Takes X Wx → ∀ {ex : Option Expr}, chkO ck o ex = true → OkO X Wx ex (evO c o)
structure GoodC (c : Calls) (k : Nat) (cs : Es) : Prop where
  c : ∀ {X : Cx} {ck : Ck}, CxOk c k ck X → Takes X noW → ∀ {ifs : List Expr}, chkCnd ck cs ifs = true → ∀ sl σ A w, At X.K sl σ A w → PostR X.K noW (fun _ x b => x = b) σ w (evCnd c cs sl) (weTs X ifs σ w.H)
theorem chkEs_cons {ck : Ck} {es : Es} {e : Expr} {r : List Expr} {env : Env} {pos : Pos} (h : chkEs ck es (e :: r) = true) : notStar e = true ∧ (backTo pos (starEach r env)).any (·.1) = false := by
  cases es with
  | nil => unfold chkEs at h; cases h
  | cons x es =>
    unfold chkEs at h
    simp only [Bool.and_eq_true] at h
    exact ⟨h.2, plain_args h.1.2⟩
theorem chkEs_nil {ck : Ck} {es : Es} {c : Calls} (h : chkEs ck es [] = true) : evEs c es = fun _ => .ok [] := by
  cases es with
  | nil => funext sl; unfold evEs; rfl
  | cons x es => unfold chkEs at h; cases h
mutual
theorem goodE (c : Calls) (k : Nat) : ∀ e : E, Good c k e
  | .var i => .plain (fun {X ck Wx} C tk {ex} h => by
      unfold chkE at h
      split at h
      · simp only [Bool.and_eq_true, decide_eq_true_eq] at h
        exact ⟨rfl, ok_var C.toCxLo h.1.1 h.1.2 h.2⟩
      · cases h) fun _ _ _ => chkB_no (by simp) (by simp)
  | .int i => .plain (fun {X ck Wx} C tk {ex} h => by
      unfold chkE at h
      split at h
      · simp only [decide_eq_true_eq] at h
        subst h
        exact ⟨rfl, ok_const pe_int fun _ => rfl⟩
      · cases h) fun _ _ _ => chkB_no (by simp) (by simp)
  | .bl b => .plain (fun {X ck Wx} C tk {ex} h => by
      unfold chkE at h
      split at h
      · have h' := eq_of_beq h
        subst h'
        exact ⟨rfl, ok_const pe_bl fun _ => rfl⟩
      · cases h) fun _ _ _ => chkB_no (by simp) (by simp)
  | .non => .plain (fun {X ck Wx} C tk {ex} h => by
      unfold chkE at h
      split at h
      · exact ⟨rfl, ok_const pe_non fun _ => rfl⟩
      · cases h) fun _ _ _ => chkB_no (by simp) (by simp)
  | .str s => .plain (fun {X ck Wx} C tk {ex} h => by
      unfold chkE at h
      split at h
      · simp only [decide_eq_true_eq] at h
        subst h
        exact ⟨rfl, ok_const pe_str fun _ => rfl⟩
      · cases h) fun _ _ _ => chkB_no (by simp) (by simp)
  | .gi x i => .plain (fun {X ck Wx} C tk {ex} h => by
      unfold chkE at h
      split at h
      · simp only [Bool.and_eq_true, decide_eq_true_eq, List.contains_iff_mem] at h
        obtain ⟨⟨⟨h1, h2⟩, h3⟩, h4⟩ := h
        subst h1
        obtain ⟨t, ht⟩ := C.gi x i h4
        exact ⟨rfl, ok_const (pe_glob (v := .int i) (glB_ok (by rw [C.sc]; exact h2)) ht ⟨t, rfl⟩ (nameOk_d h3).1) fun _ => rfl⟩
      · cases h) fun _ _ _ => chkB_no (by simp) (by simp)
  | .gs x s => .plain (fun {X ck Wx} C tk {ex} h => by
      unfold chkE at h
      split at h
      · simp only [Bool.and_eq_true, decide_eq_true_eq, List.contains_iff_mem] at h
        obtain ⟨⟨⟨h1, h2⟩, h3⟩, h4⟩ := h
        subst h1
        obtain ⟨t, ht⟩ := C.gs x s h4
        exact ⟨rfl, ok_const (pe_glob (v := .str s) (glB_ok (by rw [C.sc]; exact h2)) ht ⟨t, rfl⟩ (nameOk_d h3).1) fun _ => rfl⟩
      · cases h) fun _ _ _ => chkB_no (by simp) (by simp)
  | .bin o a b => .plain (fun {X ck Wx} C tk {ex} h => by
      unfold chkE at h
      split at h
      · simp only [Bool.and_eq_true] at h
        exact ⟨rfl, ok_bin h.1.1 ((goodE c k a).e C tk h.1.2) ((goodE c k b).e C tk h.2)⟩
      · cases h) fun _ _ _ => chkB_no (by simp) (by simp)
  | .neg a => .plain (fun {X ck Wx} C tk {ex} h => by
      unfold chkE at h
      split at h
      · exact ⟨rfl, ok_neg ((goodE c k a).e C tk h)⟩
      · cases h) fun _ _ _ => chkB_no (by simp) (by simp)
  | .cmp o a b => .of (fun {X ck Wx} C tk {ex} h => by
      unfold chkE at h
      split at h
      · simp only [Bool.and_eq_true] at h
        exact ok_cmp C h.1.1.1 h.2 ((goodE c k a).e C tk h.1.1.2) ((goodE c k b).e C tk h.1.2)
      · cases h) (fun {X ck Wx} C tk {ex} h _ => by
      unfold chkE at h
      split at h
      · simp only [Bool.and_eq_true] at h
        exact okT_cmp C h.1.1.1 h.2 ((goodE c k a).e C tk h.1.1.2) ((goodE c k b).e C tk h.1.2)
      · cases h) fun _ _ _ => chkB_no (by simp) (by simp)
  | .isN a => .of (fun {X ck Wx} C tk {ex} h => by
      unfold chkE at h
      split at h
      · exact ok_isN ((goodE c k a).e C tk h)
      · cases h) (fun {X ck Wx} C tk {ex} h _ => by
      unfold chkE at h
      split at h
      · exact okT_isN ((goodE c k a).e C tk h)
      · cases h) fun _ _ _ => chkB_no (by simp) (by simp)
  | .notN a => .of (fun {X ck Wx} C tk {ex} h => by
      unfold chkE at h
      split at h
      · exact ok_notN ((goodE c k a).e C tk h)
      · cases h) (fun {X ck Wx} C tk {ex} h _ => by
      unfold chkE at h
      split at h
      · exact okT_notN ((goodE c k a).e C tk h)
      · cases h) fun _ _ _ => chkB_no (by simp) (by simp)
  | .chn o o' a b e => .of (fun {X ck Wx} C tk {ex} h => by
      unfold chkE at h
      split at h
      · simp only [Bool.and_eq_true] at h
        exact ok_chn C h.1.1.1.1.1 h.1.1.1.1.2 h.2 ((goodE c k a).e C tk h.1.1.1.2) ((goodE c k b).e C tk h.1.1.2) ((goodE c k e).e C tk h.1.2)
      · cases h) (fun {X ck Wx} C tk {ex} h _ => by
      unfold chkE at h
      split at h
      · simp only [Bool.and_eq_true] at h
        exact okT_chn C h.1.1.1.1.1 h.1.1.1.1.2 h.2 ((goodE c k a).e C tk h.1.1.1.2) ((goodE c k b).e C tk h.1.1.2) ((goodE c k e).e C tk h.1.2)
      · cases h) fun _ _ _ => chkB_no (by simp) (by simp)
  | .and a b => good_and (goodE c k a) (goodE c k b)
  | .or a b => good_or (goodE c k a) (goodE c k b)
  | .not a => .of (fun {X ck Wx} C tk {ex} h => by
      unfold chkE at h
      split at h
      · exact ok_not ((goodE c k a).e C tk h)
      · cases h) (fun {X ck Wx} C tk {ex} h ht => by
      unfold chkE at h
      split at h
      · exact okT_not ((goodE c k a).t C tk h ht)
      · cases h) fun _ _ _ => chkB_no (by simp) (by simp)
  | .ife t a b => .of (fun {X ck Wx} C tk {ex} h => by
      unfold chkE at h
      split at h
      · simp only [Bool.and_eq_true] at h
        exact ok_ife ((goodE c k t).t C tk h.1.1.1 h.2) ((goodE c k a).e C tk h.1.1.2) ((goodE c k b).e C tk h.1.2)
      · cases h) (fun {X ck Wx} C tk {ex} h ht => by cases ht) fun _ _ _ => chkB_no (by simp) (by simp)
  | .tup es => .plain (fun {X ck Wx} C tk {ex} h => by
      unfold chkE at h
      split at h
      · exact ⟨rfl, ok_tup ((goodEs c k es).a C tk h)⟩
      · cases h) fun _ _ _ => chkB_no (by simp) (by simp)
  | .lst es => .plain (fun {X ck Wx} C tk {ex} h => by
      unfold chkE at h
      split at h
      · exact ⟨rfl, ok_lst ((goodEs c k es).a C tk h)⟩
      · cases h) fun _ _ _ => chkB_no (by simp) (by simp)
  | .sub a i => .plain (fun {X ck Wx} C tk {ex} h => by
      unfold chkE at h
      split at h
      · simp only [Bool.and_eq_true] at h
        exact ⟨rfl, ok_sub C h.2 ((goodE c k a).e C tk h.1.1) ((goodE c k i).e C tk h.1.2)⟩
      · cases h) fun _ _ _ => chkB_no (by simp) (by simp)
  | .call f es => .plain (fun {X ck Wx} C tk {ex} h => by
      unfold chkE at h
      split at h
      · simp only [Bool.and_eq_true, decide_eq_true_eq, List.contains_iff_mem] at h
        obtain ⟨⟨⟨⟨h1, h2⟩, h3⟩, h4⟩, h5⟩ := h
        have hA := (goodEs c k es).a C tk h5
        cases es with
        | nil => unfold chkEs at h5; cases h5
        | cons e es =>
          have h5' := h5
          unfold chkEs at h5
          simp only [Bool.and_eq_true] at h5
          exact ⟨rfl, ok_call C tk h1 h2 h3 h4 h5.2 (fun _ => plain_args h5.1.2) hA⟩
      · cases h) fun _ _ _ => chkB_no (by simp) (by simp)
  | .blt b es => .plain (fun {X ck Wx} C tk {ex} h => by
      unfold chkE at h
      split at h
      · simp only [Bool.and_eq_true, decide_eq_true_eq, List.contains_iff_mem] at h
        obtain ⟨⟨⟨⟨h1, h2⟩, h3⟩, h4⟩, h5⟩ := h
        have hA := (goodEs c k es).a C tk h5
        cases es with
        | nil => unfold chkEs at h5; cases h5
        | cons e es =>
          have h5' := h5
          unfold chkEs at h5
          simp only [Bool.and_eq_true] at h5
          exact ⟨rfl, ok_blt C h1 h2 h3 h4 h5.2 (fun _ => plain_args h5.1.2) hA⟩
      · cases h) fun _ _ _ => chkB_no (by simp) (by simp)
  | .fz a => .of (fun {X ck Wx} C tk {ex} h => by
      unfold chkE at h
      exact ok_fz ((goodE c k a).e C tk h)) (fun {X ck Wx} C tk {ex} h ht => by cases ht) fun _ _ _ => chkB_no (by simp) (by simp)
  | .isi t a => .plain (fun {X ck Wx} C tk {ex} h => by
      unfold chkE at h
      split at h
      · simp only [Bool.and_eq_true, decide_eq_true_eq, List.contains_iff_mem] at h
        obtain ⟨⟨⟨⟨⟨⟨⟨⟨h1, h2⟩, h3⟩, h4⟩, h5⟩, h6⟩, h7⟩, h8⟩, h9⟩ := h
        subst h1
        exact ⟨rfl, ok_isi C h2 h3 h4 h5 h6 h7 h8 ((goodE c k a).e C tk h9)⟩
      · cases h) fun _ _ _ => chkB_no (by simp) (by simp)
  | .isx ds cs a => .plain (fun {X ck Wx} C tk {ex} h => by
      unfold chkE at h
      split at h
      · simp only [Bool.and_eq_true, decide_eq_true_eq, List.contains_iff_mem, List.all_eq_true] at h
        obtain ⟨⟨⟨⟨⟨⟨⟨⟨⟨h1, h2⟩, h3⟩, h4⟩, h5⟩, h6⟩, h7⟩, h8⟩, h9⟩, h10⟩ := h
        subst h1
        match cs, h4, h7 with
        | [cl], h4, h7 =>
          have h4' : Str.ofString cl = _ := List.singleton_inj.mp h4
          refine ⟨rfl, ok_isx C.toCxLo h2 h3 h4' h5 h6 (fun d hd => h7 d hd cl (by simp)) ?_ h8 ((goodE c k a).e C tk h9)⟩
          cases ds with
          | nil => cases h10
          | cons d _ => exact ⟨d, by simp⟩
        | [], h4, _ => cases h4
        | _ :: _ :: _, h4, _ => cases h4
      · simp only [Bool.and_eq_true, decide_eq_true_eq, List.contains_iff_mem, List.all_eq_true] at h
        obtain ⟨⟨⟨⟨⟨⟨⟨⟨⟨h1, h2⟩, h3⟩, h4⟩, h5⟩, h6⟩, h7⟩, h8⟩, h9⟩, h10⟩ := h
        subst h1
        refine ⟨rfl, ok_isxT C.toCxLo h2 h3 h4 (fun d hd y hy => h5 d hd y hy) ?_ ?_ h8 h6 ((goodE c k a).e C tk h7)⟩
        · cases ds with
          | nil => cases h9
          | cons d _ => exact ⟨d, by simp⟩
        · cases cs with
          | nil => cases h10
          | cons d _ => exact ⟨d, by simp⟩
      · cases h) fun _ _ _ => chkB_no (by simp) (by simp)
  | .fld cl a f => .plain (fun {X ck Wx} C tk {ex} h => by
      unfold chkE at h
      split at h
      · simp only [Bool.and_eq_true, decide_eq_true_eq, List.contains_iff_mem] at h
        obtain ⟨⟨⟨⟨h1, h2⟩, h3⟩, h4⟩, h5⟩ := h
        exact ⟨rfl, ok_fld C h1 h3 h4 h5 ((goodE c k a).e C tk h2)⟩
      · cases h) fun _ _ _ => chkB_no (by simp) (by simp)
  | .mth cl m o es => .plain (fun {X ck Wx} C tk {ex} h => by
      unfold chkE at h
      split at h
      · simp only [Bool.and_eq_true, decide_eq_true_eq, List.contains_iff_mem] at h
        obtain ⟨⟨⟨⟨⟨⟨⟨h1, h2⟩, h3⟩, h4⟩, h5⟩, h6⟩, h7⟩, h8⟩ := h
        exact ⟨rfl, ok_mth C tk h1 h3 h4 h5 h8 h7 (fun e r he => chkEs_cons (he ▸ h6)) (fun he => chkEs_nil (he ▸ h6)) ((goodE c k o).e C tk h2) ((goodEs c k es).a C tk h6)⟩
      · cases h) fun _ _ _ => chkB_no (by simp) (by simp)
  | .mk cl es => .plain (fun {X ck Wx} C tk {ex} h => by
      unfold chkE at h
      split at h
      · simp only [Bool.and_eq_true, decide_eq_true_eq, List.contains_iff_mem] at h
        obtain ⟨⟨⟨⟨h1, h2⟩, h3⟩, h4⟩, h6⟩ := h
        exact ⟨rfl, ok_mk C tk h1 h2 h3 h4 (fun e r he => chkEs_cons (he ▸ h6)) (fun he => chkEs_nil (he ▸ h6)) ((goodEs c k es).a C tk h6)⟩
      · cases h) fun _ _ _ => chkB_no (by simp) (by simp)
  | .dnew => .plain (fun {X ck Wx} C tk {ex} h => by
      unfold chkE at h
      split at h
      · exact ⟨rfl, ok_dnew⟩
      · cases h) fun _ _ _ => chkB_no (by simp) (by simp)
  | .disp ps => .plain (fun {X ck Wx} C tk {ex} h => by
      unfold chkE at h
      split at h
      · simp only [Bool.and_eq_true, decide_eq_true_eq] at h
        obtain ⟨⟨h0, h15⟩, h1⟩ := h
        obtain ⟨g1, g2, g3⟩ := (goodPs c k ps).p C tk h1
        exact ⟨rfl, ok_disp g2 g3 (fun z => by rw [z] at h0; exact absurd rfl h0) h15 (g1)⟩
      · cases h) fun _ _ _ => chkB_no (by simp) (by simp)
  | .sli a lo hi => .plain (fun {X ck Wx} C tk {ex} h => by
      unfold chkE at h
      split at h
      · simp only [Bool.and_eq_true] at h
        exact ⟨rfl, ok_sli ((goodE c k a).e C tk h.1.1) ((goodO c k lo).o C tk h.1.2) ((goodO c k hi).o C tk h.2)⟩
      · cases h) fun _ _ _ => chkB_no (by simp) (by simp)
  | .dgt a q y => .plain (fun {X ck Wx} C tk {ex} h => by
      unfold chkE at h
      split at h
      · simp only [Bool.and_eq_true, decide_eq_true_eq] at h
        obtain ⟨⟨⟨⟨⟨⟨⟨h1, h2⟩, h3⟩, h4⟩, h5⟩, h6⟩, h7⟩, h8⟩ := h
        subst h1
        exact ⟨rfl, ok_dgt C h5 h6 h7 h8 ((goodE c k a).e C tk h2) ((goodE c k q).e C tk h3) ((goodE c k y).e C tk h4)⟩
      · cases h) fun _ _ _ => chkB_no (by simp) (by simp)
  | .dg1 a q => .plain (fun {X ck Wx} C tk {ex} h => by
      unfold chkE at h
      split at h
      · simp only [Bool.and_eq_true, decide_eq_true_eq] at h
        obtain ⟨⟨⟨⟨⟨h1, h2⟩, h3⟩, h5⟩, h6⟩, h8⟩ := h
        subst h1
        exact ⟨rfl, ok_dg1 C h5 h6 h8 ((goodE c k a).e C tk h2) ((goodE c k q).e C tk h3)⟩
      · cases h) fun _ _ _ => chkB_no (by simp) (by simp)
  | .srt ff j a => .plain (fun {X ck Wx} C tk {ex} h => by
      unfold chkE at h
      split at h
      · simp only [Bool.and_eq_true, decide_eq_true_eq, List.contains_iff_mem] at h
        obtain ⟨⟨⟨⟨⟨⟨⟨⟨⟨h1, h2⟩, h3⟩, h4⟩, h5⟩, h6⟩, h7⟩, h8⟩, h9⟩, h10⟩ := h
        subst h1 h4
        exact ⟨rfl, ok_srt C h2 h3 h5 h6 h7 h8 h9 ((goodE c k a).e C tk h10)⟩
      · cases h) fun _ _ _ => chkB_no (by simp) (by simp)
  | .lrng a b => .plain (fun {X ck Wx} C tk {ex} h => by
      unfold chkE at h
      split at h
      · simp only [Bool.and_eq_true, decide_eq_true_eq, List.contains_iff_mem] at h
        obtain ⟨⟨⟨⟨⟨⟨⟨⟨⟨h1, h2⟩, h3⟩, h4⟩, h5⟩, h6⟩, h7⟩, h8⟩, h9⟩, h10⟩ := h
        subst h1 h4
        exact ⟨rfl, ok_lrng C h2 h3 h5 h6 h9 h10 ((goodE c k a).e C tk h7) ((goodE c k b).e C tk h8)⟩
      · cases h) fun _ _ _ => chkB_no (by simp) (by simp)
  | .sm0 m o => .plain (fun {X ck Wx} C tk {ex} h => by
      unfold chkE at h
      split at h
      · simp only [Bool.and_eq_true, decide_eq_true_eq] at h
        obtain ⟨⟨⟨⟨h1, h2⟩, h3⟩, h4⟩, h5⟩ := h
        subst h1
        exact ⟨rfl, ok_sm0 h2 h4 h5 ((goodE c k o).e C tk h3)⟩
      · cases h) fun _ _ _ => chkB_no (by simp) (by simp)
  | .sm1 m o e => .plain (fun {X ck Wx} C tk {ex} h => by
      unfold chkE at h
      split at h
      · simp only [Bool.and_eq_true, Bool.or_eq_true, decide_eq_true_eq] at h
        obtain ⟨⟨⟨⟨⟨⟨h1, h2⟩, h3⟩, h4⟩, h5⟩, h6⟩, h7⟩ := h
        exact ⟨rfl, ok_sm1 (by rcases h1 with (h | h) | h <;> simp [h]) h2 h4 h6 h7 ((goodE c k o).e C tk h3) ((goodE c k e).e C tk h5)⟩
      · cases h) fun _ _ _ => chkB_no (by simp) (by simp)
  | .comp elt t it cs => .of (fun {X ck Wx} C tk {ex} h => by
      unfold chkE at h
      split at h
      · simp only [Bool.and_eq_true] at h
        obtain ⟨⟨⟨⟨⟨h1, h2⟩, h3⟩, h4⟩, h5⟩, h6⟩ := h
        exact ok_comp C h2 h4 h3 ((goodIt c k it).i C tk h1) (fun s H Cc cl fp => (goodE c k elt).e (blk_ok C _ s H Cc cl fp) takes0 h5)
          (fun s H Cc cl fp sl σ A w t => (goodCnd c k cs).c (blk_ok C _ s H Cc cl fp) takes0 h6 sl σ A w t)
      · cases h) (fun {X ck Wx} C tk {ex} h ht => by cases ht) fun _ _ _ => chkB_no (by simp) (by simp)
theorem goodEs (c : Calls) (k : Nat) : ∀ es : Es, GoodA c k es
  | .nil => ⟨fun {X ck Wx} C tk {xs} h => by
    unfold chkEs at h
    cases xs with
    | nil => exact okA_nil
    | cons _ _ => cases h⟩
  | .cons e es => ⟨fun {X ck Wx} C tk {xs} h => by
    unfold chkEs at h
    cases xs with
    | nil => cases h
    | cons x xs =>
      simp only [Bool.and_eq_true] at h
      exact okA_cons h.2 ((goodE c k e).e C tk h.1.1) ((goodEs c k es).a C tk h.1.2)⟩
theorem goodPs (c : Calls) (k : Nat) : ∀ ps : Eps, GoodP c k ps
  | .nil => ⟨fun {X ck Wx} C tk {ks vs pos} h => by
    unfold chkPs at h
    simp only [Bool.and_eq_true, List.isEmpty_iff] at h
    obtain ⟨rfl, rfl⟩ := h
    exact ⟨okPs_nil, rfl, rfl⟩⟩
  | .cons a b r => ⟨fun {X ck Wx} C tk {ks vs pos} h => by
    unfold chkPs at h
    split at h
    · simp only [Bool.and_eq_true] at h
      obtain ⟨g1, g2, g3⟩ := (goodPs c k r).p C tk (pos := pos) h.2
      exact ⟨okPs_cons ((goodE c k a).e C tk h.1.1) ((goodE c k b).e C tk h.1.2) g1, by simp [g2], by simp [g3]⟩
    · cases h⟩
theorem goodO (c : Calls) (k : Nat) : ∀ o : Eo, GoodO c k o
  | .no => ⟨fun {X ck Wx} C tk {ex} h => by
    unfold chkO at h
    cases ex with
    | none => exact okO_no
    | some _ => cases h⟩
  | .so e => ⟨fun {X ck Wx} C tk {ex} h => by
    unfold chkO at h
    cases ex with
    | none => cases h
    | some x => exact okO_so ((goodE c k e).e C tk h)⟩
theorem goodIt (c : Calls) (k : Nat) : ∀ it : It, GoodI c k it
  | .exp e => ⟨fun {X ck Wx} C tk {tg ex} h => by
    unfold chkIt at h
    exact okI_exp ((goodE c k e).e C tk h)⟩
  | .enum a => ⟨fun {X ck Wx} C tk {tg ex} h => by
    unfold chkIt at h
    split at h
    · simp only [Bool.and_eq_true, decide_eq_true_eq, List.contains_iff_mem] at h
      obtain ⟨⟨⟨⟨g1, g2⟩, g3⟩, g4⟩, g5⟩ := h
      subst g1
      exact okI_enum C g2 g3 g5 ((goodE c k a).e C tk g4)
    · cases h⟩
  | .zip a b => ⟨fun {X ck Wx} C tk {tg ex} h => by
    unfold chkIt at h
    split at h
    · simp only [Bool.and_eq_true, decide_eq_true_eq, List.contains_iff_mem] at h
      obtain ⟨⟨⟨⟨⟨⟨g1, g2⟩, g3⟩, g4⟩, g5⟩, g6⟩, g7⟩ := h
      subst g1
      exact okI_zip C g2 g3 g6 g7 ((goodE c k a).e C tk g4) ((goodE c k b).e C tk g5)
    · cases h⟩
  | .rng1 a => ⟨fun {X ck Wx} C tk {tg ex} h => by
    unfold chkIt at h
    split at h
    · simp only [Bool.and_eq_true, decide_eq_true_eq, List.contains_iff_mem] at h
      obtain ⟨⟨⟨⟨g1, g2⟩, g3⟩, g4⟩, g5⟩ := h
      subst g1
      exact okI_rng1 C g2 g3 g5 ((goodE c k a).e C tk g4)
    · cases h⟩
  | .rng2 a b => ⟨fun {X ck Wx} C tk {tg ex} h => by
    unfold chkIt at h
    split at h
    · simp only [Bool.and_eq_true, decide_eq_true_eq, List.contains_iff_mem] at h
      obtain ⟨⟨⟨⟨⟨⟨g1, g2⟩, g3⟩, g4⟩, g5⟩, g6⟩, g7⟩ := h
      subst g1
      exact okI_rng2 C g2 g3 g6 g7 ((goodE c k a).e C tk g4) ((goodE c k b).e C tk g5)
    · cases h⟩
  | .rng3 a b d => ⟨fun {X ck Wx} C tk {tg ex} h => by
    unfold chkIt at h
    split at h
    · simp only [Bool.and_eq_true, decide_eq_true_eq, List.contains_iff_mem] at h
      obtain ⟨⟨⟨⟨⟨⟨⟨⟨g1, g2⟩, g3⟩, g4⟩, g5⟩, g8⟩, g6⟩, g7⟩, g9⟩ := h
      subst g1
      exact okI_rng3 C g2 g3 g6 g7 g9 ((goodE c k a).e C tk g4) ((goodE c k b).e C tk g5) ((goodE c k d).e C tk g8)
    · cases h⟩
theorem goodCnd (c : Calls) (k : Nat) : ∀ cs : Es, GoodC c k cs
  | .nil => ⟨fun {X ck} C tk {ifs} h sl σ A w t => by
    unfold chkCnd at h
    cases ifs with
    | cons _ _ => cases h
    | nil => exact fun Q q => ⟨_, pts_nil, q w true t.ok (WLe.refl _) rfl⟩⟩
  | .cons e es => ⟨fun {X ck} C tk {ifs} h sl σ A w t => by
    unfold chkCnd at h
    split at h
    · simp only [Bool.and_eq_true] at h
      exact ((goodE c k e).t C tk h.1.1 h.1.2 sl σ A w t).imp (fun Q ⟨tt, p1, p2⟩ => ⟨_, pts_one p1, p2⟩) fun _ _ _ _ r => r
    · cases h⟩
end
end Mo
namespace Mo
open PySem PySem.Spec PyProof.Rows L2
/-! ### statements: the places -/
def weS (X : Cx) (st : Stmt) : TS := fun D σ H => ∃ t, PS X st t ∧ t D σ H
theorem ps_we {X : Cx} {st : Stmt} : PS X st (weS X st) := ⟨fun pins s σ H D I ⟨t, h, q⟩ => h.run pins s σ H D I q⟩
def weSs (X : Cx) (st : List Stmt) : TS := fun D σ H => ∃ t, PSs X st t ∧ t D σ H
theorem pss_we {X : Cx} {st : List Stmt} : PSs X st (weSs X st) := ⟨fun pins s σ H D I ⟨t, h, q⟩ => h.run pins s σ H D I q⟩
structure AtS (K : PySem.W.Frag) (B : Addr → Prop) (sl : Sl) (σ : L2.St) (A : List Addr) (w : Wd) : Prop where
  at_ : At K sl σ A w
  nb : ∀ a ∈ A, ¬ B a
  bg : ∀ a, B a → w.G a ≠ none
structure WLeS (B : Addr → Prop) (w w' : Wd) : Prop where
  f : Ex w.F w'.F
  g : Ex w.G w'.G
  ff : ∀ a, B a → w.F a = none → w'.F a = none
  bs : w'.bs = w.bs
theorem WLeS.refl (B : Addr → Prop) (w : Wd) : WLeS B w w := ⟨.refl _, .refl _, fun _ _ h => h, rfl⟩
theorem WLeS.trans {B : Addr → Prop} {w w1 w2 : Wd} (a : WLeS B w w1) (b : WLeS B w1 w2) : WLeS B w w2 := ⟨a.f.trans b.f, a.g.trans b.g, fun x h q => b.ff x h (a.ff x h q), b.bs.trans a.bs⟩
theorem AtS.oldB {K : PySem.W.Frag} {B : Addr → Prop} {sl : Sl} {σ : L2.St} {A : List Addr} {w : Wd} (h : AtS K B sl σ A w) : ∀ a, B a → old w a := fun a b => ex_some h.at_.ok.gh (h.bg a b)
theorem WLe.s {K : PySem.W.Frag} {B : Addr → Prop} {sl : Sl} {σ : L2.St} {A : List Addr} {w w' : Wd} (l : WLe w w') (h : AtS K B sl σ A w) : WLeS B w w' := ⟨l.f, l.g, fun a b q => l.ff a (h.oldB a b) q, l.bs⟩
theorem AtS.mono {K : PySem.W.Frag} {B : Addr → Prop} {sl : Sl} {σ : L2.St} {A : List Addr} {w w' : Wd} (h : AtS K B sl σ A w) (l : WLe w w') (k : WOk w') : AtS K B sl σ A w' := ⟨h.at_.mono l k, h.nb, fun a b => ex_some l.g (h.bg a b)⟩
def PostS (K : PySem.W.Frag) (Wx : WX) (B : Addr → Prop) (w : Wd) (o : RO) (T : Ends → Prop) : Prop := match o with
  | none => True
  | some (.nx sl) => ∀ D : Ends, (∀ w' σ A, AtS K B sl σ A w' → WLeS B w w' → D.nx σ w'.H) → T D
  | some (.bk sl) => ∀ D : Ends, (∀ w' σ A, AtS K B sl σ A w' → WLeS B w w' → D.bk σ w'.H) → T D
  | some (.ct sl) => ∀ D : Ends, (∀ w' σ A, AtS K B sl σ A w' → WLeS B w w' → D.ct σ w'.H) → T D
  | some (.rt x sl) => ∀ D : Ends, (∀ w' v σ A C, AtS K B sl σ A w' → WLeS B w w' → XR1 K w' x v C → Own w' C → (∀ a ∈ C, ¬ B a ∧ a ∉ A) → D.rt v w'.H) → T D
  | some (.ex e sl) => ∀ D : Ends, (∀ w' σ A cls d, AtS K B sl σ A w' → WLeS B w w' → ExnR K w'.H e cls d → Wx cls d σ w'.H) → T D
def OkS (X : Cx) (Wx : WX) (st : Stmt) (f : Sl → RO) : Prop := ∀ B sl σ A w, AtS X.K B sl σ A w → PostS X.K Wx B w (f sl) (fun D => weS X st D σ w.H)
def OkSs (X : Cx) (Wx : WX) (st : List Stmt) (f : Sl → RO) : Prop := ∀ B sl σ A w, AtS X.K B sl σ A w → PostS X.K Wx B w (f sl) (fun D => weSs X st D σ w.H)
section
variable {X : Cx} {Wx : WX} {K : PySem.W.Frag} {B : Addr → Prop} {sl : Sl} {σ : L2.St} {A : List Addr} {w : Wd} {e : Expr} {f : Sl → R XV} {g h : Sl → RO}
theorem PostS.imp {o : RO} {T T' : Ends → Prop} (h : PostS K Wx B w o T) (hT : ∀ D, T D → T' D) : PostS K Wx B w o T' := by
  cases o with
  | none => trivial
  | some o => cases o <;> exact fun D q => hT D (h D q)
/-- from a later place -/
theorem PostS.from {o : RO} {T : Ends → Prop} {w0 : Wd} (l : WLeS B w0 w) (h : PostS K Wx B w o T) : PostS K Wx B w0 o T := by
  cases o with
  | none => trivial
  | some o =>
    cases o with
    | nx sl => exact fun D q => h D fun w' σ A a l' => q w' σ A a (l.trans l')
    | bk sl => exact fun D q => h D fun w' σ A a l' => q w' σ A a (l.trans l')
    | ct sl => exact fun D q => h D fun w' σ A a l' => q w' σ A a (l.trans l')
    | rt x sl => exact fun D q => h D fun w' v σ A C t l' r o n => q w' v σ A C t (l.trans l') r o n
    | ex e sl => exact fun D q => h D fun w' σ A cls d a l' r => q w' σ A cls d a (l.trans l') r
/-- an expression, then what comes of its value -/
theorem PostR.out {α β : Type} {rep : Wd → α → β → Prop} {r : R α} {T : (β → Hp → Prop) → Prop} {T' : Ends → Prop} {F : α → RO} {body : Ends → β → Hp → Prop} (t : AtS K B sl σ A w)
    (h : PostR K Wx rep σ w r T) (hT : ∀ D, T (fun v H1 => body D v H1) → T' D)
    (hF : ∀ x w1 v, r = .ok x → AtS K B sl σ A w1 → WLe w w1 → rep w1 x v → PostS K Wx B w1 (F x) (fun D => body D v w1.H)) : PostS K Wx B w (r.out sl F) T' := by
  cases r with
  | stuck => trivial
  | exc e => exact fun D q => hT D (h _ fun w1 cls d k l er => q w1 σ A cls d (t.mono l k) (l.s t) er)
  | ok x =>
    show PostS K Wx B w (F x) T'
    have hF' := fun w1 v k l r => (hF x w1 v rfl (t.mono l k) l r).from (l.s t)
    cases hx : F x with
    | none => trivial
    | some o =>
      rw [hx] at hF'
      cases o with
      | nx sl => exact fun D q => hT D (h _ fun w1 v k l r => hF' w1 v k l r D q)
      | bk sl => exact fun D q => hT D (h _ fun w1 v k l r => hF' w1 v k l r D q)
      | ct sl => exact fun D q => hT D (h _ fun w1 v k l r => hF' w1 v k l r D q)
      | rt x sl' => exact fun D q => hT D (h _ fun w1 v k l r => hF' w1 v k l r D q)
      | ex e sl => exact fun D q => hT D (h _ fun w1 v k l r => hF' w1 v k l r D q)
/-! ### a slot is stored -/
theorem AtS.set (t : AtS K B sl σ A w) {s : SV} {o : Option V} {C : List Addr} (h : SvR K w s o C) (hc : Own w C) (hn : ∀ a ∈ C, a ∉ A ∧ ¬ B a) (i : Nat) : ∃ A', AtS K B (sl.set i s) (σ.set i o) A' w := by
  obtain ⟨A', h1, h2, h3⟩ := SlR.set h i t.at_.sl t.at_.ow.nd hc.nd fun a ha => (hn a ha).1
  refine ⟨A', ⟨t.at_.ok, h1, h2, fun a ha => ?_⟩, fun a ha => ?_, t.bg⟩
  · rcases h3 a ha with q | q
    · exact t.at_.ow.no a q
    · exact hc.no a q
  · rcases h3 a ha with q | q
    · exact t.nb a q
    · exact (hn a q).2
theorem AtS.setCl (t : AtS K B sl σ A w) {d : D} {v : V} (h : Rep K w.F d v) (i : Nat) : ∃ A', AtS K B (sl.set i (.cl d)) (σ.set i (some v)) A' w :=
  t.set (s := .cl d) (C := []) ⟨v, rfl, h, rfl⟩ own_nil (fun a h => absurd h (by simp)) i
/-- a value that is kept -/
theorem AtS.keep {w0 : Wd} (t0 : AtS K B sl σ A w0) (t : AtS K B sl σ A w) {x : XV} {s : SV} {v : V} (r : XRep K (old w0) w x v) (hx : x.keep = some s) (i : Nat) : ∃ A', AtS K B (sl.set i s) (σ.set i (some v)) A' w := by
  obtain ⟨C, r1, r2, r3⟩ := r
  cases x with
  | cl d => cases hx; exact t.setCl r1.1 i
  | lk m => cases hx; obtain ⟨⟨C', o⟩, q⟩ := r1; exact t.set (s := .lk m) (C := []) ⟨v, C', rfl, o, rfl⟩ own_nil (fun a h => absurd h (by simp)) i
  | nw m => cases hx; exact t.set (s := .ow m) (C := C) ⟨v, rfl, r1⟩ r2 (fun a ha => ⟨fun z => r3 a ha (t0.at_.sl.there a z), fun z => r3 a ha (t0.oldB a z)⟩) i
  | tm m => cases hx
  | al => cases hx
  | mu _ _ => cases hx
end
/-! ### the context for statements -/
structure SxOk (c : Calls) (k : Nat) (ck : Ck) (X : Cx) : Prop where
  x : CxOk c k ck X
  fn : ∀ x, X.fn x = true
  po : PassesOwn (model X.prog X.w) X.A X.env X.xe
  kind : X.env.scope.kind = .function
  stk : X.stack = X.env :: X.outer
  fr : X.env.frame = some X.env.locals
theorem locB_ok {X : Cx} {x : Str} (h : locB X.env.scope x = true) : L2.Loc X.env.scope x := by
  unfold locB at h
  unfold L2.Loc
  split at h <;> first | exact .inl (by assumption) | exact .inr (by assumption) | cases h
def notComp (e : Expr) : Bool := match e with
  | .ListComp _ _ _ _ => false
  | .SetComp _ _ _ _ => false
  | .DictComp _ _ _ _ _ => false
  | _ => true
theorem swaps_no {e : Expr} (h : notComp e = true) (t : Option Expr) (n : Nat) (env : Env) : swapsWith e t n env = pure false := by
  cases e <;> first | rfl | (cases h; done)
/-- a value that is put into several names: no display, or one of constants -/
def notTup (e : Expr) : Bool := match e with
  | .Tuple _ _ _ => false
  | _ => true
section
variable {c : Calls} {k : Nat} {ck : Ck} {X : Cx} {Wx : WX} {e a b : Expr} {f g : Sl → R XV} {pos pos' : Pos}
theorem ok_asg (C : SxOk c k ck X) {i : Nat} {x : Str} (hi : ck.N[i]? = some x) (hx : locB ck.sc x = true) (hn : notComp e = true) (he : OkE X Wx e f) :
    OkS X Wx (.Assign [.Name x pos'] e pos) (fun sl => (f sl).out sl fun z => match z.keep with | some s => some (.nx (sl.set i s)) | none => none) := by
  intro B sl σ A w t
  refine PostR.out (body := fun D v H1 => D.nx (σ.set i (some v)) H1) t (he sl σ A w t.at_) (fun D q => ⟨_, ps_set C.x.nd (by rw [C.x.N]; exact hi) (locB_ok (by rw [C.x.sc]; exact hx)) pe_we (swaps_no hn _ _ _) (.inl (C.fn _)), q⟩) fun z w1 v hz t1 l1 r1 => ?_
  cases hk : z.keep with
  | none => trivial
  | some s =>
    obtain ⟨A', t2⟩ := t.keep t1 r1 hk i
    exact fun D q => q w1 _ A' t2 (WLeS.refl _ _)
/-- a name put to a comprehension, on one line -/
theorem ok_asgC (C : SxOk c k ck X) {i : Nat} {x : Str} (hi : ck.N[i]? = some x) (hx : lclB ck.sc x = true) {scope : Scope} {tt : Tg} {tg it elt : Expr} {ifs : List Expr} {ff : Sl → R XV} {cc : Sl → R Bool} {r : Sl → R Its} {pos2 : Pos} (hl : (pos'.line == pos2.line) = true) (hany : (scope.names.any fun (n, k) => n == x && (k == .local || k == .cell)) = false)
    (hs : notSet it = true) (ht : chkT ck.N (lclB (ck.blk scope).sc) tt tg = true) (hbk : blkC ck.N ck.sc scope (ownOf ck.N tt) = true)
    (hI : OkI X Wx tg it r) (he : ∀ s H C cl fp, OkE (blkX X scope s H C cl fp) noW elt ff)
    (hc : ∀ s H C cl fp sl σ A w, At X.K sl σ A w → PostR X.K noW (fun _ x b => x = b) σ w (cc sl) (weTs (blkX X scope s H C cl fp) ifs σ w.H)) :
    OkS X Wx (.Assign [.Name x pos'] (.ListComp elt [⟨tg, it, ifs, 0⟩] scope pos2) pos) (fun sl => ((r sl).bind (compI tt cc ff (wipeS sl tt.slots))).out sl fun z => match z.keep with | some s => some (.nx (sl.set i s)) | none => none) := by
  have lk : X.env.scope.names.lookup x = some .local := by
    rw [← C.x.sc] at hx
    unfold lclB at hx
    split at hx
    · assumption
    · cases hx
  have P : PS X (.Assign [.Name x pos'] (.ListComp elt [⟨tg, it, ifs, 0⟩] scope pos2) pos) (tAsg (tLc (weI X tg it) (WeGB X scope tg) (WeTB X scope ifs) (WeEB X scope elt) ((ownOf ck.N tt).map (·.2))) (gName i)) :=
    ps_setLc C.x.calm C.x.nd (by rw [C.x.N]; exact hi) lk (sw_true C.kind lk hl hany) pi_we (blkOk_by (by rw [C.x.N, C.x.sc]; exact hbk)) (fun s H Cc cl fp => ⟨fun pins s' σ H' v u Q I rr h => (pg_we (X := blkX X scope s H Cc cl fp)).run pins s' σ H' v u Q I rr (h s H Cc cl fp)⟩)
      (fun s H Cc cl fp => ⟨fun pins s' σ H' Q I h => (pts_we (X := blkX X scope s H Cc cl fp)).run pins s' σ H' Q I (h s H Cc cl fp)⟩)
      (fun s H Cc cl fp => ⟨fun pins s' σ H' Q I h => (pe_we (X := blkX X scope s H Cc cl fp)).run pins s' σ H' Q I (h s H Cc cl fp)⟩)
      (fun x => by cases it <;> first | rfl | (cases hs; done))
  rw [own_ix] at P
  intro B sl σ A w t
  refine PostR.out (body := fun D v H1 => D.nx (σ.set i (some v)) H1) t (ok_compT C.x ht hI he hc sl σ A w t.at_) (fun D q => ⟨_, P, q⟩) fun z w1 v hz t1 l1 r1 => ?_
  cases hk : z.keep with
  | none => trivial
  | some s =>
    obtain ⟨A', t2⟩ := t.keep t1 r1 hk i
    exact fun D q => q w1 _ A' t2 (WLeS.refl _ _)
theorem SxOk.tg (C : SxOk c k ck X) : TgOk ck.N (locB ck.sc) X := ⟨C.x.N, C.x.nd, C.x.calm, fun x hx => ⟨locB_ok (by rw [C.x.sc]; exact hx), .inl (C.fn x)⟩⟩
/-- targets, between statements -/
theorem ok_tgS (C : SxOk c k ck X) {t : Tg} {x : Expr} (h : chkT ck.N (locB ck.sc) t x = true) {B : Addr → Prop} {sl sl' : Sl} {σ : L2.St} {A Cc : List Addr} {w : Wd} {y : XV} {v : V} (at0 : AtS X.K B sl σ A w) (r : XR1 X.K w y v Cc) (ow : Own w Cc) (dj : ∀ a ∈ Cc, a ∉ A ∧ ¬ B a) (e : tgx t y sl = some sl') (Q : L2.St → Hp → Prop) (q : ∀ σ' A', AtS X.K B sl' σ' A' w → Q σ' w.H) : weG X x v σ w.H Q :=
  ok_tg C.tg h at0.at_ r ow (fun a ha => (dj a ha).1) e Q fun σ' A' t2 s2 _ => q σ' A' ⟨t2, fun a ha => (s2 a ha).elim (at0.nb a) fun z => (dj a z).2, at0.bg⟩
/-- no stores exchanged -/
def plainRhs (tg e : Expr) : Bool := match tg, e with
  | .Tuple _ _ _, .Tuple vs _ _ => vs.all (foldedForSure 8)
  | .List _ _, _ => false
  | _, _ => true
theorem swapped_none {tg e : Expr} (h : plainRhs tg e = true) (env : Env) : swappedStores [tg] e env = pure none := by
  by_cases ht : ∃ ts k p, tg = .Tuple ts k p
  · obtain ⟨ts, k, p, rfl⟩ := ht
    by_cases he : ∃ vs k p, e = .Tuple vs k p
    · obtain ⟨vs, k', p', rfl⟩ := he
      have h' : vs.all (foldedForSure 8) = true := h
      unfold swappedStores
      simp only [h']
      split
      · rfl
      · split
        · rfl
        · split
          · rfl
          · rfl
    · cases e <;> first | rfl | exact absurd ⟨_, _, _, rfl⟩ he
  · cases tg <;> first | rfl | exact absurd ⟨_, _, _, rfl⟩ ht | (cases h; done)
theorem unpF_eq (t : Tg) (sl : Sl) (z : XV) : unpF t sl z = (tgx t z sl).map .nx := by
  cases z with
  | cl d => show (tgo t d sl).map Out.nx = _; rw [tgo_tgx]
  | _ => rfl
theorem ok_unp (C : SxOk c k ck X) {t : Tg} {x : Expr} (ht : chkT ck.N (locB ck.sc) t x = true) (hn : notComp e = true) (hw : ∀ env, swappedStores [x] e env = pure none) (he : OkE X Wx e f) :
    OkS X Wx (.Assign [x] e pos) (fun sl => (f sl).out sl (unpF t sl)) := by
  intro B sl σ A w at0
  have h1 : (assignEach [x] X.env).map (·.2) = [assign x X.env] := by rw [assign_cons (chkT_star ht)]; rfl
  refine PostR.out (body := fun D v H1 => weG X x v σ H1 D.nx) at0 (he sl σ A w at0.at_) (fun D q => ⟨_, ps_asg pe_we pg_we (swaps_no hn _ _ _) (hw _) h1, q⟩) fun z w1 v hz t1 l1 r1 => ?_
  rw [unpF_eq]
  cases hg : tgx t z sl with
  | none => trivial
  | some sl' =>
    obtain ⟨Cc, x1, x2, x3⟩ := r1
    exact fun D q => ok_tgS C ht t1 x1 x2 (fun a ha => ⟨fun z => x3 a ha (at0.at_.sl.there a z), fun z => x3 a ha (at0.oldB a z)⟩) hg _ fun σ' A' t2 => q w1 σ' A' t2 (WLeS.refl _ _)
/-- a, b = x, y by way of the stack -/
def parB (k : Ck) (x y : Str) (px py : Pos) (a b : Expr) : Bool :=
  decide (k.sc.names.lookup x = some .local) && decide (k.sc.names.lookup y = some .local) && decide (x ≠ y) && (py.line == px.line) && notStar a && notStar b && !([a, b].all (foldedForSure 8)) && !([a, b].all (constantsAlone 8))
theorem swapped_par {k : Ck} {x y : Str} {px py pt pt2 : Pos} {kt k2 : Nat} {a b : Expr} (h : parB k x y px py a b = true) {env : Env} (hs : env.scope = k.sc) (hk : env.scope.kind = .function) :
    swappedStores [.Tuple [.Name x px, .Name y py] kt pt] (.Tuple [a, b] k2 pt2) env = pure (some [x, y]) := by
  unfold parB at h
  simp only [Bool.and_eq_true, decide_eq_true_eq, Bool.not_eq_true'] at h
  obtain ⟨⟨⟨⟨⟨⟨⟨h1, h2⟩, h3⟩, h4⟩, h5⟩, h6⟩, h7⟩, h8⟩ := h
  have e1 : env.kindOf x = some .local := by show env.scope.names.lookup x = _; rw [hs]; exact h1
  have e2 : env.kindOf y = some .local := by show env.scope.names.lookup y = _; rw [hs]; exact h2
  have bk : env.blockKind = .function := by unfold Env.blockKind; rw [hk]; rfl
  have nd : ([x, y] : List Str).eraseDups.length = 2 := by
    simp [List.eraseDups_cons, Ne.symm h3]
  unfold swappedStores
  simp only [bk, e1, e2, h4, nd, h7, h8, List.length_cons, List.length_nil, List.filterMap_cons, List.filterMap_nil, List.head?_cons, Option.map_some, Option.getD_some, Expr.pos]
  have b1 : ((some NameKind.local : Option NameKind) == some NameKind.local) = true := rfl
  have b3 : (px.line == px.line) = true := beq_self_eq_true _
  simp only [b1, b3, Bool.and_self, if_true, nd, List.length_cons, List.length_nil]
  refine (if_neg ?_).trans ((if_neg ?_).trans ((if_neg ?_).trans ?_))
  · intro z; cases z
  · intro z
    simp only [List.any_cons, List.any_nil, Bool.or_false, Bool.or_eq_true] at z
    rcases z with z | z
    · cases a <;> first | (cases z; done) | (cases h5; done)
    · cases b <;> first | (cases z; done) | (cases h6; done)
  · intro z; cases z
  · rfl
end
end Mo
namespace Mo
open PySem PySem.Spec PyProof.Rows L2
section
variable {c : Calls} {k : Nat} {ck : Ck} {X : Cx} {Wx : WX} {e a b ix : Expr} {f g : Sl → R XV} {pos pos' : Pos}
theorem ok_par (C : SxOk c k ck X) {i j : Nat} {x y : Str} {px py pt pt2 : Pos} {kt k2 : Nat} (hi : ck.N[i]? = some x) (hj : ck.N[j]? = some y) (hb : parB ck x y px py a b = true) (ha : OkE X Wx a f) (hg : OkE X Wx b g) :
    OkS X Wx (.Assign [.Tuple [.Name x px, .Name y py] kt pt] (.Tuple [a, b] k2 pt2) pos) (fun sl => (f sl).out sl fun x => (g sl).out sl fun y => match x, y with
      | .cl d, .cl e => some (.nx ((sl.set i (.cl d)).set j (.cl e)))
      | _, _ => none) := by
  have hb' := hb
  unfold parB at hb'
  simp only [Bool.and_eq_true, decide_eq_true_eq, Bool.not_eq_true'] at hb'
  obtain ⟨⟨⟨⟨⟨⟨⟨h1, h2⟩, h3⟩, h4⟩, h5⟩, h6⟩, h7⟩, h8⟩ := hb'
  have hij : i ≠ j := fun z => by
    subst z
    rw [hi] at hj
    exact h3 (Option.some.inj hj)
  have P : PA X [a, b] (tCons (weE X a) (tCons (weE X b) tNil)) := pa_cons pe_we (pa_cons pe_we pa_nil (star_cons h6 _ _)) (star_cons h5 _ _)
  have Q0 := ps_par (pos := pos) (kt := kt) (k2 := k2) (pt := pt) (pt2 := pt2) C.x.calm C.x.nd (by rw [C.x.N]; exact hi) (by rw [C.x.N]; exact hj) hij (by rw [C.x.sc]; exact h1) (by rw [C.x.sc]; exact h2) P (swapped_par hb C.x.sc C.kind)
  intro B sl σ A w t
  refine PostR.out (body := fun D v H1 => weE X b σ H1 fun u H2 => ∃ v' w', [v, u] = [v', w'] ∧ D.nx ((σ.set i (some v')).set j (some w')) H2) t (ha sl σ A w t.at_) (fun D q => ⟨_, Q0, q⟩) fun z w1 v hz t1 l1 r1 => ?_
  refine PostR.out (body := fun D u H2 => ∃ v' w', [v, u] = [v', w'] ∧ D.nx ((σ.set i (some v')).set j (some w')) H2) t1 (hg sl σ A w1 t1.at_) (fun D q => q) fun z' w2 u hz' t2 l2 r2 => ?_
  cases z with
  | cl d =>
    cases z' with
    | cl d' =>
      obtain ⟨A3, t3⟩ := t2.setCl (r1.mono l2).cl_of i
      obtain ⟨A4, t4⟩ := t3.setCl r2.cl_of j
      exact fun D q => ⟨v, u, rfl, q w2 _ A4 t4 (WLeS.refl _ _)⟩
    | _ => trivial
  | _ => trivial
/-! ### roads in an object -/
theorem ORepL.kid {K : PySem.W.Frag} {F H : Hp} : ∀ {ms : List MO} {vs : List V} {A : List Addr} {j : Nat} {m : MO}, ORepL K F H ms vs A → ms[j]? = some m → ∃ v C, vs[j]? = some v ∧ ORep K F H m v C ∧ (∀ a ∈ C, a ∈ A) ∧ (A.Nodup → C.Nodup ∧
    ∀ F' H' m' C', Sm F F' → ORep K F' H' m' v C' → (∀ a ∈ A, a ∉ C → Sa H H' a) → C'.Nodup → (∀ a ∈ C', a ∈ C ∨ a ∉ A) → ∃ A', ORepL K F' H' (ms.set j m') vs A' ∧ A'.Nodup ∧ ∀ a ∈ A', (a ∈ A ∧ a ∉ C) ∨ a ∈ C')
  | [], _, _, _, _, _, h => by simp at h
  | m0 :: ms, _, _, 0, m, ⟨v, r, A1, A2, e1, e2, e3, e4⟩, h => by
    simp at h; subst h
    subst e1 e4
    refine ⟨v, A1, rfl, e2, fun a ha => List.mem_append_left _ ha, fun nd => ?_⟩
    have nd' := List.nodup_append.mp nd
    refine ⟨nd'.1, fun F' H' m' C' eF ro hk nC hC => ⟨C' ++ A2, ⟨v, r, C', A2, rfl, ro, e3.sm eF (fun a ha => hk a (List.mem_append_right _ ha) fun z => nd'.2.2 a z a ha rfl), rfl⟩, ?_, fun a ha => ?_⟩⟩
    · rw [List.nodup_append]
      refine ⟨nC, nd'.2.1, fun a ha b hb z => ?_⟩
      subst z
      rcases hC a ha with q | q
      · exact nd'.2.2 a q a hb rfl
      · exact q (List.mem_append_right _ hb)
    · rcases List.mem_append.mp ha with q | q
      · exact .inr q
      · exact .inl ⟨List.mem_append_right _ q, fun z => nd'.2.2 a z a q rfl⟩
  | m0 :: ms, _, _, j + 1, m, ⟨v, r, A1, A2, e1, e2, e3, e4⟩, h => by
    subst e1 e4
    obtain ⟨u, C, h1, h2, h3, h4⟩ := ORepL.kid (j := j) e3 (by simpa using h)
    refine ⟨u, C, by simpa using h1, h2, fun a ha => List.mem_append_right _ (h3 a ha), fun nd => ?_⟩
    have nd' := List.nodup_append.mp nd
    obtain ⟨n1, n2⟩ := h4 nd'.2.1
    refine ⟨n1, fun F' H' m' C' eF ro hk nC hC => ?_⟩
    obtain ⟨A', p1, p2, p3⟩ := n2 F' H' m' C' eF ro (fun a ha hc => hk a (List.mem_append_right _ ha) hc) nC (fun a ha => (hC a ha).imp id fun z q => z (List.mem_append_right _ q))
    refine ⟨A1 ++ A', ⟨v, r, A1, A', rfl, e2.sm eF (fun a ha => hk a (List.mem_append_left _ ha) fun z => nd'.2.2 a ha a (h3 a z) rfl), p1, rfl⟩, ?_, fun a ha => ?_⟩
    · rw [List.nodup_append]
      refine ⟨nd'.1, p2, fun a ha b hb z => ?_⟩
      subst z
      rcases p3 a hb with q | q
      · exact nd'.2.2 a ha a q.1 rfl
      · rcases hC a q with y | y
        · exact nd'.2.2 a ha a (h3 a y) rfl
        · exact y (List.mem_append_left _ ha)
    · rcases List.mem_append.mp ha with q | q
      · exact .inl ⟨List.mem_append_left _ q, fun z => nd'.2.2 a q a (h3 a z) rfl⟩
      · rcases p3 a q with y | y
        · exact .inl ⟨List.mem_append_right _ y.1, y.2⟩
        · exact .inr y
/-- the value at the end of a road -/
def OPath (K : PySem.W.Frag) (H : Hp) : MO → V → List Nat → V → Prop
  | _, v, [], v1 => v1 = v
  | m, v, j :: π, v1 => ∃ a vs ms mj vj, m.ms = some ms ∧ v = .ref a ∧ NodR K H m a vs ∧ ms[j]? = some mj ∧ vs[j]? = some vj ∧ OPath K H mj vj π v1
theorem OPath.mono {K : PySem.W.Frag} {H H' : Hp} (e : Sm H H') : ∀ {m : MO} {v : V} {π : List Nat} {v1 : V}, OPath K H m v π v1 → OPath K H' m v π v1
  | _, _, [], _, h => h
  | _, _, _ :: _, _, ⟨a, vs, ms, mj, vj, h1, h2, h3, h4, h5, h6⟩ => ⟨a, vs, ms, mj, vj, h1, h2, h3.sa (e a), h4, h5, OPath.mono e h6⟩
theorem at_append : ∀ {m : MO} {π : List Nat} {j : Nat} {m1 m2 : MO} {ms : List MO}, m.at_ π = some m1 → m1.ms = some ms → ms[j]? = some m2 → m.at_ (π ++ [j]) = some m2
  | m, [], j, m1, m2, ms, h, h1, h2 => by
    unfold MO.at_ at h
    cases h
    show (m.ms.bind fun ms => ms[j]?).bind (fun m' => m'.at_ []) = some m2
    rw [h1]
    simp only [Option.bind_some, h2]
    unfold MO.at_; rfl
  | m, i :: π, j, m1, m2, ms, h, h1, h2 => by
    unfold MO.at_ at h
    show (m.ms.bind fun ms => ms[i]?).bind (fun m' => m'.at_ (π ++ [j])) = some m2
    cases hq : (m.ms.bind fun ms => ms[i]?) with
    | none => rw [hq] at h; cases h
    | some m' =>
      rw [hq] at h
      simp only [Option.bind_some] at h ⊢
      exact at_append h h1 h2
theorem OPath.snoc {K : PySem.W.Frag} {H : Hp} : ∀ {m : MO} {v : V} {π : List Nat} {v1 : V} {m1 : MO} {ms : List MO} {j : Nat} {a : Addr} {vs : List V} {mj : MO} {vj : V}, OPath K H m v π v1 → m.at_ π = some m1 → m1.ms = some ms → v1 = .ref a → NodR K H m1 a vs → ms[j]? = some mj → vs[j]? = some vj → OPath K H m v (π ++ [j]) vj
  | m, v, [], v1, m1, ms, j, a, vs, mj, vj, h, h0, h1, h2, h3, h4, h5 => by
    unfold MO.at_ at h0
    cases h0
    have h' : v1 = v := h
    subst h'
    exact ⟨a, vs, ms, mj, vj, h1, h2, h3, h4, h5, rfl⟩
  | m, v, i :: π, v1, m1, ms, j, a, vs, mj, vj, ⟨a0, vs0, ms0, mi, vi, g1, g2, g3, g4, g5, g6⟩, h0, h1, h2, h3, h4, h5 => by
    unfold MO.at_ at h0
    rw [g1] at h0
    simp only [Option.bind_some, g4] at h0
    exact ⟨a0, vs0, ms0, mi, vi, g1, g2, g3, g4, g5, OPath.snoc g6 h0 h1 h2 h3 h4 h5⟩
/-- the part at the end of a road, and the whole behind a change of it -/
theorem ORep.path {K : PySem.W.Frag} {F H : Hp} : ∀ {π : List Nat} {m : MO} {v : V} {A : List Addr} {m1 : MO} {v1 : V}, ORep K F H m v A → A.Nodup → OPath K H m v π v1 → m.at_ π = some m1 → ∃ C, ORep K F H m1 v1 C ∧ (∀ a ∈ C, a ∈ A) ∧ C.Nodup ∧
    ∀ F' H' m2 C', Sm F F' → ORep K F' H' m2 v1 C' → (∀ a ∈ A, a ∉ C → Sa H H' a) → C'.Nodup → (∀ a ∈ C', a ∈ C ∨ a ∉ A) → ∃ A', ORep K F' H' (m.put π m2) v A' ∧ A'.Nodup ∧ ∀ a ∈ A', (a ∈ A ∧ a ∉ C) ∨ a ∈ C'
  | [], m, v, A, m1, v1, h, nd, hp, ha => by
    unfold MO.at_ at ha
    cases ha
    have hp' : v1 = v := hp
    subst hp'
    exact ⟨A, h, fun _ h => h, nd, fun F' H' m2 C' _ ro _ nC _ => ⟨C', by unfold MO.put; exact ro, nC, fun a ha => .inr ha⟩⟩
  | j :: π, m, v, A, m1, v1, h, nd, ⟨a, vs, ms, mj, vj, g1, g2, g3, g4, g5, g6⟩, ha => by
    unfold MO.at_ at ha
    rw [g1] at ha
    simp only [Option.bind_some, g4] at ha
    obtain ⟨a', vs', B, e1, e2, e3, e4⟩ := (ORep.nod g1).mp h
    rw [g2] at e1
    cases e1
    obtain rfl := e2.inj g3
    subst e4
    have nd' := List.nodup_cons.mp nd
    obtain ⟨u, C1, k1, k2, k3, k4⟩ := ORepL.kid e3 g4
    rw [g5] at k1
    cases k1
    obtain ⟨n1, n2⟩ := k4 nd'.2
    obtain ⟨C, p1, p2, p3, p4⟩ := ORep.path k2 n1 g6 ha
    refine ⟨C, p1, fun b hb => List.mem_cons_of_mem _ (k3 b (p2 b hb)), p3, fun F' H' m2 C' eF ro hk nC hC => ?_⟩
    have aC : a ∉ C := fun z => nd'.1 (k3 a (p2 a z))
    obtain ⟨A1, q1, q2, q3⟩ := p4 F' H' m2 C' eF ro (fun b hb hc => hk b (List.mem_cons_of_mem _ (k3 b hb)) hc) nC (fun b hb => (hC b hb).imp id fun z y => z (List.mem_cons_of_mem _ (k3 b y)))
    have hA1 : ∀ b ∈ A1, b ∈ C1 ∨ b ∉ B := fun b hb => by
      rcases q3 b hb with y | y
      · exact .inl y.1
      · rcases hC b y with z | z
        · exact .inl (p2 b z)
        · exact .inr fun w => z (List.mem_cons_of_mem _ w)
    obtain ⟨A2, r1, r2, r3⟩ := n2 F' H' (mj.put π m2) A1 eF q1 (fun b hb hc => hk b (List.mem_cons_of_mem _ hb) fun z => hc (p2 b z)) q2 hA1
    have back : ∀ b ∈ A2, (b ∈ B ∧ b ∉ C) ∨ b ∈ C' := fun b hb => by
      rcases r3 b hb with y | y
      · exact .inl ⟨y.1, fun z => y.2 (p2 b z)⟩
      · rcases q3 b y with z | z
        · exact .inl ⟨k3 b z.1, z.2⟩
        · exact .inr z
    have hput : m.put (j :: π) m2 = m.wth (ms.set j (mj.put π m2)) := by
      show (match m.ms with
        | some ms => match ms[j]? with
          | some mj => m.wth (ms.set j (mj.put π m2))
          | none => m
        | none => m) = _
      rw [g1]
      simp only [g4]
    refine ⟨a :: A2, ?_, List.nodup_cons.mpr ⟨fun z => ?_, r2⟩, fun b hb => ?_⟩
    · rw [hput]
      exact (ORep.nod (MO.wth_ms g1)).mpr ⟨a, vs', A2, g2, (g3.sa (hk a List.mem_cons_self aC)).wth, r1, rfl⟩
    · rcases back a z with y | y
      · exact nd'.1 y.1
      · rcases hC a y with w | w
        · exact aC w
        · exact w List.mem_cons_self
    · rcases List.mem_cons.mp hb with y | y
      · subst y; exact .inl ⟨List.mem_cons_self, aC⟩
      · rcases back b y with z | z
        · exact .inl ⟨List.mem_cons_of_mem _ z.1, z.2⟩
        · exact .inr z
/-! ### slots and roads -/
def slotM (sl : Sl) (i : Nat) : Option MO := match sl[i]? with
  | some (.ow m) => some m
  | some (.bo _ m) => some m
  | _ => none
theorem SvR.keep {K : PySem.W.Frag} {w w2 : Wd} (hF : Ex w.F w2.F) (hG : Ex w.G w2.G) (hb : w2.bs = w.bs) {s : SV} {o : Option V} {A : List Addr} (h : SvR K w s o A) (hk : ∀ a ∈ A, Sa w.H w2.H a) : SvR K w2 s o A := by
  cases s with
  | no => exact h
  | cl d => obtain ⟨v, e1, e2, e3⟩ := h; exact ⟨v, e1, e2.mono hF, e3⟩
  | lk m => obtain ⟨v, B, e1, e2, e3⟩ := h; exact ⟨v, B, e1, e2.mono hF (fun a _ o q => hG a o q), e3⟩
  | ow m => obtain ⟨v, e1, e2⟩ := h; exact ⟨v, e1, e2.sm hF.sm hk⟩
  | bo i m => obtain ⟨v, e1, e0, e2⟩ := h; exact ⟨v, e1, by rw [hb]; exact e0, e2.sm hF.sm hk⟩
theorem SlR.keep {K : PySem.W.Frag} {w w2 : Wd} (hF : Ex w.F w2.F) (hG : Ex w.G w2.G) (hb : w2.bs = w.bs) : ∀ {sl : Sl} {σ : L2.St} {A : List Addr}, SlR K w sl σ A → (∀ a ∈ A, Sa w.H w2.H a) → SlR K w2 sl σ A
  | [], _, _, h, _ => h
  | _ :: _, _, _, ⟨o, σ', A1, A2, e1, e2, e3, e4⟩, hk => ⟨o, σ', A1, A2, e1, e2.keep hF hG hb (fun a ha => hk a (by rw [e4]; exact List.mem_append_left _ ha)), SlR.keep hF hG hb e3 (fun a ha => hk a (by rw [e4]; exact List.mem_append_right _ ha)), e4⟩
/-- the slots behind a change of what slot i owns -/
theorem SlR.upd {K : PySem.W.Frag} {w w2 : Wd} (hF : Ex w.F w2.F) (hG : Ex w.G w2.G) (hb : w2.bs = w.bs) : ∀ {sl : Sl} {σ : L2.St} {A : List Addr} {i : Nat} {m : MO}, SlR K w sl σ A → slotM sl i = some m → A.Nodup →
    ∃ v C, σ[i]? = some (some v) ∧ ORep K w.F w.H m v C ∧ (∀ a ∈ C, a ∈ A) ∧ C.Nodup ∧ ∀ π m2 C', ORep K w2.F w2.H (m.put π m2) v C' → C'.Nodup → (∀ a ∈ A, a ∉ C → Sa w.H w2.H a) → (∀ a ∈ C', a ∈ C ∨ a ∉ A) →
      ∃ A', SlR K w2 (putS sl i π m2) σ A' ∧ A'.Nodup ∧ ∀ a ∈ A', (a ∈ A ∧ a ∉ C) ∨ a ∈ C'
  | [], _, _, _, _, _, h, _ => by simp [slotM] at h
  | s :: r, _, _, 0, m, ⟨o, σ', A1, A2, e1, e2, e3, e4⟩, h, nd => by
    subst e1 e4
    have nd' := List.nodup_append.mp nd
    have fin : ∀ {v : V} (mk : MO → SV), o = some v → ORep K w.F w.H m v A1 → (∀ m' C', ORep K w2.F w2.H m' v C' → SvR K w2 (mk m') o C') → (∀ π m2, putS (s :: r) 0 π m2 = mk (m.put π m2) :: r) →
        ∃ v C, (o :: σ')[0]? = some (some v) ∧ ORep K w.F w.H m v C ∧ (∀ a ∈ C, a ∈ A1 ++ A2) ∧ C.Nodup ∧ ∀ π m2 C', ORep K w2.F w2.H (m.put π m2) v C' → C'.Nodup → (∀ a ∈ A1 ++ A2, a ∉ C → Sa w.H w2.H a) → (∀ a ∈ C', a ∈ C ∨ a ∉ A1 ++ A2) →
          ∃ A', SlR K w2 (putS (s :: r) 0 π m2) (o :: σ') A' ∧ A'.Nodup ∧ ∀ a ∈ A', (a ∈ A1 ++ A2 ∧ a ∉ C) ∨ a ∈ C' := fun {v} mk eo ro hm hp => by
      subst eo
      refine ⟨v, A1, rfl, ro, fun a ha => List.mem_append_left _ ha, nd'.1, fun π m2 C' ro' n' hk hd => ⟨C' ++ A2, ?_, ?_, fun a ha => ?_⟩⟩
      · rw [hp]
        exact ⟨some v, σ', C', A2, rfl, hm _ _ ro', e3.keep hF hG hb (fun a ha => hk a (List.mem_append_right _ ha) fun z => nd'.2.2 a z a ha rfl), rfl⟩
      · rw [List.nodup_append]
        refine ⟨n', nd'.2.1, fun a ha b hb z => ?_⟩
        subst z
        rcases hd a ha with q | q
        · exact nd'.2.2 a q a hb rfl
        · exact q (List.mem_append_right _ hb)
      · rcases List.mem_append.mp ha with q | q
        · exact .inr q
        · exact .inl ⟨List.mem_append_right _ q, fun z => nd'.2.2 a z a q rfl⟩
    cases s with
    | ow m0 =>
      cases h
      obtain ⟨v, eo, ro⟩ := e2
      exact fin .ow eo ro (fun m' C' ro' => ⟨v, eo, ro'⟩) fun π m2 => rfl
    | bo i m0 =>
      cases h
      obtain ⟨v, eo, e0, ro⟩ := e2
      exact fin (.bo i) eo ro (fun m' C' ro' => ⟨v, eo, by rw [hb]; exact e0, ro'⟩) fun π m2 => rfl
    | no => cases h
    | cl _ => cases h
    | lk _ => cases h
  | s :: r, _, _, i + 1, m, ⟨o, σ', A1, A2, e1, e2, e3, e4⟩, h, nd => by
    subst e1 e4
    have nd' := List.nodup_append.mp nd
    have h' : slotM r i = some m := by
      unfold slotM at h ⊢
      simpa using h
    obtain ⟨v, C, h1, h2, h3, h4, h5⟩ := SlR.upd hF hG hb e3 h' nd'.2.1
    refine ⟨v, C, by simpa using h1, h2, fun a ha => List.mem_append_right _ (h3 a ha), h4, fun π m2 C' ro n' hk hd => ?_⟩
    obtain ⟨A', p1, p2, p3⟩ := h5 π m2 C' ro n' (fun a ha => hk a (List.mem_append_right _ ha)) (fun a ha => (hd a ha).imp id fun z q => z (List.mem_append_right _ q))
    have hp : putS (s :: r) (i + 1) π m2 = s :: putS r i π m2 := by
      unfold putS
      rw [List.getElem?_cons_succ]
      cases q : r[i]? with
      | none => rfl
      | some s0 => cases s0 <;> rfl
    refine ⟨A1 ++ A', ?_, ?_, fun a ha => ?_⟩
    · rw [hp]
      exact ⟨o, σ', A1, A', rfl, e2.keep hF hG hb (fun a ha => hk a (List.mem_append_left _ ha) fun z => nd'.2.2 a ha a (h3 a z) rfl), p1, rfl⟩
    · rw [List.nodup_append]
      refine ⟨nd'.1, p2, fun a ha b hb z => ?_⟩
      subst z
      rcases p3 a hb with q | q
      · exact nd'.2.2 a ha a q.1 rfl
      · rcases hd a q with y | y
        · exact nd'.2.2 a ha a (h3 a y) rfl
        · exact y (List.mem_append_left _ ha)
    · rcases List.mem_append.mp ha with q | q
      · exact .inl ⟨List.mem_append_left _ q, fun z => nd'.2.2 a q a (h3 a z) rfl⟩
      · rcases p3 a q with y | y
        · exact .inl ⟨List.mem_append_right _ y.1, y.2⟩
        · exact .inr y
/-- where a place is: slot, road, what stands there, its value -/
structure PtR (K : PySem.W.Frag) (sl : Sl) (σ : L2.St) (w : Wd) (p : Pt) (v1 : V) : Prop where
  ex : ∃ m v0, slotM sl p.i = some m ∧ σ[p.i]? = some (some v0) ∧ OPath K w.H m v0 p.π v1 ∧ m.at_ p.π = some p.m
theorem PtR.mono {K : PySem.W.Frag} {sl : Sl} {σ : L2.St} {w w' : Wd} {p : Pt} {v1 : V} (l : WLe w w') (h : PtR K sl σ w p v1) : PtR K sl σ w' p v1 := by
  obtain ⟨m, v0, h1, h2, h3, h4⟩ := h.ex
  exact ⟨m, v0, h1, h2, h3.mono l.h.sm, h4⟩
/-- what a place holds -/
theorem PtR.rep {K : PySem.W.Frag} {sl : Sl} {σ : L2.St} {A : List Addr} {w : Wd} {p : Pt} {v1 : V} (t : At K sl σ A w) (h : PtR K sl σ w p v1) : ∃ C, ORep K w.F w.H p.m v1 C ∧ (∀ a ∈ C, a ∈ A) ∧ C.Nodup := by
  obtain ⟨m, v0, h1, h2, h3, h4⟩ := h.ex
  obtain ⟨v, C0, g1, g2, g3, g4, _⟩ := SlR.upd (w2 := w) (.refl _) (.refl _) rfl t.sl h1 t.ow.nd
  rw [h2] at g1
  cases g1
  obtain ⟨C, p1, p2, p3, _⟩ := ORep.path g2 g4 h3 h4
  exact ⟨C, p1, fun a ha => g3 a (p2 a ha), p3⟩
/-- the place behind a change of the object at p -/
def Wd.put (w : Wd) (p : Addr) (o : HO) : Wd := ⟨w.F, w.G, upd w.H p o, w.bs⟩
theorem Wd.put_ok {w : Wd} (k : WOk w) {p : Addr} {o : HO} (n : w.G p = none) : WOk (w.put p o) := ⟨k.fg, k.gh.mut n⟩
theorem own_put {w : Wd} {p : Addr} {o : HO} {A : List Addr} (h : ∀ a ∈ A, w.G a = none ∧ ∀ o u, w.H a ≠ some (.frz o u)) (hf : ∀ o' u, o ≠ .frz o' u) : ∀ a ∈ A, (w.put p o).G a = none ∧ ∀ o' u, (w.put p o).H a ≠ some (.frz o' u) := fun a ha => by
  refine ⟨(h a ha).1, fun o' u q => ?_⟩
  have q' : upd w.H p o a = some (.frz o' u) := q
  by_cases e : a = p
  · subst e; rw [upd_same] at q'; exact hf o' u (Option.some.inj q')
  · rw [upd_ne e] at q'; exact (h a ha).2 o' u q'
theorem rd_own {w : Wd} {a : Addr} {u : HO} (h : Rd w.H a u) (n : ∀ o u, w.H a ≠ some (.frz o u)) : w.H a = some u := by
  rcases h with h | ⟨o, h⟩
  · exact h
  · exact absurd h (n _ _)
/-- the thing at a place is changed -/
theorem AtS.chg {K : PySem.W.Frag} {B : Addr → Prop} {sl : Sl} {σ : L2.St} {A : List Addr} {w : Wd} (t : AtS K B sl σ A w) {p : Pt} {v1 : V} (h : PtR K sl σ w p v1) : ∃ C, ORep K w.F w.H p.m v1 C ∧ (∀ a ∈ C, a ∈ A) ∧ C.Nodup ∧
    ∀ w2 m2 C2, WOk w2 → WLeS B w w2 → (∀ a ∈ A, a ∉ C → ∀ o, w.H a = some o → w2.H a = some o) → (∀ a ∈ A, a ∉ C → w2.G a = none) → ORep K w2.F w2.H m2 v1 C2 → Own w2 C2 → (∀ a ∈ C2, a ∈ C ∨ (a ∉ A ∧ ¬ B a)) →
      ∃ A', AtS K B (putS sl p.i p.π m2) σ A' w2 ∧ ∀ a ∈ A', (a ∈ A ∧ a ∉ C) ∨ a ∈ C2 := by
  obtain ⟨m, v0, h1, h2, h3, h4⟩ := h.ex
  obtain ⟨v, C0, g1, g2, g3, g4, _⟩ := SlR.upd (w2 := w) (.refl _) (.refl _) rfl t.at_.sl h1 t.at_.ow.nd
  rw [h2] at g1
  cases g1
  obtain ⟨C, p1, p2, p3, p4⟩ := ORep.path g2 g4 h3 h4
  refine ⟨C, p1, fun a ha => g3 a (p2 a ha), p3, fun w2 m2 C2 k2 l2 hk hg ro ow hd => ?_⟩
  obtain ⟨v', C0', f1, f2, f3, f4, f5⟩ := SlR.upd (w2 := w2) l2.f l2.g l2.bs t.at_.sl h1 t.at_.ow.nd
  rw [h2] at f1
  cases f1
  obtain rfl := g2.addrs f2
  have ks : ∀ a ∈ A, a ∉ C → Sa w.H w2.H a := fun a ha hc => Sa.of (hk a ha hc)
  obtain ⟨A1, q1, q2, q3⟩ := p4 w2.F w2.H m2 C2 l2.f.sm ro (fun a ha hc => ks a (g3 a ha) hc) ow.nd (fun a ha => (hd a ha).imp id fun z y => z.1 (g3 a y))
  obtain ⟨A', r1, r2, r3⟩ := f5 p.π m2 A1 q1 q2 (fun a ha hc => ks a ha fun z => hc (p2 a z)) (fun a ha => by
    rcases q3 a ha with y | y
    · exact .inl y.1
    · rcases hd a y with z | z
      · exact .inl (p2 a z)
      · exact .inr z.1)
  have back : ∀ a ∈ A', (a ∈ A ∧ a ∉ C) ∨ a ∈ C2 := fun a ha => by
    rcases r3 a ha with y | y
    · exact .inl ⟨y.1, fun z => y.2 (p2 a z)⟩
    · rcases q3 a y with z | z
      · exact .inl ⟨g3 a z.1, z.2⟩
      · exact .inr z
  refine ⟨A', ⟨⟨k2, r1, r2, fun a ha => ?_⟩, fun a ha => ?_, fun a b => ex_some l2.g (t.bg a b)⟩, back⟩
  · rcases back a ha with y | y
    · refine ⟨hg a y.1 y.2, fun o u z => ?_⟩
      cases q : w.H a with
      | none => exact t.at_.sl.there a y.1 q
      | some o' =>
        have := hk a y.1 y.2 o' q
        rw [z] at this
        cases this
        exact (t.at_.ow.no a y.1).2 _ _ q
    · exact ow.no a y
  · rcases back a ha with y | y
    · exact t.nb a y.1
    · rcases hd a y with z | z
      · exact t.nb a (g3 a (p2 a z))
      · exact z.2
/-- .. by a store to its own object -/
theorem AtS.put {K : PySem.W.Frag} {B : Addr → Prop} {sl : Sl} {σ : L2.St} {A : List Addr} {w : Wd} (t : AtS K B sl σ A w) {p : Pt} {v1 : V} (h : PtR K sl σ w p v1) {ms : List MO} (hm : p.m.ms = some ms) :
    ∃ a vs C, v1 = .ref a ∧ NodR K w.H p.m a vs ∧ (∀ o u, w.H a ≠ some (.frz o u)) ∧ ORepL K w.F w.H ms vs C ∧ C.Nodup ∧ (∀ b ∈ C, b ∈ A ∧ b ≠ a) ∧
      ∀ m2 ms2 ho vs2 C2, m2.ms = some ms2 → (∀ H', H' a = some ho → NodR K H' m2 a vs2) → (∀ o u, ho ≠ .frz o u) → ORepL K w.F w.H ms2 vs2 C2 → C2.Nodup → (∀ b ∈ C2, b ∈ C ∨ (b ∉ A ∧ ¬ B b ∧ w.G b = none ∧ ∀ o u, w.H b ≠ some (.frz o u))) →
        ∃ A', AtS K B (putS sl p.i p.π m2) σ A' (w.put a ho) ∧ WLeS B w (w.put a ho) ∧ ∀ b ∈ A', b ∈ A ∨ b ∈ C2 := by
  obtain ⟨C0, p1, p2, p3, p4⟩ := t.chg h
  obtain ⟨a, vs, C, e1, e2, e3, e4⟩ := (ORep.nod hm).mp p1
  subst e4
  have nd := List.nodup_cons.mp p3
  have aA : a ∈ A := p2 a List.mem_cons_self
  have ga := (t.at_.ow.no a aA).1
  have na : ∀ b ∈ C, b ∈ A ∧ b ≠ a := fun b hb => ⟨p2 b (List.mem_cons_of_mem _ hb), fun z => nd.1 (z ▸ hb)⟩
  refine ⟨a, vs, C, e1, e2, (t.at_.ow.no a aA).2, e3, nd.2, na, fun m2 ms2 ho vs2 C2 hm2 hn hf ro nC hC => ?_⟩
  have aC2 : a ∉ C2 := fun z => by
    rcases hC a z with y | y
    · exact nd.1 y
    · exact y.1 aA
  have l2 : WLeS B w (w.put a ho) := ⟨.refl _, .refl _, fun _ _ h => h, rfl⟩
  obtain ⟨A', r1, r2⟩ := p4 (w.put a ho) m2 (a :: C2) (Wd.put_ok t.at_.ok ga) l2 (fun b hb hc o z => by
      show upd w.H a ho b = some o
      rw [upd_ne (fun q => hc (by rw [q]; exact List.mem_cons_self))]; exact z) (fun b hb hc => (t.at_.ow.no b hb).1)
    ((ORep.nod hm2).mpr ⟨a, vs2, C2, e1, hn _ upd_same, ro.mono (.refl _) (fun b hb o z => by
      show upd w.H a ho b = some o
      rw [upd_ne (by rintro rfl; exact aC2 hb)]; exact z), rfl⟩)
    ⟨List.nodup_cons.mpr ⟨aC2, nC⟩, own_put (fun b hb => by
      rcases List.mem_cons.mp hb with y | y
      · subst y; exact t.at_.ow.no b aA
      · rcases hC b y with z | z
        · exact t.at_.ow.no b (na b z).1
        · exact z.2.2) hf⟩ (fun b hb => by
      rcases List.mem_cons.mp hb with y | y
      · subst y; exact .inl List.mem_cons_self
      · rcases hC b y with z | z
        · exact .inl (List.mem_cons_of_mem _ z)
        · exact .inr ⟨z.1, z.2.1⟩)
  refine ⟨A', r1, l2, fun b hb => ?_⟩
  rcases r2 b hb with y | y
  · exact .inl y.1
  · rcases List.mem_cons.mp y with z | z
    · subst z; exact .inl aA
    · exact .inr z
theorem pe_slot (C : CxOk c k ck X) {i : Nat} {x : Str} (hN : ck.N[i]? = some x) (hv : visB ck.sc x = true) (hn : nameOk x = true) : PE X (.Name x pos) (tVar i) :=
  pe_var (by rw [C.N]; exact hN) (visB_ok (by rw [C.sc]; exact hv)) (nameOk_d hn).1 (nameOk_d hn).2.1
end
end Mo
namespace Mo
open PySem PySem.Spec PyProof.Rows L2
/-! ### rows of objects, cut and put together -/
theorem ORepL.split {K : PySem.W.Frag} {F H : Hp} : ∀ {ms : List MO} {vs : List V} {A : List Addr} (n : Nat), ORepL K F H ms vs A → ∃ A1 A2, A = A1 ++ A2 ∧ ORepL K F H (ms.take n) (vs.take n) A1 ∧ ORepL K F H (ms.drop n) (vs.drop n) A2
  | [], vs, A, n, ⟨e1, e2⟩ => by subst e1 e2; exact ⟨[], [], rfl, by simp only [List.take_nil]; exact ⟨rfl, rfl⟩, by simp only [List.drop_nil]; exact ⟨rfl, rfl⟩⟩
  | m :: ms, vs, A, 0, h => ⟨[], A, rfl, ⟨rfl, rfl⟩, h⟩
  | m :: ms, _, _, n + 1, ⟨v, r, A1, A2, e1, e2, e3, e4⟩ => by
    subst e1 e4
    obtain ⟨B1, B2, rfl, h1, h2⟩ := ORepL.split n e3
    exact ⟨A1 ++ B1, B2, by simp, ⟨v, _, A1, B1, rfl, e2, h1, rfl⟩, h2⟩
theorem ORepL.one {K : PySem.W.Frag} {F H : Hp} {m : MO} {v : V} {A : List Addr} (h : ORep K F H m v A) : ORepL K F H [m] [v] A := ⟨v, [], A, [], rfl, h, ⟨rfl, rfl⟩, (List.append_nil A).symm⟩
theorem ORepL.setAt {K : PySem.W.Frag} {F H : Hp} {ms : List MO} {vs : List V} {A : List Addr} (h : ORepL K F H ms vs A) (nd : A.Nodup) {j : Nat} (hj : j < ms.length) {m : MO} {v : V} {C : List Addr} (hm : ORep K F H m v C) (nC : C.Nodup) (hd : ∀ a ∈ C, a ∉ A) :
    ∃ A', ORepL K F H (ms.set j m) (vs.set j v) A' ∧ A'.Nodup ∧ ∀ a ∈ A', a ∈ A ∨ a ∈ C := by
  obtain ⟨A1, A2, rfl, h1, h2⟩ := h.split j
  obtain ⟨A3, A4, rfl, h3, h4⟩ := h2.split 1
  have n1 := List.nodup_append.mp nd
  have n2 := List.nodup_append.mp n1.2.1
  rw [List.drop_drop] at h4
  rw [List.drop_drop] at h4
  refine ⟨A1 ++ (C ++ A4), ?_, ?_, fun a ha => ?_⟩
  · rw [List.set_eq_take_append_cons_drop, List.set_eq_take_append_cons_drop, if_pos hj, if_pos (by rw [← h.length]; exact hj)]
    exact h1.append ((ORepL.one hm).append h4)
  · rw [List.nodup_append]
    refine ⟨n1.1, ?_, fun a ha b hb z => ?_⟩
    · rw [List.nodup_append]
      exact ⟨nC, n2.2.1, fun a ha b hb z => by subst z; exact hd a ha (List.mem_append_right _ (List.mem_append_right _ hb))⟩
    · subst z
      rcases List.mem_append.mp hb with q | q
      · exact hd a q (List.mem_append_left _ ha)
      · exact n1.2.2 a ha a (List.mem_append_right _ q) rfl
  · rcases List.mem_append.mp ha with q | q
    · exact .inl (List.mem_append_left _ q)
    · rcases List.mem_append.mp q with q | q
      · exact .inr q
      · exact .inl (List.mem_append_right _ (List.mem_append_right _ q))
theorem ORepL.add {K : PySem.W.Frag} {F H : Hp} {ms : List MO} {vs : List V} {A : List Addr} (h : ORepL K F H ms vs A) (nd : A.Nodup) {m : MO} {v : V} {C : List Addr} (hm : ORep K F H m v C) (nC : C.Nodup) (hd : ∀ a ∈ C, a ∉ A) :
    ∃ A', ORepL K F H (ms ++ [m]) (vs ++ [v]) A' ∧ A'.Nodup ∧ ∀ a ∈ A', a ∈ A ∨ a ∈ C :=
  ⟨A ++ C, h.append (.one hm), by
    rw [List.nodup_append]
    exact ⟨nd, nC, fun a ha b hb z => by subst z; exact hd a hb ha⟩, fun a ha => List.mem_append.mp ha⟩
theorem ORepL.rev {K : PySem.W.Frag} {F H : Hp} : ∀ {ms : List MO} {vs : List V} {A : List Addr}, ORepL K F H ms vs A → A.Nodup → ∃ A', ORepL K F H ms.reverse vs.reverse A' ∧ A'.Nodup ∧ ∀ a, a ∈ A' ↔ a ∈ A
  | [], _, _, ⟨e1, e2⟩, _ => by subst e1 e2; exact ⟨[], ⟨rfl, rfl⟩, List.nodup_nil, fun a => Iff.rfl⟩
  | m :: ms, _, _, ⟨v, r, A1, A2, e1, e2, e3, e4⟩, nd => by
    subst e1 e4
    have n1 := List.nodup_append.mp nd
    obtain ⟨A', h1, h2, h3⟩ := ORepL.rev e3 n1.2.1
    rw [List.reverse_cons, List.reverse_cons]
    refine ⟨A' ++ A1, h1.append (.one e2), ?_, fun a => ?_⟩
    · rw [List.nodup_append]
      exact ⟨h2, n1.1, fun a ha b hb z => by subst z; exact n1.2.2 a hb a ((h3 a).mp ha) rfl⟩
    · rw [List.mem_append, List.mem_append, h3 a]
      exact Or.comm
/-! ### places -/
def OkP (X : Cx) (Wx : WX) (e : Expr) (f : Sl → R Pt) : Prop := ∀ sl σ A w, At X.K sl σ A w → PostR X.K Wx (fun w' p v1 => PtR X.K sl σ w' p v1) σ w (f sl) (weE X e σ w.H)
section
variable {K : PySem.W.Frag} {B : Addr → Prop} {sl : Sl} {σ : L2.St} {A : List Addr} {w : Wd}
theorem PtR.kid (t : At K sl σ A w) {p q : Pt} {v1 : V} (h : PtR K sl σ w p v1) {j : Nat} (e : p.kid j = .ok q) : ∃ a vs u, v1 = .ref a ∧ NodR K w.H p.m a vs ∧ vs[j]? = some u ∧ PtR K sl σ w q u := by
  unfold Pt.kid at e
  cases hm : p.m.ms with
  | none => rw [hm] at e; cases e
  | some ms =>
    rw [hm] at e
    simp only at e
    cases hj : ms[j]? with
    | none => rw [hj] at e; cases e
    | some mj =>
      rw [hj] at e
      cases e
      obtain ⟨C, r1, _, _⟩ := h.rep t
      obtain ⟨a, vs, C', e1, e2, e3, e4⟩ := (ORep.nod hm).mp r1
      obtain ⟨u, _, g1, _, _⟩ := e3.get hj
      obtain ⟨m0, v0, h1, h2, h3, h4⟩ := h.ex
      exact ⟨a, vs, u, e1, e2, g1, ⟨m0, v0, h1, h2, OPath.snoc h3 h4 hm e1 e2 hj g1, at_append h4 hm hj⟩⟩
theorem PtR.slot (t : At K sl σ A w) {i : Nat} {p : Pt} (e : ptV sl i = .ok p) : ∃ v, σ[i]? = some (some v) ∧ PtR K sl σ w p v := by
  have key : ∀ {m : MO}, slotM sl i = some m → p = ⟨i, [], m⟩ → ∃ v, σ[i]? = some (some v) ∧ PtR K sl σ w p v := fun {m} h1 h2 => by
    subst h2
    obtain ⟨v, C0, g1, _⟩ := SlR.upd (w2 := w) (.refl _) (.refl _) rfl t.sl h1 t.ow.nd
    exact ⟨v, g1, ⟨m, v, h1, g1, rfl, by unfold MO.at_; rfl⟩⟩
  unfold ptV at e
  split at e
  · rename_i m hm; cases e; exact key (by unfold slotM; rw [hm]) rfl
  · rename_i i' m hm; cases e; exact key (by unfold slotM; rw [hm]) rfl
  · cases e
/-- a new thing that is put somewhere -/
theorem item_own {w0 : Wd} {A0 : List Addr} (t0 : AtS K B sl σ A0 w0) {x : XV} {m : MO} {v : V} (r : XRep K (old w0) w x v) (e : x.item = some m) : ∃ C, ORep K w.F w.H m v C ∧ C.Nodup ∧ ∀ b ∈ C, b ∉ A0 ∧ ¬ B b ∧ w.G b = none ∧ ∀ o u, w.H b ≠ some (.frz o u) := by
  cases x with
  | cl d => cases e; exact ⟨[], ⟨r.cl_of, rfl⟩, List.nodup_nil, fun a h => absurd h (by simp)⟩
  | nw m' =>
    cases e
    obtain ⟨C, r2, r3, r4⟩ := r
    exact ⟨C, r2, r3.nd, fun a ha => ⟨fun z => r4 a ha (t0.at_.sl.there a z), fun z => r4 a ha (t0.oldB a z), r3.no a ha⟩⟩
  | _ => cases e
/-- a list at a place -/
theorem AtS.lst (t : AtS K B sl σ A w) {p : Pt} {v1 : V} (h : PtR K sl σ w p v1) {ms : List MO} (hm : p.m = .lst ms) : ∃ a vs C, v1 = .ref a ∧ w.H a = some (.lst vs) ∧ ORepL K w.F w.H ms vs C ∧ C.Nodup ∧ (∀ b ∈ C, b ∈ A) ∧
    ∀ ms2 vs2 C2, ORepL K w.F w.H ms2 vs2 C2 → C2.Nodup → (∀ b ∈ C2, b ∈ C ∨ (b ∉ A ∧ ¬ B b ∧ w.G b = none ∧ ∀ o u, w.H b ≠ some (.frz o u))) → ∃ A', AtS K B (putS sl p.i p.π (.lst ms2)) σ A' (w.put a (.lst vs2)) ∧ WLeS B w (w.put a (.lst vs2)) := by
  obtain ⟨a, vs, C, h1, h2, h3, h4, h5, h6, h7⟩ := t.put h (ms := ms) (by rw [hm]; rfl)
  rw [hm] at h2
  refine ⟨a, vs, C, h1, rd_own h2 h3, h4, h5, fun b hb => (h6 b hb).1, fun ms2 vs2 C2 r n d => ?_⟩
  obtain ⟨A', q1, q2, _⟩ := h7 (.lst ms2) ms2 (.lst vs2) vs2 C2 rfl (fun H' e => .inl e) (by intro _ _ z; cases z) r n d
  exact ⟨A', q1, q2⟩
/-- a dict at a place -/
theorem AtS.dic (t : AtS K B sl σ A w) {p : Pt} {v1 : V} (h : PtR K sl σ w p v1) {ks : List D} {ms : List MO} (hm : p.m = .dct ks ms) : ∃ a kvs C, v1 = .ref a ∧ w.H a = some (.dK kvs) ∧ ks = kvs.map (fun p => keyD p.1) ∧ (kvs.map (·.1)).Nodup ∧ ORepL K w.F w.H ms (kvs.map (·.2)) C ∧ C.Nodup ∧ (∀ b ∈ C, b ∈ A) ∧
    ∀ kvs2 ms2 C2, (kvs2.map (·.1)).Nodup → ORepL K w.F w.H ms2 (kvs2.map (·.2)) C2 → C2.Nodup → (∀ b ∈ C2, b ∈ C ∨ (b ∉ A ∧ ¬ B b ∧ w.G b = none ∧ ∀ o u, w.H b ≠ some (.frz o u))) →
      ∃ A', AtS K B (putS sl p.i p.π (.dct (kvs2.map fun p => keyD p.1) ms2)) σ A' (w.put a (.dK kvs2)) ∧ WLeS B w (w.put a (.dK kvs2)) := by
  obtain ⟨a, vs, C, h1, h2, h3, h4, h5, h6, h7⟩ := t.put h (ms := ms) (by rw [hm]; rfl)
  rw [hm] at h2
  obtain ⟨kvs, g1, g2, g3, g4⟩ := h2
  subst g3
  refine ⟨a, kvs, C, h1, rd_own g1 h3, g2, g4, h4, h5, fun b hb => (h6 b hb).1, fun kvs2 ms2 C2 nk r n d => ?_⟩
  obtain ⟨A', q1, q2, _⟩ := h7 (.dct (kvs2.map fun p => keyD p.1) ms2) ms2 (.dK kvs2) _ C2 rfl (fun H' e => ⟨kvs2, .inl e, rfl, rfl, nk⟩) (by intro _ _ z; cases z) r n d
  exact ⟨A', q1, q2⟩
/-- an instance at a place -/
theorem AtS.inst (t : AtS K B sl σ A w) {p : Pt} {v1 : V} (h : PtR K sl σ w p v1) {c : Str} {ns : List Str} {ms : List MO} (hm : p.m = .ins c ns ms) : ∃ a dx fs C, v1 = .ref a ∧ w.H a = some (.ins (He.ga K c) dx fs) ∧ ns = fs.map (·.1) ∧ ORepL K w.F w.H ms (fs.map (·.2)) C ∧ C.Nodup ∧ (∀ b ∈ C, b ∈ A) ∧
    ∀ fs2 ms2 C2, ORepL K w.F w.H ms2 (fs2.map (·.2)) C2 → C2.Nodup → (∀ b ∈ C2, b ∈ C ∨ (b ∉ A ∧ ¬ B b ∧ w.G b = none ∧ ∀ o u, w.H b ≠ some (.frz o u))) →
      ∃ A', AtS K B (putS sl p.i p.π (.ins c (fs2.map (·.1)) ms2)) σ A' (w.put a (.ins (He.ga K c) dx fs2)) ∧ WLeS B w (w.put a (.ins (He.ga K c) dx fs2)) := by
  obtain ⟨a, vs, C, h1, h2, h3, h4, h5, h6, h7⟩ := t.put h (ms := ms) (by rw [hm]; rfl)
  rw [hm] at h2
  obtain ⟨dx, fs, g1, g2, g3⟩ := h2
  subst g3
  refine ⟨a, dx, fs, C, h1, g1, g2.symm, h4, h5, fun b hb => (h6 b hb).1, fun fs2 ms2 C2 r n d => ?_⟩
  obtain ⟨A', q1, q2, _⟩ := h7 (.ins c (fs2.map (·.1)) ms2) ms2 (.ins (He.ga K c) dx fs2) _ C2 rfl (fun H' e => ⟨dx, fs2, e, rfl, rfl⟩) (by intro _ _ z; cases z) r n d
  exact ⟨A', q1, q2⟩
end
section
variable {c : Calls} {k : Nat} {ck : Ck} {X : Cx} {Wx : WX} {e a b ix : Expr} {f g : Sl → R XV} {fp : Sl → R Pt} {pos pos' : Pos}
theorem okP_v (C : CxOk c k ck X) {i : Nat} {x : Str} (hN : ck.N[i]? = some x) (hv : visB ck.sc x = true) (hn : nameOk x = true) : OkP X Wx (.Name x pos) (fun sl => ptV sl i) := by
  intro sl σ A w t
  show PostR _ _ _ _ _ (ptV sl i) _
  cases h : ptV sl i with
  | stuck => trivial
  | exc e => exact absurd h (by unfold ptV; split <;> simp)
  | ok p =>
    obtain ⟨v, h1, h2⟩ := PtR.slot t h
    exact fun Q q => ⟨_, pe_slot C hN hv hn, v, h1, q w v t.ok (WLe.refl w) h2⟩
theorem okP_f (C : CxOk c k ck X) {cl ff : String} {x : Str} (hx : Str.ofString ff = x) (hc : cl ∈ ck.cls) (hn : (cl, ff) ∈ ck.nat) (hb : attOk a = true) (ha : OkP X Wx a fp) : OkP X Wx (.Attribute a x pos) (fun sl => (fp sl).bind fun q => q.fld cl (Str.ofString ff)) := by
  subst hx
  intro sl σ A w t
  refine PostR.bind (body := fun (v : V) H (Q : VK) => ∃ a C dx fs z, v = .ref a ∧ H a = some (.ins C dx fs) ∧ Cls X.K C ∧ NoAttr X.K C (Str.ofString ff) ∧ fs.lookup (Str.ofString ff) = some z ∧ Q z H) (ha sl σ A w t) (fun Q q => ⟨_, pe_fld pe_we (att_base hb _ _ _), q⟩) fun p w1 v hp k1 l1 r1 => ?_
  unfold Pt.fld
  cases hm : p.m with
  | ins c' ns ms =>
    simp only
    split
    · rename_i hcc
      subst hcc
      cases hj : ns.findIdx? (fun g => decide (g = Str.ofString ff)) with
      | none => trivial
      | some j =>
        show PostR _ _ _ _ _ (p.kid j) _
        cases hk : p.kid j with
        | stuck => trivial
        | exc e => exact absurd hk (by unfold Pt.kid; (split <;> try split) <;> simp)
        | ok q =>
          obtain ⟨a', vs, u, e1, e2, e3, e4⟩ := PtR.kid (t.mono l1 k1) r1 hk
          rw [hm] at e2
          obtain ⟨dx, fs, g1, g2, g3⟩ := e2
          subst g2 g3
          exact fun Q qq => ⟨a', _, dx, fs, u, e1, g1, C.cls _ hc, C.nat _ _ hn, by rw [findIx_lookup _ hj, ← e3], qq w1 u k1 (WLe.refl w1) e4⟩
    · trivial
  | _ => trivial
theorem okP_x (C : CxOk c k ck X) (hi : plainIx b = true) (ha : OkP X Wx a fp) (hb : OkE X Wx b g) : OkP X Wx (.Subscript a b pos) (fun sl => (fp sl).bind fun p => (g sl).bind fun y => p.ix y) := by
  intro sl σ A w t
  have hu1 : X.A.units + 1 < cLine := by have := C.room.units; omega
  have qa := ha sl σ A w t
  show PostR _ _ _ _ _ ((fp sl).bind fun p => (g sl).bind fun y => p.ix y) _
  by_cases hd : ∃ p ks ms, fp sl = .ok p ∧ p.m = .dct ks ms
  · refine PostR.bind (body := fun (v : V) H (Q : VK) => weE X b σ H fun y H2 => ∃ a v', v = .ref a ∧ DGet H2 a y (some v') ∧ Q v' H2) qa (fun Q q => ⟨_, pe_dget hu1 pe_we pe_we (plainIx_ok hi), q⟩) fun p w1 v hp k1 l1 r1 => ?_
    refine PostR.bind (body := fun (y : V) H2 (Q : VK) => ∃ a v', v = .ref a ∧ DGet H2 a y (some v') ∧ Q v' H2) (hb sl σ A w1 (t.mono l1 k1)) (fun Q q => q) fun y w2 u hy k2 l2 r2 => ?_
    obtain ⟨p', ks, ms, hp', hm⟩ := hd
    rw [hp] at hp'
    cases hp'
    unfold Pt.ix
    rw [hm]
    split
    · rename_i q; cases q
    · rename_i ks' ms' kk q
      cases q
      split
      · rename_i hK
        cases hj : dfind ks kk with
        | none => trivial
        | some j =>
          show PostR _ _ _ _ _ (p.kid j) _
          cases hk : p.kid j with
          | stuck => trivial
          | exc e => exact absurd hk (by unfold Pt.kid; (split <;> try split) <;> simp)
          | ok q =>
            obtain ⟨a', vs, u', e1, e2, e3, e4⟩ := PtR.kid ((t.mono l1 k1).mono l2 k2) (r1.mono l2) hk
            rw [hm] at e2
            have gt := DicR.get (show DicR w2.H a' ks vs from e2) hK r2.cl_of
            rw [hj] at gt
            simp only [Option.bind_some, e3] at gt
            exact fun Q qq => ⟨a', u', e1, gt, qq w2 u' k2 (WLe.refl w2) e4⟩
      · trivial
    · trivial
  · refine PostR.bind (body := fun v H Q => weE X b σ H fun y H2 => rIx X.K v y H2 Q) qa (fun Q q => ⟨_, pe_ix ix_seq pe_we pe_we (plainIx_ok hi), q⟩) fun p w1 v hp k1 l1 r1 => ?_
    refine PostR.bind (body := fun y H2 Q => rIx X.K v y H2 Q) (hb sl σ A w1 (t.mono l1 k1)) (fun Q q => q) fun y w2 u hy k2 l2 r2 => ?_
    unfold Pt.ix
    split
    · rename_i ms n hm
      cases hj : ixN ms.length n with
      | none => trivial
      | some j =>
        show PostR _ _ _ _ _ (p.kid j) _
        cases hk : p.kid j with
        | stuck => trivial
        | exc e => exact absurd hk (by unfold Pt.kid; (split <;> try split) <;> simp)
        | ok q =>
          have t2 := (t.mono l1 k1).mono l2 k2
          obtain ⟨a', vs, u', e1, e2, e3, e4⟩ := PtR.kid t2 (r1.mono l2) hk
          rw [hm] at e2
          obtain ⟨C', g1, _, _⟩ := (r1.mono l2).rep t2
          rw [hm] at g1
          obtain ⟨a2, vs2, C2, f1, f2, f3, _⟩ := g1
          rw [e1] at f1
          cases f1
          have e2' : Rd w2.H a' (.lst vs) := e2
          cases rd_inj e2' f2 nf_lst nf_lst
          refine fun Q qq => .inl ⟨a', vs, n, u', e1, r2.cl_of, .inl e2', ?_, qq w2 u' k2 (WLe.refl w2) e4⟩
          exact atI_of (by rw [← f3.length]; exact hj) e3
    · rename_i ks ms kk hm
      exact absurd ⟨p, ks, ms, hp, hm⟩ hd
    · trivial
end
end Mo
namespace Mo
open PySem PySem.Spec PyProof.Rows L2
/-! ### stores in dicts and instances -/
theorem ORepL.ins {K : PySem.W.Frag} {F H : Hp} {ms : List MO} {vs : List V} {A : List Addr} (h : ORepL K F H ms vs A) (nd : A.Nodup) (n : Nat) {m : MO} {v : V} {C : List Addr} (hm : ORep K F H m v C) (nC : C.Nodup) (hd : ∀ a ∈ C, a ∉ A) :
    ∃ A', ORepL K F H (ms.take n ++ [m] ++ ms.drop n) (vs.take n ++ [v] ++ vs.drop n) A' ∧ A'.Nodup ∧ ∀ a ∈ A', a ∈ A ∨ a ∈ C := by
  obtain ⟨A1, A2, rfl, h1, h2⟩ := h.split n
  have n1 := List.nodup_append.mp nd
  refine ⟨(A1 ++ C) ++ A2, (h1.append (.one hm)).append h2, ?_, fun a ha => ?_⟩
  · rw [List.nodup_append]
    refine ⟨?_, n1.2.1, fun a ha b hb z => ?_⟩
    · rw [List.nodup_append]
      exact ⟨n1.1, nC, fun a ha b hb z => by subst z; exact hd a hb (List.mem_append_left _ ha)⟩
    · subst z
      rcases List.mem_append.mp ha with q | q
      · exact n1.2.2 a q a hb rfl
      · exact hd a q (List.mem_append_right _ hb)
  · rcases List.mem_append.mp ha with q | q
    · rcases List.mem_append.mp q with q | q
      · exact .inl (List.mem_append_left _ q)
      · exact .inr q
    · exact .inl (List.mem_append_right _ q)
theorem putK_mapv (κ : Key) (v : V) : ∀ {kvs : List (Key × V)} {j : Nat}, (kvs.map (·.1)).Nodup → dfind (kvs.map fun p => keyD p.1) (keyD κ) = some j →
    (kvs.any fun kv => decide (kv.1 = κ)) = true ∧ (kvs.map fun kv => if kv.1 = κ then (kv.1, v) else kv).map (·.1) = kvs.map (·.1) ∧ (kvs.map fun kv => if kv.1 = κ then (kv.1, v) else kv).map (·.2) = (kvs.map (·.2)).set j v
  | [], _, _, h => by cases h
  | p :: r, j, nd, h => by
    rw [List.map_cons, List.nodup_cons] at nd
    unfold dfind at h
    rw [List.map_cons, List.findIdx?_cons, eqK_keyD] at h
    by_cases e : p.1 = κ
    · simp only [e, decide_true, if_true, Option.some.injEq] at h
      subst h
      have rest : (r.map fun kv => if kv.1 = κ then (kv.1, v) else kv) = r := by
        conv => rhs; rw [← List.map_id r]
        refine List.map_congr_left fun kv hkv => ?_
        have : kv.1 ≠ κ := fun z => nd.1 (by rw [e, ← z]; exact List.mem_map_of_mem hkv)
        simp [this]
      refine ⟨by simp [e], ?_, ?_⟩
      · rw [List.map_cons, rest]; simp [e]
      · rw [List.map_cons, rest]; simp [e]
    · simp only [e, decide_false, Bool.false_eq_true, if_false] at h
      cases hj : List.findIdx? (eqK · (keyD κ)) (r.map fun p => keyD p.1) with
      | none => rw [hj] at h; cases h
      | some i =>
        rw [hj] at h
        simp only [Option.map_some, Option.some.injEq] at h
        subst h
        obtain ⟨h1, h2, h3⟩ := putK_mapv κ v nd.2 hj
        refine ⟨by simp only [List.any_cons, h1, Bool.or_true], ?_, ?_⟩
        · rw [List.map_cons, List.map_cons, h2]; simp [e]
        · rw [List.map_cons, List.map_cons, h3]; simp [e]
theorem dfind_any (κ : Key) : ∀ (kvs : List (Key × V)), dfind (kvs.map fun p => keyD p.1) (keyD κ) = none → (kvs.any fun kv => decide (kv.1 = κ)) = false ∧ κ ∉ kvs.map (·.1)
  | [], _ => ⟨rfl, by simp⟩
  | p :: r, h => by
    unfold dfind at h
    rw [List.map_cons, List.findIdx?_cons, eqK_keyD] at h
    by_cases e : p.1 = κ
    · simp [e] at h
    · simp only [e, decide_false, Bool.false_eq_true, if_false, Option.map_eq_none_iff] at h
      obtain ⟨h1, h2⟩ := dfind_any κ r h
      refine ⟨by simp only [List.any_cons, e, decide_false, Bool.false_or, h1], fun z => ?_⟩
      rcases List.mem_cons.mp z with q | q
      · exact e q.symm
      · exact h2 q
theorem putF_some (f : Str) (v : V) : ∀ {fs : List (Str × V)} {j : Nat}, (fs.map (·.1)).findIdx? (fun g => decide (g = f)) = some j → (putF f v fs).map (·.1) = fs.map (·.1) ∧ (putF f v fs).map (·.2) = (fs.map (·.2)).set j v
  | [], _, h => by cases h
  | (g, x) :: r, j, h => by
    rw [List.map_cons, List.findIdx?_cons] at h
    unfold putF
    by_cases e : g = f
    · simp only [e, decide_true, if_true, Option.some.injEq] at h
      subst h
      simp [e]
    · simp only [e, decide_false, Bool.false_eq_true, if_false] at h
      cases hj : (r.map (·.1)).findIdx? (fun g => decide (g = f)) with
      | none => rw [hj] at h; cases h
      | some i =>
        rw [hj] at h
        simp only [Option.map_some, Option.some.injEq] at h
        subst h
        obtain ⟨h1, h2⟩ := putF_some f v hj
        simp [e, h1, h2]
theorem putF_none (f : Str) (v : V) : ∀ {fs : List (Str × V)}, (fs.map (·.1)).findIdx? (fun g => decide (g = f)) = none → putF f v fs = fs ++ [(f, v)]
  | [], _ => rfl
  | (g, x) :: r, h => by
    rw [List.map_cons, List.findIdx?_cons] at h
    by_cases e : g = f
    · simp [e] at h
    · simp only [e, decide_false, Bool.false_eq_true, if_false, Option.map_eq_none_iff] at h
      unfold putF
      simp only [e, if_false, List.cons_append, putF_none f v h]
section
variable {c : Calls} {k : Nat} {ck : Ck} {X : Cx} {Wx : WX} {e a b ix : Expr} {f g : Sl → R XV} {fp : Sl → R Pt} {pos pos' apos cpos : Pos}
theorem ok_papp (C : SxOk c k ck X) {at0 : Str} (hat : at0 = "append") (hb : attOk a = true) (hs : notStar e = true) (hl : (apos.endLine == cpos.line) = true) (ha : OkP X Wx a fp) (he : OkE X Wx e f) :
    OkS X Wx (.Expr (.Call (.Attribute a at0 apos) [e] [] cpos) pos) (fun sl => (fp sl).out sl fun p => if p.m.isL then (f sl).out sl (pappF sl p) else none) := by
  subst hat
  intro B sl σ A w t
  have P : PE X (.Call (.Attribute a "append" apos) [e] [] cpos) _ := pe_bm (T := "list") PySem.F.plainAttrs_list PySem.F.slot_list_append PySem.F.type_list_append mt_append pe_we (pa_cons pe_we pa_nil (star_cons hs _ _)) (att_base hb _ _ _)
    (by rw [star_cons hs]; rfl) hl (star_cons hs _ _) rfl
  refine PostR.out (body := fun D (x : V) H1 => tyV X.K "list" x H1 ∧ weE X e σ H1 fun y H2 => rAppend x [y] H2 fun _ H3 => D.nx σ H3) t (ha sl σ A w t.at_) (fun D q => ⟨_, ps_expr P, q⟩) fun p w1 v1 hp t1 l1 r1 => ?_
  cases hm : p.m with
  | lst ms =>
    simp only [hm, MO.isL, if_true]
    obtain ⟨a0, vs0, _, rfl, h2, _⟩ := t1.lst r1 hm
    refine PostR.out (body := fun D (y : V) H2 => rAppend (.ref a0) [y] H2 fun _ H3 => D.nx σ H3) t1 (he sl σ A w1 t1.at_) (fun D q => ⟨.inl ⟨rfl, vs0, .inl (.inl h2)⟩, q⟩) fun z w2 v hz t2 l2 r2 => ?_
    unfold pappF
    rw [hm]
    cases hi : z.item with
    | none => trivial
    | some m =>
      simp only
      split
      · rename_i hlen
        obtain ⟨a', vs, C', g1, g2, g3, g4, g5, g6⟩ := t2.lst (r1.mono l2) hm
        cases g1
        obtain ⟨C2, o1, o2, o3⟩ := item_own t1 r2 hi
        obtain ⟨A2, p1, p2, p3⟩ := g3.add g4 o1 o2 fun b hb' z' => (o3 b hb').1 (g5 b z')
        obtain ⟨A', q1, q2⟩ := g6 _ _ A2 p1 p2 fun b hb' => (p3 b hb').imp id fun z' => o3 b z'
        exact fun D q => ⟨a0, vs, v, rfl, rfl, g2, by rw [← g3.length]; exact hlen, q _ σ A' q1 q2⟩
      · trivial
  | _ => simp only [hm, MO.isL]; trivial
theorem ok_pins (C : SxOk c k ck X) {at0 : Str} (hat : at0 = "insert") (hb : attOk a = true) (hs1 : notStar ix = true) (hs2 : notStar e = true) (hl : (apos.endLine == cpos.line) = true) (ha : OkP X Wx a fp) (hk : OkE X Wx ix g) (he : OkE X Wx e f) :
    OkS X Wx (.Expr (.Call (.Attribute a at0 apos) [ix, e] [] cpos) pos) (fun sl => (fp sl).out sl fun p => if p.m.isL then (g sl).out sl fun y => (f sl).out sl fun x => pinsF sl p y x else none) := by
  subst hat
  intro B sl σ A w t
  have P : PE X (.Call (.Attribute a "insert" apos) [ix, e] [] cpos) _ := pe_bm (T := "list") PySem.F.plainAttrs_list PySem.F.slot_list_insert PySem.F.type_list_insert mt_insert pe_we (pa_cons pe_we (pa_cons pe_we pa_nil (star_cons hs2 _ _)) (star_cons hs1 _ _)) (att_base hb _ _ _)
    (by rw [star_cons hs1, star_cons hs2]; rfl) hl (star_cons hs1 _ _) (by rw [star_cons hs2]; rfl)
  refine PostR.out (body := fun D (x : V) H1 => tyV X.K "list" x H1 ∧ weE X ix σ H1 fun z H2 => weE X e σ H2 fun y H3 => ∃ (l : Addr) (xs : List V) (i : Int) (y' : V), x = .ref l ∧ [z, y] = [.int i, y'] ∧ H3 l = some (.lst xs) ∧ xs.length < sizeLine ∧ 0 ≤ i ∧ i < 2 ^ 63 ∧ D.nx σ (upd H3 l (.lst (xs.take i.toNat ++ [y'] ++ xs.drop i.toNat)))) t (ha sl σ A w t.at_) (fun D q => ⟨_, ps_expr P, q⟩) fun p w1 v1 hp t1 l1 r1 => ?_
  cases hm : p.m with
  | lst ms =>
    simp only [hm, MO.isL, if_true]
    obtain ⟨a0, vs0, _, rfl, h2, _⟩ := t1.lst r1 hm
    refine PostR.out (body := fun D (z : V) H2 => weE X e σ H2 fun y H3 => ∃ (l : Addr) (xs : List V) (i : Int) (y' : V), V.ref a0 = .ref l ∧ [z, y] = [.int i, y'] ∧ H3 l = some (.lst xs) ∧ xs.length < sizeLine ∧ 0 ≤ i ∧ i < 2 ^ 63 ∧ D.nx σ (upd H3 l (.lst (xs.take i.toNat ++ [y'] ++ xs.drop i.toNat)))) t1 (hk sl σ A w1 t1.at_) (fun D q => ⟨.inl ⟨rfl, vs0, .inl (.inl h2)⟩, q⟩) fun z w2 v hz t2 l2 r2 => ?_
    refine PostR.out (body := fun D (y : V) H3 => ∃ (l : Addr) (xs : List V) (i : Int) (y' : V), V.ref a0 = .ref l ∧ [v, y] = [.int i, y'] ∧ H3 l = some (.lst xs) ∧ xs.length < sizeLine ∧ 0 ≤ i ∧ i < 2 ^ 63 ∧ D.nx σ (upd H3 l (.lst (xs.take i.toNat ++ [y'] ++ xs.drop i.toNat)))) t2 (he sl σ A w2 t2.at_) (fun D q => q) fun z2 w3 y hz2 t3 l3 r3 => ?_
    unfold pinsF
    rw [hm]
    cases hi : z2.item with
    | none =>
      split
      · rename_i q; cases q
      · trivial
    | some m =>
      split
      · rename_i ms' n m' q1 q2
        cases q1
        cases q2
        split
        · rename_i hcc
          obtain ⟨hlen, n0, n1⟩ := hcc
          obtain ⟨a', vs, C', g1, g2, g3, g4, g5, g6⟩ := t3.lst ((r1.mono l2).mono l3) hm
          cases g1
          obtain ⟨C2, o1, o2, o3⟩ := item_own t2 r3 hi
          obtain ⟨A2, p1, p2, p3⟩ := g3.ins g4 n.toNat o1 o2 fun b hb' z' => (o3 b hb').1 (g5 b z')
          obtain ⟨A', q1, q2⟩ := g6 _ _ A2 p1 p2 fun b hb' => (p3 b hb').imp id fun z' => o3 b z'
          have hv : v = .int n := (r2.mono l3).cl_of
          exact fun D q => ⟨a0, vs, n, y, rfl, by rw [hv], g2, by rw [← g3.length]; exact hlen, n0, n1, q _ σ A' q1 q2⟩
        · trivial
      · trivial
  | _ => simp only [hm, MO.isL]; trivial
theorem ok_prev {at0 : Str} (hat : at0 = "reverse") (hb : attOk a = true) (hl : (apos.endLine == cpos.line) = true) (ha : OkP X Wx a fp) :
    OkS X Wx (.Expr (.Call (.Attribute a at0 apos) [] [] cpos) pos) (fun sl => (fp sl).out sl (prevF sl)) := by
  subst hat
  intro B sl σ A w t
  have P : PE X (.Call (.Attribute a "reverse" apos) [] [] cpos) _ := pe_bm0 (T := "list") PySem.F.plainAttrs_list PySem.F.slot_list_reverse PySem.F.type_list_reverse mt_reverse pe_we (att_base hb _ _ _) hl
  refine PostR.out (body := fun D (x : V) H1 => tyV X.K "list" x H1 ∧ rReverse x [] H1 fun _ H3 => D.nx σ H3) t (ha sl σ A w t.at_) (fun D q => ⟨_, ps_expr P, q⟩) fun p w1 v1 hp t1 l1 r1 => ?_
  unfold prevF
  cases hm : p.m with
  | lst ms =>
    obtain ⟨a0, vs, C', rfl, g2, g3, g4, g5, g6⟩ := t1.lst r1 hm
    obtain ⟨A2, p1, p2, p3⟩ := g3.rev g4
    obtain ⟨A', q1, q2⟩ := g6 _ _ A2 p1 p2 fun b hb' => .inl ((p3 b).mp hb')
    exact fun D q => ⟨.inl ⟨rfl, vs, .inl (.inl g2)⟩, a0, vs, rfl, rfl, g2, q _ σ A' q1 q2⟩
  | _ => trivial
theorem ok_ex (hn : notComp e = true) (he : OkE X Wx e f) : OkS X Wx (.Expr e pos) (fun sl => (f sl).out sl fun _ => some (.nx sl)) := by
  intro B sl σ A w t
  exact PostR.out (body := fun D (_ : V) H1 => D.nx σ H1) t (he sl σ A w t.at_) (fun D q => ⟨_, ps_expr pe_we (swaps_no hn _ _ _), q⟩) fun z w1 v hz t1 l1 r1 D q => q w1 σ A t1 (WLeS.refl _ _)
theorem ok_pfs (C : SxOk c k ck X) {cl ff : String} {x : Str} (hx : Str.ofString ff = x) (hc : cl ∈ ck.cls) (hn : (cl, ff) ∈ ck.nat) (hcm : notComp e = true) (ha : OkP X Wx a fp) (he : OkE X Wx e f) :
    OkS X Wx (.Assign [.Attribute a x pos'] e pos) (fun sl => (f sl).out sl fun x => (fp sl).out sl fun p => pfsF sl p cl (Str.ofString ff) x) := by
  subst hx
  intro B sl σ A w t
  refine PostR.out (body := fun D (y : V) H1 => weE X a σ H1 fun x H2 => ∃ a C dx fs, x = .ref a ∧ H2 a = some (.ins C dx fs) ∧ Cls X.K C ∧ NoAttr X.K C (Str.ofString ff) ∧ fs.length < 1000 ∧ D.nx σ (upd H2 a (.ins C dx (putF (Str.ofString ff) y fs)))) t (he sl σ A w t.at_) (fun D q => ⟨_, ps_fld pe_we pe_we (swaps_no hcm _ _ _), q⟩) fun z w1 v hz t1 l1 r1 => ?_
  refine PostR.out (body := fun D (x : V) H2 => ∃ a C dx fs, x = .ref a ∧ H2 a = some (.ins C dx fs) ∧ Cls X.K C ∧ NoAttr X.K C (Str.ofString ff) ∧ fs.length < 1000 ∧ D.nx σ (upd H2 a (.ins C dx (putF (Str.ofString ff) v fs)))) t1 (ha sl σ A w1 t1.at_) (fun D q => q) fun p w2 v1 hp t2 l2 r2 => ?_
  unfold pfsF
  cases hm : p.m with
  | ins c' ns ms =>
    cases hi : z.item with
    | none => trivial
    | some m =>
      simp only
      split
      · rename_i hcc
        obtain ⟨rfl, hlen⟩ := hcc
        obtain ⟨a0, dx, fs, C', rfl, g2, g3, g4, g5, g6, g7⟩ := t2.inst r2 hm
        obtain ⟨C2, o1, o2, o3⟩ := item_own t (r1.mono l2) hi
        subst g3
        have hlen' : fs.length < 1000 := by rw [← List.length_map (f := fun p : Str × V => p.1)]; exact hlen
        have fin : ∀ ns2 ms2 A2, (putF (Str.ofString ff) v fs).map (·.1) = ns2 → ORepL X.K w2.F w2.H ms2 ((putF (Str.ofString ff) v fs).map (·.2)) A2 → A2.Nodup → (∀ b ∈ A2, b ∈ C' ∨ b ∈ C2) → PostS X.K Wx B w2 (some (.nx (putS sl p.i p.π (.ins (Str.ofString cl) ns2 ms2)))) (fun D => ∃ a C dx fs, V.ref a0 = .ref a ∧ w2.H a = some (.ins C dx fs) ∧ Cls X.K C ∧ NoAttr X.K C (Str.ofString ff) ∧ fs.length < 1000 ∧ D.nx σ (upd w2.H a (.ins C dx (putF (Str.ofString ff) v fs)))) := fun ns2 ms2 A2 e1 p1 p2 p3 => by
          subst e1
          obtain ⟨A', q1, q2⟩ := g7 _ ms2 A2 p1 p2 fun b hb' => (p3 b hb').imp id fun z' => o3 b z'
          exact fun D q => ⟨a0, _, dx, fs, rfl, g2, C.x.cls _ hc, C.x.nat _ _ hn, hlen', q _ σ A' q1 q2⟩
        unfold fput
        cases hj : (fs.map (·.1)).findIdx? (fun g => decide (g = Str.ofString ff)) with
        | some j =>
          obtain ⟨h1, h2⟩ := putF_some (Str.ofString ff) v hj
          have jl : j < ms.length := by
            have := (List.findIdx?_eq_some_iff_findIdx_eq.mp hj).1
            rw [g4.length]; simpa using this
          obtain ⟨A2, p1, p2, p3⟩ := g4.setAt g5 jl o1 o2 fun b hb' z' => (o3 b hb').1 (g6 b z')
          exact fin _ _ A2 h1 (by rw [h2]; exact p1) p2 p3
        | none =>
          have h1 := putF_none (Str.ofString ff) v hj
          obtain ⟨A2, p1, p2, p3⟩ := g4.add g5 o1 o2 fun b hb' z' => (o3 b hb').1 (g6 b z')
          exact fin _ _ A2 (by rw [h1]; simp) (by rw [h1]; simpa using p1) p2 p3
      · trivial
  | _ => trivial
theorem ok_pst (C : SxOk c k ck X) {p3 : Pos} (hx : plainIx ix = true) (hc : notComp e = true) (ha : OkP X Wx a fp) (he : OkE X Wx e f) (hk : OkE X Wx ix g) :
    OkS X Wx (.Assign [.Subscript a ix p3] e pos) (fun sl => (f sl).out sl fun x => (fp sl).out sl fun p => (g sl).out sl fun y => pstF sl p y x) := by
  intro B sl σ A w t
  have hu1 : X.A.units + 1 < cLine := by have := C.x.room.units; omega
  have wa : ∀ v, assign (.Subscript a ix p3) X.env v = (do
      let ov ← holding [v] (eval a X.env)
      let iv ← holding [v, ov] (eval ix X.env)
      standAt p3
      holding [v, ov, iv] (setItem ov iv v)
      release [v, ov, iv] []) := by
    intro v
    cases ix <;> first | rfl | (cases hx; done)
  by_cases hL : ∃ p ms, fp sl = .ok p ∧ p.m = .lst ms
  · have P : PG X (.Subscript a ix p3) _ := pg_sub pe_we pe_we set_list wa
    have S := ps_asg (pos := pos) (pe_we (X := X) (e := e)) P (show swapsWithSole [.Subscript a ix p3] e pos.line X.env = pure false from swaps_no hc (some (.Subscript a ix p3)) pos.line X.env) (swapped_none (tg := .Subscript a ix p3) (e := e) rfl _) rfl
    refine PostR.out (body := fun D (v : V) H1 => weE X a σ H1 fun u H2 => weE X ix σ H2 fun y H3 => rSetL u y v H3 fun H4 => D.nx σ H4) t (he sl σ A w t.at_) (fun D q => ⟨_, S, q⟩) fun z w1 v hz t1 l1 r1 => ?_
    refine PostR.out (body := fun D (u : V) H2 => weE X ix σ H2 fun y H3 => rSetL u y v H3 fun H4 => D.nx σ H4) t1 (ha sl σ A w1 t1.at_) (fun D q => q) fun p w2 v1 hp t2 l2 r2 => ?_
    refine PostR.out (body := fun D (y : V) H3 => rSetL v1 y v H3 fun H4 => D.nx σ H4) t2 (hk sl σ A w2 t2.at_) (fun D q => q) fun z2 w3 y hz2 t3 l3 r3 => ?_
    obtain ⟨p', ms, hp', hm⟩ := hL
    rw [hp] at hp'
    cases hp'
    unfold pstF
    rw [hm]
    cases hi : z.item with
    | none => 
      split
      · rename_i q; cases q
      · rename_i q; cases q
      · trivial
    | some m =>
      split
      · rename_i ms' n m' q1 q2
        cases q1
        cases q2
        cases hj : ixN ms.length n with
        | none => trivial
        | some j =>
          simp only
          obtain ⟨a0, vs, C', rfl, g2, g3, g4, g5, g6⟩ := t3.lst (r2.mono l3) hm
          obtain ⟨C2, o1, o2, o3⟩ := item_own t ((r1.mono l2).mono l3) hi
          have jl : j < ms.length := (ixN_seq hj).2.1
          obtain ⟨A2, p1, p2, p3⟩ := g3.setAt g4 jl o1 o2 fun b hb' z' => (o3 b hb').1 (g5 b z')
          obtain ⟨A', q1, q2⟩ := g6 _ _ A2 p1 p2 fun b hb' => (p3 b hb').imp id fun z' => o3 b z'
          exact fun D q => ⟨a0, vs, n, j, rfl, r3.cl_of, g2, by rw [← g3.length]; exact hj, q _ σ A' q1 q2⟩
      · rename_i q _; cases q
      · trivial
  · refine PostR.out (body := fun D (v : V) H1 => weE X a σ H1 fun x H2 => weE X ix σ H2 fun y H3 => ∃ a H4, x = .ref a ∧ DPut H3 a y v H4 ∧ D.nx σ H4) t (he sl σ A w t.at_) (fun D q => ⟨_, ps_dput hu1 pe_we pe_we pe_we (swaps_no hc _ _ _), q⟩) fun z w1 v hz t1 l1 r1 => ?_
    refine PostR.out (body := fun D (x : V) H2 => weE X ix σ H2 fun y H3 => ∃ a H4, x = .ref a ∧ DPut H3 a y v H4 ∧ D.nx σ H4) t1 (ha sl σ A w1 t1.at_) (fun D q => q) fun p w2 v1 hp t2 l2 r2 => ?_
    refine PostR.out (body := fun D (y : V) H3 => ∃ a H4, v1 = .ref a ∧ DPut H3 a y v H4 ∧ D.nx σ H4) t2 (hk sl σ A w2 t2.at_) (fun D q => q) fun z2 w3 y hz2 t3 l3 r3 => ?_
    unfold pstF
    split
    · rename_i ms n m hm _
      exact absurd ⟨p, ms, hp, hm⟩ hL
    · rename_i ks ms kk m hm hi
      split
      · rename_i hcc
        simp only [Bool.and_eq_true, decide_eq_true_eq] at hcc
        obtain ⟨hK, hlen⟩ := hcc
        obtain ⟨κ, rfl⟩ := isK_key hK
        obtain ⟨a0, kvs, C', rfl, g2, g3, gn, g4, g5, g6, g7⟩ := t3.dic (r2.mono l3) hm
        obtain ⟨C2, o1, o2, o3⟩ := item_own t ((r1.mono l2).mono l3) hi
        have hy := rep_key r3.cl_of
        subst hy g3
        have hlen' : kvs.length < sizeLine := by rw [← List.length_map (f := fun p : Key × V => keyD p.1)]; exact hlen
        have fin : ∀ ks2 ms2 A2, ((putK kvs κ v).map fun p => keyD p.1) = ks2 → ((putK kvs κ v).map (·.1)).Nodup → ORepL X.K w3.F w3.H ms2 ((putK kvs κ v).map (·.2)) A2 → A2.Nodup → (∀ b ∈ A2, b ∈ C' ∨ b ∈ C2) → PostS X.K Wx B w3 (some (.nx (putS sl p.i p.π (.dct ks2 ms2)))) (fun D => ∃ a H4, V.ref a0 = .ref a ∧ DPut w3.H a (kV κ) v H4 ∧ D.nx σ H4) := fun ks2 ms2 A2 e1 e2 p1 p2 p3 => by
          subst e1
          obtain ⟨A', q1, q2⟩ := g7 _ ms2 A2 e2 p1 p2 fun b hb' => (p3 b hb').imp id fun z' => o3 b z'
          exact fun D q => ⟨a0, _, rfl, DPut.k g2 hlen', q _ σ A' q1 q2⟩
        unfold dput
        cases hj : dfind (kvs.map fun p => keyD p.1) (keyD κ) with
        | some j =>
          obtain ⟨h1, h2, h3⟩ := putK_mapv κ v gn hj
          have hp : putK kvs κ v = kvs.map fun kv => if kv.1 = κ then (kv.1, v) else kv := by unfold putK; rw [if_pos h1]
          have jl : j < ms.length := by
            have := dfind_lt hj
            rw [g4.length]; simpa using this
          obtain ⟨A2, p1, p2, p3⟩ := g4.setAt g5 jl o1 o2 fun b hb' z' => (o3 b hb').1 (g6 b z')
          have hk1 : ((putK kvs κ v).map fun p => keyD p.1) = kvs.map fun p => keyD p.1 := by
            have : ∀ l : List (Key × V), (l.map fun p => keyD p.1) = (l.map (·.1)).map keyD := fun l => by simp [List.map_map, Function.comp_def]
            rw [this, this, hp, h2]
          exact fin _ _ A2 hk1 (by rw [hp, h2]; exact gn) (by rw [hp, h3]; exact p1) p2 p3
        | none =>
          obtain ⟨h1, h2⟩ := dfind_any κ kvs hj
          have hp : putK kvs κ v = kvs ++ [(κ, v)] := by unfold putK; rw [if_neg (by rw [h1]; simp)]
          obtain ⟨A2, p1, p2, p3⟩ := g4.add g5 o1 o2 fun b hb' z' => (o3 b hb').1 (g6 b z')
          refine fin _ _ A2 (by rw [hp]; simp) ?_ (by rw [hp]; simpa using p1) p2 p3
          rw [hp, List.map_append, List.nodup_append]
          exact ⟨gn, by simp, fun x hx' y hy' z' => by
            simp at hy'
            subst z' hy'
            exact h2 hx'⟩
      · trivial
    · trivial
end
end Mo
namespace Mo
open PySem PySem.Spec PyProof.Rows L2
/-- another thing in a slot of the same value -/
theorem SlR.swap {K : PySem.W.Frag} {w w2 : Wd} (hF : Ex w.F w2.F) (hG : Ex w.G w2.G) (hb : w2.bs = w.bs) : ∀ {sl : Sl} {σ : L2.St} {A : List Addr} {i : Nat} {s0 : SV}, SlR K w sl σ A → sl[i]? = some s0 → A.Nodup →
    ∃ o C, σ[i]? = some o ∧ SvR K w s0 o C ∧ (∀ a ∈ C, a ∈ A) ∧ C.Nodup ∧
      ∀ s2 C2, SvR K w2 s2 o C2 → C2.Nodup → (∀ a ∈ A, a ∉ C → Sa w.H w2.H a) → (∀ a ∈ C2, a ∈ C ∨ a ∉ A) → ∃ A', SlR K w2 (sl.set i s2) σ A' ∧ A'.Nodup ∧ ∀ a ∈ A', (a ∈ A ∧ a ∉ C) ∨ a ∈ C2
  | [], _, _, _, _, _, h, _ => by simp at h
  | s :: r, _, _, 0, s0, ⟨o, σ', A1, A2, e1, e2, e3, e4⟩, h, nd => by
    subst e1 e4
    simp at h; subst h
    have nd' := List.nodup_append.mp nd
    refine ⟨o, A1, rfl, e2, fun a ha => List.mem_append_left _ ha, nd'.1, fun s2 C2 r2 n2 hk hd => ?_⟩
    have off : ∀ a ∈ A2, a ∉ A1 := fun a ha z => nd'.2.2 a z a ha rfl
    refine ⟨C2 ++ A2, ⟨o, σ', C2, A2, rfl, r2, e3.keep hF hG hb fun a ha => hk a (List.mem_append_right _ ha) (off a ha), rfl⟩, ?_, fun a ha => ?_⟩
    · rw [List.nodup_append]
      refine ⟨n2, nd'.2.1, fun a ha b hb z => ?_⟩
      subst z
      rcases hd a ha with q | q
      · exact off a hb q
      · exact q (List.mem_append_right _ hb)
    · rcases List.mem_append.mp ha with q | q
      · exact .inr q
      · exact .inl ⟨List.mem_append_right _ q, off a q⟩
  | s :: r, _, _, i + 1, s0, ⟨o, σ', A1, A2, e1, e2, e3, e4⟩, h, nd => by
    subst e1 e4
    have nd' := List.nodup_append.mp nd
    obtain ⟨o1, C, h1, h2, h3, h4, h5⟩ := SlR.swap hF hG hb e3 (by simpa using h) nd'.2.1
    refine ⟨o1, C, by simpa using h1, h2, fun a ha => List.mem_append_right _ (h3 a ha), h4, fun s2 C2 r2 n2 hk hd => ?_⟩
    obtain ⟨A', p1, p2, p3⟩ := h5 s2 C2 r2 n2 (fun a ha => hk a (List.mem_append_right _ ha)) (fun a ha => (hd a ha).imp id fun z q => z (List.mem_append_right _ q))
    refine ⟨A1 ++ A', ⟨o, σ', A1, A', rfl, e2.keep hF hG hb (fun a ha => hk a (List.mem_append_left _ ha) fun z => nd'.2.2 a ha a (h3 a z) rfl), p1, rfl⟩, ?_, fun a ha => ?_⟩
    · rw [List.nodup_append]
      refine ⟨nd'.1, p2, fun a ha b hb z => ?_⟩
      subst z
      rcases p3 a hb with q | q
      · exact nd'.2.2 a ha a q.1 rfl
      · rcases hd a q with y | y
        · exact nd'.2.2 a ha a (h3 a y) rfl
        · exact y (List.mem_append_left _ ha)
    · rcases List.mem_append.mp ha with q | q
      · exact .inl ⟨List.mem_append_left _ q, fun z => nd'.2.2 a q a (h3 a z) rfl⟩
      · rcases p3 a q with y | y
        · exact .inl ⟨List.mem_append_right _ y.1, y.2⟩
        · exact .inr y
section
variable {c : Calls} {k : Nat} {ck : Ck} {X : Cx} {Wx : WX} {e a b ix : Expr} {f g : Sl → R XV} {h h' : Sl → RO} {pos pos' : Pos} {xs ys : List Stmt} {st : Stmt}
/-! ### blocks -/
theorem okSs_nil : OkSs X Wx [] (fun sl => some (.nx sl)) := fun B sl σ A w t D q => ⟨_, pss_nil, q w σ A t (WLeS.refl _ _)⟩
theorem okSs_cons (h1 : OkS X Wx st h) (h2 : OkSs X Wx xs h') : OkSs X Wx (st :: xs) (fun sl => seqO (h sl) h') := by
  intro B sl σ A w t
  have q1 := h1 B sl σ A w t
  show PostS _ _ _ _ (seqO (h sl) h') _
  cases ho : h sl with
  | none => trivial
  | some o =>
    rw [ho] at q1
    cases o with
    | nx s1 =>
      show PostS _ _ _ _ (h' s1) _
      have q2 := fun w1 σ1 A1 (t1 : AtS X.K B s1 σ1 A1 w1) (l1 : WLeS B w w1) => (h2 B s1 σ1 A1 w1 t1).from l1
      have go : ∀ D : Ends, (∀ w1 σ1 A1, AtS X.K B s1 σ1 A1 w1 → WLeS B w w1 → weSs X xs D σ1 w1.H) → weSs X (st :: xs) D σ w.H := fun D q =>
        ⟨_, pss_cons ps_we pss_we, q1 { D with nx := weSs X xs D } q⟩
      cases ho2 : h' s1 with
      | none => trivial
      | some o2 =>
        rw [ho2] at q2
        cases o2 <;> exact fun D q => go D fun w1 σ1 A1 t1 l1 => q2 w1 σ1 A1 t1 l1 D q
    | bk s1 => exact fun D q => ⟨_, pss_cons ps_we pss_we, q1 { D with nx := weSs X xs D } q⟩
    | ct s1 => exact fun D q => ⟨_, pss_cons ps_we pss_we, q1 { D with nx := weSs X xs D } q⟩
    | rt x s1 => exact fun D q => ⟨_, pss_cons ps_we pss_we, q1 { D with nx := weSs X xs D } q⟩
    | ex ex s1 => exact fun D q => ⟨_, pss_cons ps_we pss_we, q1 { D with nx := weSs X xs D } q⟩
/-- what slot i owns stands for ever: no text of its own -/
theorem okSs_frz {i : Nat} (h2 : OkSs X Wx xs h') : OkSs X Wx xs (fun sl => seqO (frzF sl i) h') := by
  intro B sl σ A w t
  show PostS _ _ _ _ (seqO (frzF sl i) h') _
  unfold frzF
  cases hi : sl[i]? with
  | none => trivial
  | some s =>
    cases s with
    | ow m =>
      show PostS _ _ _ _ (h' (sl.set i (.cl m.toD))) _
      obtain ⟨o1, C, q1, q2, q3, q5, _⟩ := SlR.swap (w2 := w) (.refl _) (.refl _) rfl t.at_.sl hi t.at_.ow.nd
      obtain ⟨v, rfl, q2⟩ := q2
      have no : ∀ a ∈ C, w.G a = none := fun a ha => (t.at_.ow.no a (q3 a ha)).1
      have eF := Wd.frz_f t.at_.ok no
      have eG := Wd.frz_g t.at_.ok no
      obtain ⟨o2, C', g1, g2, g3, g4, g5⟩ := SlR.swap (w2 := w.frz C) eF eG rfl t.at_.sl hi t.at_.ow.nd
      rw [q1] at g1
      cases g1
      obtain ⟨_, z, g2⟩ := g2
      cases z
      obtain rfl := q2.addrs g2
      obtain ⟨A', p1, p2, p3'⟩ := g5 (.cl m.toD) [] ⟨v, rfl, ORep.rep eF q2 fun a ha o z => Wd.frz_at ha z, rfl⟩ List.nodup_nil (fun a _ _ => Sa.of fun o z => z) (fun a h => absurd h (by simp))
      have p3 : ∀ a ∈ A', a ∈ A ∧ a ∉ C := fun a ha => (p3' a ha).elim id fun z => absurd z (by simp)
      have t2 : AtS X.K B (sl.set i (.cl m.toD)) σ A' (w.frz C) := ⟨⟨Wd.frz_ok t.at_.ok C, p1, p2, fun a ha => ⟨Wd.frz_no (p3 a ha).2 (t.at_.ow.no a (p3 a ha).1).1, (t.at_.ow.no a (p3 a ha).1).2⟩⟩, fun a ha => t.nb a (p3 a ha).1, fun a b => ex_some eG (t.bg a b)⟩
      exact (h2 B _ σ A' (w.frz C) t2).from ⟨eF, eG, fun a ba q => Wd.frz_noF (fun z => t.nb a (q3 a z) ba) q, rfl⟩
    | _ => trivial
theorem ok_pas : OkS X Wx (.Pass pos) (fun sl => some (.nx sl)) := fun B sl σ A w t D q => ⟨_, ps_pass, q w σ A t (WLeS.refl _ _)⟩
theorem ok_brk : OkS X Wx (.Break pos) (fun sl => some (.bk sl)) := fun B sl σ A w t D q => ⟨_, ps_break, q w σ A t (WLeS.refl _ _)⟩
theorem ok_cnt : OkS X Wx (.Continue pos) (fun sl => some (.ct sl)) := fun B sl σ A w t D q => ⟨_, ps_continue, q w σ A t (WLeS.refl _ _)⟩
theorem ok_retn : OkS X Wx (.Return none pos) (fun sl => some (.rt (.cl .non) sl)) := fun B sl σ A w t D q => ⟨_, ps_retN, q w .non σ A [] t (WLeS.refl _ _) ⟨rfl, rfl⟩ own_nil fun a h => absurd h (by simp)⟩
theorem ok_ret (he : OkE X Wx e f) : OkS X Wx (.Return (some e) pos) (fun sl => (f sl).out sl (retF sl)) := by
  intro B sl σ A w t
  refine PostR.out (body := fun D v H1 => D.rt v H1) t (he sl σ A w t.at_) (fun D q => ⟨_, ps_ret pe_we, q⟩) fun z w1 v hz t1 l1 r1 => ?_
  obtain ⟨C, x1, x2, x3⟩ := r1
  have off : ∀ a ∈ C, ¬ B a ∧ a ∉ A := fun a ha => ⟨fun z => x3 a ha (t.oldB a z), fun z => x3 a ha (t.at_.sl.there a z)⟩
  cases z with
  | cl d => exact fun D q => q w1 v σ A C t1 (WLeS.refl _ _) x1 x2 off
  | nw m => exact fun D q => q w1 v σ A C t1 (WLeS.refl _ _) x1 x2 off
  | _ => trivial
theorem ok_mv (C : SxOk c k ck X) {i : Nat} {x : Str} {p2 : Pos} (hN : ck.N[i]? = some x) (hv : visB ck.sc x = true) (hn : nameOk x = true) : OkS X Wx (.Return (some (.Name x p2)) pos) (fun sl => match sl[i]? with
    | some (.ow m) => some (.rt (.nw m) (sl.set i .no))
    | some (.bo _ m) => if m.ms.isSome then some (.rt .al sl) else none
    | _ => none) := by
  intro B sl σ A w t
  cases hi : sl[i]? with
  | none => simp only [hi]; trivial
  | some s =>
    cases s with
    | ow m =>
      simp only [hi]
      obtain ⟨o1, C', q1, q2, q3, q5, q6⟩ := SlR.swap (w2 := w) (.refl _) (.refl _) rfl t.at_.sl hi t.at_.ow.nd
      obtain ⟨v, rfl, q2⟩ := q2
      obtain ⟨A', p1, p2, p3'⟩ := q6 .no [] rfl List.nodup_nil (fun a _ _ => Sa.of fun o z => z) (fun a h => absurd h (by simp))
      have p3 : ∀ a ∈ A', a ∈ A ∧ a ∉ C' := fun a ha => (p3' a ha).elim id fun z => absurd z (by simp)
      exact fun D q => ⟨_, ps_ret (pe_slot C.x hN hv hn), v, q1, q w v σ A' C' ⟨⟨t.at_.ok, p1, p2, fun a ha => t.at_.ow.no a (p3 a ha).1⟩, fun a ha => t.nb a (p3 a ha).1, t.bg⟩ (WLeS.refl _ _) q2 ⟨q5, fun a ha => t.at_.ow.no a (q3 a ha)⟩ fun a ha => ⟨t.nb a (q3 a ha), fun z => (p3 a z).2 ha⟩⟩
    | bo j m =>
      simp only [hi]
      obtain ⟨o1, C', q1, q2, q3, q5, _⟩ := SlR.swap (w2 := w) (.refl _) (.refl _) rfl t.at_.sl hi t.at_.ow.nd
      obtain ⟨v, rfl, q0, q2⟩ := q2
      cases hm : m.ms with
      | none => trivial
      | some ms =>
        obtain ⟨a, vs, B', rfl, _⟩ := (ORep.nod hm).mp q2
        exact fun D q => ⟨_, ps_ret (pe_slot C.x hN hv hn), .ref a, q1, q w (.ref a) σ A [] t (WLeS.refl _ _) ⟨⟨a, rfl⟩, rfl⟩ own_nil fun a h => absurd h (by simp)⟩
    | _ => simp only [hi]; trivial
/-! ### if -/
theorem out_tst {sl : Sl} (r : R XV) (F : Bool → RO) : (r.out sl fun x => match x.b with | some q => F q | none => none) = (tst r).out sl F := by
  cases r with
  | stuck => rfl
  | exc e => rfl
  | ok x =>
    show (match x.b with | some q => F q | none => none) = (R.of x.b).out sl F
    cases x.b <;> rfl
theorem ok_ifs (hc : OkT X Wx e f) (ha : OkSs X Wx xs h) (hb : OkSs X Wx ys h') : OkS X Wx (.If e xs ys pos) (fun sl => (tst (f sl)).out sl fun q => if q then h sl else h' sl) := by
  intro B sl σ A w t
  refine PostR.out (body := fun D q H1 => if q = true then weSs X xs D σ H1 else weSs X ys D σ H1) t (hc sl σ A w t.at_) (fun D q => ⟨_, ps_if pt_we pss_we pss_we, q⟩) fun q w1 v hz t1 l1 r1 => ?_
  subst r1
  cases q with
  | true => exact (ha B sl σ A w1 t1).imp fun D q => iteT q
  | false => exact (hb B sl σ A w1 t1).imp fun D q => iteF q
/-! ### while -/
/-- what a loop's turn leaves -/
def turnF (r : RO) (go : Sl → RO) : RO := match r with
  | some (.nx s') => go s'
  | some (.ct s') => go s'
  | some (.bk s') => some (.nx s')
  | r => r
/-- what is wanted of a whole loop -/
def Want (K : PySem.W.Frag) (Wx : WX) (B : Addr → Prop) (w0 : Wd) (o : Out) (D : Ends) : Prop := match o with
  | .nx sl => ∀ w' σ A, AtS K B sl σ A w' → WLeS B w0 w' → D.nx σ w'.H
  | .bk sl => ∀ w' σ A, AtS K B sl σ A w' → WLeS B w0 w' → D.bk σ w'.H
  | .ct sl => ∀ w' σ A, AtS K B sl σ A w' → WLeS B w0 w' → D.ct σ w'.H
  | .rt x sl => ∀ w' v σ A C, AtS K B sl σ A w' → WLeS B w0 w' → XR1 K w' x v C → Own w' C → (∀ a ∈ C, ¬ B a ∧ a ∉ A) → D.rt v w'.H
  | .ex e sl => ∀ w' σ A cls d, AtS K B sl σ A w' → WLeS B w0 w' → ExnR K w'.H e cls d → Wx cls d σ w'.H
theorem PostS.of {K : PySem.W.Frag} {B : Addr → Prop} {w : Wd} {r : RO} {T : Ends → Prop} (hh : ∀ o, r = some o → ∀ D, Want K Wx B w o D → T D) : PostS K Wx B w r T := by
  cases r with
  | none => trivial
  | some o => cases o <;> exact fun D q => hh _ rfl D q
theorem PostS.get {K : PySem.W.Frag} {B : Addr → Prop} {w : Wd} {r : RO} {T : Ends → Prop} (p : PostS K Wx B w r T) {o : Out} (hr : r = some o) {D : Ends} (q : Want K Wx B w o D) : T D := by
  subst hr
  cases o <;> exact p D q
theorem Want.from {K : PySem.W.Frag} {B : Addr → Prop} {w0 w : Wd} {o : Out} {D : Ends} (l : WLeS B w0 w) (h : Want K Wx B w0 o D) : Want K Wx B w o D := by
  cases o with
  | nx sl => exact fun w' σ A t l' => h w' σ A t (l.trans l')
  | bk sl => exact fun w' σ A t l' => h w' σ A t (l.trans l')
  | ct sl => exact fun w' σ A t l' => h w' σ A t (l.trans l')
  | rt x sl => exact fun w' v σ A C t l' r o n => h w' v σ A C t (l.trans l') r o n
  | ex e sl => exact fun w' σ A cls d t l' r => h w' σ A cls d t (l.trans l') r
/-- a turn: from what is wanted of the loop to what the body is to reach; N: the next turn's word -/
theorem turn_body {B : Addr → Prop} {sl : Sl} {σ : L2.St} {A : List Addr} {w w0 : Wd} {D : Ends} {N : L2.St → Hp → Prop} {go : Sl → RO} {o : Out} (hb : OkSs X Wx xs h) (t : AtS X.K B sl σ A w) (l : WLeS B w0 w) (hW : Want X.K Wx B w0 o D)
    (ho : turnF (h sl) go = some o) (hN : ∀ s' w' σ' A', AtS X.K B s' σ' A' w' → WLeS B w0 w' → go s' = some o → N σ' w'.H) : weSs X xs { D with nx := N, ct := N, bk := D.nx } σ w.H := by
  have p := hb B sl σ A w t
  cases hr : h sl with
  | none => rw [hr] at ho; cases ho
  | some o1 =>
    rw [hr] at ho
    cases o1 with
    | nx s' => exact p.get hr fun w' σ' A' t' l' => hN s' w' σ' A' t' (l.trans l') ho
    | ct s' => exact p.get hr fun w' σ' A' t' l' => hN s' w' σ' A' t' (l.trans l') ho
    | bk s' =>
      cases ho
      exact p.get hr fun w' σ' A' t' l' => hW w' σ' A' t' (l.trans l')
    | rt x s' =>
      cases ho
      exact p.get hr fun w' v σ A C t' l' r o n => hW w' v σ A C t' (l.trans l') r o n
    | ex e s' =>
      cases ho
      exact p.get hr fun w' σ' A' cls d t' l' r => hW w' σ' A' cls d t' (l.trans l') r
theorem loopN_tst (t : Sl → R XV) (bb : Sl → RO) (n : Nat) (sl : Sl) : loopN t bb (n + 1) sl = (tst (t sl)).out sl fun q => if q then turnF (bb sl) (loopN t bb n) else some (.nx sl) := by
  rw [← out_tst (t sl)]
  show ((t sl).out sl fun x => _) = _
  congr 1
  funext x
  cases x.b with
  | none => rfl
  | some q => cases q <;> rfl
theorem ok_whl (C : SxOk c k ck X) (hc : OkT X Wx e f) (hb : OkSs X Wx xs h) : OkS X Wx (.While e xs [] pos) (fun sl => whl f h sl) := by
  intro B sl0 σ0 A0 w0 t0
  refine PostS.of fun o ho D hW => ?_
  obtain ⟨n, hn⟩ := whl_some ho
  refine ⟨_, ps_while C.po pt_we pss_we, fun m σ H => ∃ sl A w, H = w.H ∧ AtS X.K B sl σ A w ∧ WLeS B w0 w ∧ loopN f h m sl = some o, ⟨n, sl0, A0, w0, rfl, t0, WLeS.refl _ _, hn⟩, ?_⟩
  rintro m σ H ⟨sl, A, w, rfl, t, l, hm⟩
  cases m with
  | zero => cases hm
  | succ m =>
    rw [loopN_tst] at hm
    have q := hc sl σ A w t.at_
    cases hf : tst (f sl) with
    | stuck => rw [hf] at hm; cases hm
    | exc ex =>
      rw [hf] at hm q
      cases hm
      exact q _ fun w' cls d k' l' er => hW w' σ A cls d (t.mono l' k') (l.trans (l'.s t)) er
    | ok b =>
      rw [hf] at hm q
      have hm' : (if b then turnF (h sl) (loopN f h m) else some (.nx sl)) = some o := hm
      refine q _ fun w' b' k' l' rb => ?_
      subst rb
      have t' := t.mono l' k'
      have l2 := l.trans (l'.s t)
      cases b with
      | false => cases hm'; exact iteF (hW w' σ A t' l2)
      | true =>
        refine iteT ⟨fun σ' H' => ∃ sl A w, H' = w.H ∧ AtS X.K B sl σ' A w ∧ WLeS B w0 w ∧ loopN f h m sl = some o, fun σ' H' z => ⟨m, Nat.lt_succ_self m, z⟩, ?_⟩
        exact turn_body hb t' l2 hW hm' fun s' w2 σ' A' t2 l3 hg => ⟨s', A', w2, rfl, t2, l3, hg⟩
/-! ### for -/
theorem forL_X (t : Tg) (bb : Sl → RO) : ∀ (ds : List Mo.D) (sl : Sl), forL (tgo t) bb ds sl = forX (tgx t) bb (ds.map .cl) sl
  | [], _ => rfl
  | d :: ds, sl => by
    unfold forL
    rw [List.map_cons]
    unfold forX
    rw [tgo_tgx]
    cases tgx t (.cl d) sl with
    | none => rfl
    | some s1 =>
      simp only
      cases bb s1 with
      | none => rfl
      | some o => cases o <;> simp only [forL_X t bb ds]
theorem forI_l (t : Tg) (bb : Sl → RO) (sl : Sl) (its : Its) : forI t bb sl its = forX (tgx t) bb its.l sl := by
  cases its with
  | ds ds => exact forL_X t bb ds sl
  | xs xs => rfl
theorem forX_turn (gg : XV → Sl → Option Sl) (bb : Sl → RO) (d : XV) (ds : List XV) (sl : Sl) : forX gg bb (d :: ds) sl = match gg d sl with
    | none => none
    | some s1 => turnF (bb s1) (forX gg bb ds) := by
  unfold forX
  cases gg d sl with
  | none => rfl
  | some s1 => cases hb : bb s1 with
    | none => rfl
    | some o => cases o <;> rfl
/-- a loop over items: the places, turn by turn -/
def ForP (X : Cx) (B : Addr → Prop) (w0 : Wd) (gg : XV → Sl → Option Sl) (bb : Sl → RO) (ds : List XV) (o : Out) (i : Nat) : L2.St → Hp → Prop := fun σ H => ∃ sl A w, H = w.H ∧ AtS X.K B sl σ A w ∧ WLeS B w0 w ∧ forX gg bb (ds.drop i) sl = some o
theorem folded_no {e : Expr} (h : notSet e = true) (env : Env) (x : Value) : foldedSetIterable e env x = pure x := by
  cases e <;> first | rfl | (cases h; done)
theorem ok_for_at (C : SxOk c k ck X) {tt : Tg} {x it : Expr} {r : R Its} {B : Addr → Prop} {sl0 : Sl} {σ0 : L2.St} {A0 : List Addr} {w0 : Wd} (hs : notSet it = true) (t0 : AtS X.K B sl0 σ0 A0 w0) (q : PostR X.K Wx (fun w' its J => Goes X.K J w' its.l) σ0 w0 r (weI X x it σ0 w0.H)) (ht : chkT ck.N (locB ck.sc) tt x = true) (hb : OkSs X Wx xs h) :
    PostS X.K Wx B w0 (r.out sl0 (forI tt h sl0)) (fun D => weS X (.For x it xs [] pos) D σ0 w0.H) := by
  refine PostS.of fun o ho D hW => ?_
  cases hr : r with
  | stuck => rw [hr] at ho; cases ho
  | exc ex =>
    rw [hr] at ho q
    cases ho
    exact ⟨_, ps_for C.po C.x.calm pi_we pg_we pss_we (folded_no hs _), q _ fun w1 cls d k1 l1 er => hW w1 σ0 A0 cls d (t0.mono l1 k1) (l1.s t0) er⟩
  | ok its =>
    rw [hr] at ho q
    have ho' : forX (tgx tt) h its.l sl0 = some o := by rw [← forI_l]; exact ho
    clear ho
    obtain ⟨ds, hds⟩ : ∃ ds, ds = its.l := ⟨_, rfl⟩
    rw [← hds] at ho'
    refine ⟨_, ps_for C.po C.x.calm pi_we pg_we pss_we (folded_no hs _), q _ fun w1 J k1 l1 G => ?_⟩
    have hW1 := hW.from (l1.s t0)
    replace G : Goes X.K J w1 ds := by rw [hds]; exact G
    refine ⟨fun i m σ H => m = ds.length - i ∧ i ≤ ds.length ∧ ForP X B w1 (tgx tt) h ds o i σ H, ⟨ds.length, rfl, Nat.zero_le _, sl0, A0, w1, rfl, t0.mono l1 k1, WLeS.refl _ _, ho'⟩, ?_⟩
    rintro i m σ H ⟨rfl, hil, sl, A, w, rfl, t, l, hf⟩
    rcases Nat.lt_or_ge i ds.length with hlt | hge
    · refine .inr ⟨G.go w t.at_.ok l.f l.g i hlt, ForP X B w1 (tgx tt) h ds o (i + 1), fun σ' H' p => ⟨ds.length - (i + 1), by omega, rfl, hlt, p⟩, fun y H' hy => ?_⟩
      obtain ⟨w3, d, rfl, k3, l3, hd, r3⟩ := G.yld w t.at_.ok l.f l.g i y H' hy hlt
      have hdrop : ds.drop i = d :: ds.drop (i + 1) := by
        rw [List.drop_eq_getElem_cons hlt]
        rw [List.getElem?_eq_getElem hlt] at hd
        cases hd; rfl
      rw [hdrop, forX_turn] at hf
      cases hg : tgx tt d sl with
      | none => rw [hg] at hf; cases hf
      | some s1 =>
        rw [hg] at hf
        have t3 := t.mono l3 k3
        have l13 := l.trans (l3.s t)
        refine ok_tgS C ht t3 r3 own_nil (fun a h => absurd h (by simp)) hg _ fun σ' A' t4 => ?_
        exact turn_body hb t4 l13 hW1 hf fun s' w5 σ5 A5 t5 l5 hg5 => ⟨s', A5, w5, rfl, t5, l5, hg5⟩
    · have e : i = ds.length := Nat.le_antisymm hil hge
      subst e
      rw [List.drop_length] at hf
      cases hf
      exact .inl ⟨G.stop w t.at_.ok l.f l.g, hW1 w σ A t l⟩
theorem ok_for (C : SxOk c k ck X) {tt : Tg} {x it : Expr} {r : Sl → R Its} (hs : notSet it = true) (hi : OkI X Wx x it r) (ht : chkT ck.N (locB ck.sc) tt x = true) (hb : OkSs X Wx xs h) :
    OkS X Wx (.For x it xs [] pos) (fun sl => (r sl).out sl (forI tt h sl)) := fun B sl0 σ0 A0 w0 t0 => ok_for_at C hs t0 (hi sl0 σ0 A0 w0 t0.at_) ht hb
/-! ### raise -/
theorem ok_rse (C : SxOk c k ck X) (tk : Takes X Wx) {x : Str} {m : Str} {j : Nat} {p2 p3 p4 : Pos} {nm : String} (hx : Str.ofString nm = x) (hg : glB ck.sc x = true) (hn : nameOk x = true)
    (hm : X.mg x = some (.ref (He.ga X.K x))) (h1 : PySem.W.excIn X.K (He.ga X.K x) He.veBase "ValueError.__new__" = true) (h2 : PySem.W.keepIn X.K (.ref (He.ga X.K x)) = true) (h3 : PySem.W.subIn X.K (.ref (He.ga X.K x)) (.type "BaseException") = some true) (h4 : PySem.W.typeIn X.K (.ref (He.ga X.K x)) = some (.type "type")) :
    OkS X Wx (.Raise (some (.Call (.Name x p2) [.Constant (.str m) j p3] [] p4)) none pos) (fun sl => some (.ex ⟨nm, [], []⟩ sl)) := by
  subst hx
  intro B sl σ A w t D q
  refine ⟨_, ps_raise C.x.calm tk (pmk_own PySem.F.excBase_ValueError h1 hm h2 (raises_own h3 h4) (glB_ok (by rw [C.x.sc]; exact hg)) (nameOk_d hn).1), ?_⟩
  exact q w σ A _ none t (WLeS.refl _ _) ⟨rfl, rfl, rfl⟩
end
end Mo
namespace Mo
open PySem PySem.Spec PyProof.Rows L2
/-! ### stores while an error is handled: no calls but isinstance -/
mutual
def E.hot : E → Bool
  | .var _ => true
  | .int _ => true
  | .bl _ => true
  | .non => true
  | .str _ => true
  | .bin _ a b => a.hot && b.hot
  | .and a b => a.hot && b.hot
  | .or a b => a.hot && b.hot
  | .not a => a.hot
  | .tup es => es.hot
  | .lst es => es.hot
  | .fz a => a.hot
  | .isx _ _ a => a.hot
  | _ => false
def Es.hot : Es → Bool
  | .nil => true
  | .cons e es => e.hot && es.hot
end
def Ss.hot : Ss → Bool
  | .nil => true
  | .cons (.asg _ e) r => e.hot && r.hot
  | _ => false
/-- the check of such a suite -/
def chkHs (k : Ck) : Ss → List Stmt → Bool
  | .nil, xs => xs.isEmpty
  | .cons (.asg i e) r, xs => match xs with
    | .Assign [.Name x _] v _ :: xs => decide (k.N[i]? = some x) && locB k.sc x && notComp v && chkE k e v && chkHs k r xs
    | _ => false
  | _, _ => false
structure HotE (c : Calls) (k : Nat) (E0 : E) : Prop where
  e : ∀ {X : Cx} {ck : Ck} {Wx : WX}, CxLo c k ck X → E0.hot = true → ∀ {ex : Expr}, chkE ck E0 ex = true → OkE X Wx ex (evE c E0)
  b : ∀ {X : Cx} {ck : Ck} {Wx : WX}, CxLo c k ck X → E0.hot = true → ∀ {op : BoolOp} {xs : List Expr} {pos : Pos}, chkB ck op E0 xs = true → OkE X Wx (.BoolOp op xs pos) (evE c E0)
structure HotA (c : Calls) (k : Nat) (es : Es) : Prop where
  a : ∀ {X : Cx} {ck : Ck} {Wx : WX}, CxLo c k ck X → es.hot = true → ∀ {xs : List Expr}, chkEs ck es xs = true → OkA X Wx xs (evEs c es)
theorem HotE.of {c : Calls} {k : Nat} {e : E} (h1 : ∀ {X : Cx} {ck : Ck} {Wx : WX}, CxLo c k ck X → e.hot = true → ∀ {ex : Expr}, chkE ck e ex = true → OkE X Wx ex (evE c e)) (h3 : ∀ ck op xs, chkB ck op e xs = false) : HotE c k e :=
  ⟨h1, fun {X ck Wx} _ _ {op xs pos} h => (by rw [h3] at h; cases h)⟩
theorem hot_and {c : Calls} {k : Nat} {a b : E} (ga : HotE c k a) (gb : HotE c k b) : HotE c k (.and a b) := by
  have tailE : ∀ {X : Cx} {ck : Ck} {Wx : WX}, CxLo c k ck X → b.hot = true → ∀ {r : Expr} {rs : List Expr} {pos : Pos}, (match rs with | [] => chkE ck b r | _ => chkB ck .And b (r :: rs)) = true → OkE X Wx (.BoolOp .And (r :: rs) pos) (evE c b) := fun {X ck Wx} C hb {r rs pos} h => by
    cases rs with
    | nil => exact ok_one (gb.e C hb h)
    | cons r' rs => exact gb.b C hb h
  have tt : ∀ {p q : Bool}, (p && q) = true → p = true ∧ q = true := fun {p q} h => by simpa using h
  refine ⟨fun {X ck Wx} C hh {ex} h => ?_, fun {X ck Wx} C hh {op xs pos} h => ?_⟩
  · unfold E.hot at hh
    unfold chkE at h
    split at h
    · have h' := tt h
      exact ok_and (ga.e C (tt hh).1 h'.1) (tailE C (tt hh).2 h'.2)
    · cases h
  · unfold E.hot at hh
    unfold chkB at h
    split at h
    · simp only [Bool.and_eq_true, decide_eq_true_eq] at h
      obtain ⟨⟨h0, h1⟩, h2⟩ := h
      subst h0
      exact ok_and (ga.e C (tt hh).1 h1) (tailE C (tt hh).2 h2)
    · cases h
theorem hot_or {c : Calls} {k : Nat} {a b : E} (ga : HotE c k a) (gb : HotE c k b) : HotE c k (.or a b) := by
  have tailE : ∀ {X : Cx} {ck : Ck} {Wx : WX}, CxLo c k ck X → b.hot = true → ∀ {r : Expr} {rs : List Expr} {pos : Pos}, (match rs with | [] => chkE ck b r | _ => chkB ck .Or b (r :: rs)) = true → OkE X Wx (.BoolOp .Or (r :: rs) pos) (evE c b) := fun {X ck Wx} C hb {r rs pos} h => by
    cases rs with
    | nil => exact ok_one (gb.e C hb h)
    | cons r' rs => exact gb.b C hb h
  have tt : ∀ {p q : Bool}, (p && q) = true → p = true ∧ q = true := fun {p q} h => by simpa using h
  refine ⟨fun {X ck Wx} C hh {ex} h => ?_, fun {X ck Wx} C hh {op xs pos} h => ?_⟩
  · unfold E.hot at hh
    unfold chkE at h
    split at h
    · have h' := tt h
      exact ok_or (ga.e C (tt hh).1 h'.1) (tailE C (tt hh).2 h'.2)
    · cases h
  · unfold E.hot at hh
    unfold chkB at h
    split at h
    · simp only [Bool.and_eq_true, decide_eq_true_eq] at h
      obtain ⟨⟨h0, h1⟩, h2⟩ := h
      subst h0
      exact ok_or (ga.e C (tt hh).1 h1) (tailE C (tt hh).2 h2)
    · cases h
mutual
theorem hotE (c : Calls) (k : Nat) : ∀ e : E, HotE c k e
  | .var i => .of (fun {X ck Wx} C hh {ex} h => by
      unfold chkE at h
      split at h
      · simp only [Bool.and_eq_true, decide_eq_true_eq] at h
        exact ok_var C h.1.1 h.1.2 h.2
      · cases h) fun _ _ _ => chkB_no (by simp) (by simp)
  | .int i => .of (fun {X ck Wx} C hh {ex} h => by
      unfold chkE at h
      split at h
      · simp only [decide_eq_true_eq] at h
        subst h
        exact ok_const pe_int fun _ => rfl
      · cases h) fun _ _ _ => chkB_no (by simp) (by simp)
  | .bl b => .of (fun {X ck Wx} C hh {ex} h => by
      unfold chkE at h
      split at h
      · have h' := eq_of_beq h
        subst h'
        exact ok_const pe_bl fun _ => rfl
      · cases h) fun _ _ _ => chkB_no (by simp) (by simp)
  | .non => .of (fun {X ck Wx} C hh {ex} h => by
      unfold chkE at h
      split at h
      · exact ok_const pe_non fun _ => rfl
      · cases h) fun _ _ _ => chkB_no (by simp) (by simp)
  | .str s => .of (fun {X ck Wx} C hh {ex} h => by
      unfold chkE at h
      split at h
      · simp only [decide_eq_true_eq] at h
        subst h
        exact ok_const pe_str fun _ => rfl
      · cases h) fun _ _ _ => chkB_no (by simp) (by simp)
  | .bin o a b => .of (fun {X ck Wx} C hh {ex} h => by
      unfold E.hot at hh
      simp only [Bool.and_eq_true] at hh
      unfold chkE at h
      split at h
      · simp only [Bool.and_eq_true] at h
        exact ok_bin h.1.1 ((hotE c k a).e C hh.1 h.1.2) ((hotE c k b).e C hh.2 h.2)
      · cases h) fun _ _ _ => chkB_no (by simp) (by simp)
  | .and a b => hot_and (hotE c k a) (hotE c k b)
  | .or a b => hot_or (hotE c k a) (hotE c k b)
  | .not a => .of (fun {X ck Wx} C hh {ex} h => by
      unfold E.hot at hh
      unfold chkE at h
      split at h
      · exact ok_not ((hotE c k a).e C hh h)
      · cases h) fun _ _ _ => chkB_no (by simp) (by simp)
  | .tup es => .of (fun {X ck Wx} C hh {ex} h => by
      unfold E.hot at hh
      unfold chkE at h
      split at h
      · exact ok_tup ((hotEs c k es).a C hh h)
      · cases h) fun _ _ _ => chkB_no (by simp) (by simp)
  | .lst es => .of (fun {X ck Wx} C hh {ex} h => by
      unfold E.hot at hh
      unfold chkE at h
      split at h
      · exact ok_lst ((hotEs c k es).a C hh h)
      · cases h) fun _ _ _ => chkB_no (by simp) (by simp)
  | .fz a => .of (fun {X ck Wx} C hh {ex} h => by
      unfold E.hot at hh
      unfold chkE at h
      exact ok_fz ((hotE c k a).e C hh h)) fun _ _ _ => chkB_no (by simp) (by simp)
  | .isx ds cs a => .of (fun {X ck Wx} C hh {ex} h => by
      unfold E.hot at hh
      unfold chkE at h
      split at h
      · simp only [Bool.and_eq_true, decide_eq_true_eq, List.contains_iff_mem, List.all_eq_true] at h
        obtain ⟨⟨⟨⟨⟨⟨⟨⟨⟨h1, h2⟩, h3⟩, h4⟩, h5⟩, h6⟩, h7⟩, h8⟩, h9⟩, h10⟩ := h
        subst h1
        match cs, h4, h7 with
        | [cl], h4, h7 =>
          have h4' : Str.ofString cl = _ := List.singleton_inj.mp h4
          refine ok_isx C h2 h3 h4' h5 h6 (fun d hd => h7 d hd cl (by simp)) ?_ h8 ((hotE c k a).e C hh h9)
          cases ds with
          | nil => cases h10
          | cons d _ => exact ⟨d, by simp⟩
        | [], h4, _ => cases h4
        | _ :: _ :: _, h4, _ => cases h4
      · simp only [Bool.and_eq_true, decide_eq_true_eq, List.contains_iff_mem, List.all_eq_true] at h
        obtain ⟨⟨⟨⟨⟨⟨⟨⟨⟨h1, h2⟩, h3⟩, h4⟩, h5⟩, h6⟩, h7⟩, h8⟩, h9⟩, h10⟩ := h
        subst h1
        refine ok_isxT C h2 h3 h4 (fun d hd y hy => h5 d hd y hy) ?_ ?_ h8 h6 ((hotE c k a).e C hh h7)
        · cases ds with
          | nil => cases h9
          | cons d _ => exact ⟨d, by simp⟩
        · cases cs with
          | nil => cases h10
          | cons d _ => exact ⟨d, by simp⟩
      · cases h) fun _ _ _ => chkB_no (by simp) (by simp)
  | .gi _ _ | .gs _ _ | .neg _ | .cmp _ _ _ | .isN _ | .notN _ | .chn _ _ _ _ _ | .ife _ _ _ | .sub _ _ | .call _ _ | .blt _ _ | .isi _ _ | .comp _ _ _ _ | .fld _ _ _ | .mth _ _ _ _ | .mk _ _ | .dnew | .disp _ | .sli _ _ _ | .dgt _ _ _ | .dg1 _ _ | .srt _ _ _ | .sm0 _ _ | .sm1 _ _ _ | .lrng _ _ => .of (fun {X ck Wx} C hh {ex} h => by unfold E.hot at hh; cases hh) fun _ _ _ => chkB_no (by simp) (by simp)
theorem hotEs (c : Calls) (k : Nat) : ∀ es : Es, HotA c k es
  | .nil => ⟨fun {X ck Wx} C hh {xs} h => by
      unfold chkEs at h
      cases xs with
      | nil => exact okA_nil
      | cons _ _ => cases h⟩
  | .cons e es => ⟨fun {X ck Wx} C hh {xs} h => by
      unfold Es.hot at hh
      simp only [Bool.and_eq_true] at hh
      unfold chkEs at h
      split at h
      · simp only [Bool.and_eq_true] at h
        exact okA_cons h.2 ((hotE c k e).e C hh.1 h.1.1) ((hotEs c k es).a C hh.2 h.1.2)
      · cases h⟩
end
/-- a suite of such stores -/
theorem hotSs {c : Calls} {k : Nat} {ck : Ck} {X : Cx} {Wx : WX} (C : CxLo c k ck X) (fn : ∀ x, X.fn x = true) : ∀ {ss : Ss} {xs : List Stmt}, ss.hot = true → chkHs ck ss xs = true → OkSs X Wx xs (evSs c ss)
  | .nil, xs, _, h => by
    unfold chkHs at h
    cases xs with
    | nil => exact okSs_nil
    | cons _ _ => cases h
  | .cons (.asg i e) r, xs, hh, h => by
    unfold Ss.hot at hh
    simp only [Bool.and_eq_true] at hh
    unfold chkHs at h
    split at h
    · simp only [Bool.and_eq_true, decide_eq_true_eq] at h
      obtain ⟨⟨⟨⟨h1, h2⟩, h3⟩, h4⟩, h5⟩ := h
      refine okSs_cons ?_ (hotSs C fn hh.2 h5)
      intro B sl σ A w t
      refine PostR.out (body := fun D v H1 => D.nx (σ.set i (some v)) H1) t ((hotE c k e).e C hh.1 h4 sl σ A w t.at_) (fun D q => ⟨_, ps_set C.nd (by rw [C.N]; exact h1) (locB_ok (by rw [C.sc]; exact h2)) pe_we (swaps_no h3 _ _ _) (.inl (fn _)), q⟩) fun z w1 v hz t1 l1 r1 => ?_
      cases hk : z.keep with
      | none => trivial
      | some s =>
        obtain ⟨A', t2⟩ := t.keep t1 r1 hk i
        exact fun D q => q w1 _ A' t2 (WLeS.refl _ _)
    · cases h
end Mo
namespace Mo
open PySem PySem.Spec PyProof.Rows L2
/-! ### calls that change the thing at a place -/
theorem argsSL_rep {K : PySem.W.Frag} {w : Wd} {H : Hp} : ∀ {xs : List XV} {vs : List V} {B : List Addr} {ss : List SV}, XsR1 K w xs vs B → argsSL xs = some ss → ArgsR K w.F w.G H ss vs [] ∧ bvs ss vs = []
  | [], vs, _, _, ⟨h, _⟩, e => by cases e; exact ⟨⟨h, rfl⟩, by rw [h]; rfl⟩
  | x :: xs, _, _, _, ⟨v, r, B1, B2, e1, e2, e3, e4⟩, e => by
    cases q : argsSL xs with
    | none => simp only [argsSL, q] at e; cases hx : x.argS <;> rw [hx] at e <;> cases e
    | some ss =>
      cases hx : x.argS with
      | none => simp only [argsSL, hx] at e; cases e
      | some s =>
        simp only [argsSL, hx, q] at e
        cases e
        obtain ⟨i1, i2⟩ := argsSL_rep (H := H) e3 q
        subst e1
        cases x with
        | cl d => cases hx; exact ⟨⟨v, r, [], [], rfl, ⟨e2.1, rfl⟩, i1, rfl⟩, i2⟩
        | lk m => cases hx; obtain ⟨A, o⟩ := e2.1; exact ⟨⟨v, r, [], [], rfl, ⟨⟨A, o⟩, rfl⟩, i1, rfl⟩, i2⟩
        | tm m => cases hx
        | nw m => cases hx
        | al => cases hx
        | mu _ _ => cases hx
theorem argsG {K : PySem.W.Frag} {F G G' H H' : Hp} (e : Ex G G') : ∀ {ss : List SV} {vs : List V}, ArgsR K F G H ss vs [] → bvs ss vs = [] → ArgsR K F G' H' ss vs []
  | [], _, h, _ => h
  | s :: ss, _, ⟨v, r, A1, A2, e1, e2, e3, e4⟩, hb => by
    obtain ⟨rfl, rfl⟩ := List.append_eq_nil_iff.mp e4.symm
    subst e1
    cases s with
    | cl d => exact ⟨v, r, [], [], rfl, e2, argsG e e3 hb, rfl⟩
    | lk m => obtain ⟨⟨B, o⟩, _⟩ := e2; exact ⟨v, r, [], [], rfl, ⟨⟨B, o.mono (.refl _) fun a _ o z => e a o z⟩, rfl⟩, argsG e e3 hb, rfl⟩
    | bo i m => cases hb
    | no => exact e2.elim
    | ow m => exact e2.elim
section
variable {K : PySem.W.Frag} {B : Addr → Prop} {sl : Sl} {σ : L2.St} {A : List Addr} {w : Wd}
/-- the thing at a place is handed to a def that changes it -/
theorem mut_base (t : AtS K B sl σ A w) {p : Pt} {v1 : V} (h : PtR K sl σ w p v1) : ∃ C, ORep K w.F w.H p.m v1 C ∧ C.Nodup ∧ (∀ a ∈ C, a ∈ A) ∧ Ex w.F (minus w.H C) ∧ Ex w.G (minus w.H C) ∧ (∀ a ∈ C, ∀ o u, w.H a ≠ some (.frz o u)) ∧
    ∀ F' H' m' A' B', Ex w.F F' → Ex F' H' → Ex (minus w.H C) H' → NewF (minus w.H C) w.F F' → EndR K w.H C F' H' [v1] [m'] B' A' → ∃ A2, AtS K B (putS sl p.i p.π m') σ A2 (w.called F' H') ∧ WLeS B w (w.called F' H') := by
  obtain ⟨C, p1, p2, p3, p4⟩ := t.chg h
  have gC : ∀ a o, w.G a = some o → a ∉ C := fun a o q z => by
    rw [(t.at_.ow.no a (p2 a z)).1] at q; cases q
  have eG : Ex w.G (minus w.H C) := fun a o q => by
    rw [minus_at (gC a o q)]; exact t.at_.ok.gh a o q
  refine ⟨C, p1, p3, p2, t.at_.ok.fg.trans eG, eG, fun a ha => (t.at_.ow.no a (p2 a ha)).2, fun F' H' m' A' B' e1 e2 e3 e4 en => ?_⟩
  have kw : WOk (w.called F' H') := Wd.called_ok e2 (eG.trans e3)
  have old : ∀ a, a ∉ C → w.H a ≠ none → minus w.H C a ≠ none := fun a h1 h2 => by rw [minus_at h1]; exact h2
  have lw : WLeS B w (w.called F' H') := ⟨e1, Wd.called_g F' H', fun a hb q => e4 a (old a (fun z => t.nb a (p2 a z) hb) (t.oldB a hb)) q, rfl⟩
  have gz : ∀ a, w.G a = none → F' a = none → (w.called F' H').G a = none := fun a h1 h2 => by
    show (match w.G a with | some o => some o | none => F' a) = none
    rw [h1]; exact h2
  obtain ⟨v', r', A1, A2, q1, q2, ⟨q3, q5⟩, q4⟩ := en.ms
  cases q1
  rw [q5, List.append_nil] at q4
  subst q4
  have mem : ∀ a ∈ A', a ∈ B' ++ A' := fun a h => List.mem_append_right _ h
  obtain ⟨A3, r1, _⟩ := p4 (w.called F' H') m' A' kw lw (fun a ha hc o q => e3 a o (by rw [minus_at hc]; exact q)) (fun a ha hc => by
      have g0 := (t.at_.ow.no a ha).1
      exact gz a g0 (e4 a (old a hc (t.at_.sl.there a ha)) (t.at_.ok.fg.free g0))) q2 ⟨(List.nodup_append.mp en.nd).2.1, fun a ha => by
      have no := en.no a (mem a ha)
      refine ⟨gz a ?_ no.1, no.2⟩
      rcases en.na a ha with z | z
      · exact (t.at_.ow.no a (p2 a z)).1
      · exact t.at_.ok.gh.free z⟩ (fun a ha => by
      rcases en.na a ha with z | z
      · exact .inl z
      · exact .inr ⟨fun y => t.at_.sl.there a y z, fun y => t.oldB a y z⟩)
  exact ⟨A3, r1, lw⟩
end
theorem dst_out {α : Type} (d : Ds) (sl : Sl) (r : R α) (f : α → RM) : dstF d (r.outM sl f) = r.out sl fun a => dstF d (f a) := by
  cases r <;> rfl
section
variable {c : Calls} {k : Nat} {ck : Ck} {X : Cx} {Wx : WX} {fs : Sl → R (List XV)} {fp : Sl → R Pt} {pos : Pos}
/-- o.m(..) as a statement, where o is a place -/
theorem ok_mxd (C : SxOk c k ck X) (tk : Takes X Wx) {cl m : String} {x : Str} {o : Expr} {ls : List Expr} {apos cpos : Pos} (hx : Str.ofString m = x) (hc : cl ∈ ck.cls) (hn : (cl, m) ∈ ck.mth) (hb : attOk o = true) (hl : (apos.endLine == cpos.line) = true) (h20 : ls.length < 20)
    (hs : ∀ e r, ls = e :: r → notStar e = true ∧ (backTo cpos (starEach r X.env)).any (·.1) = false) (hnil : ls = [] → fs = fun _ => .ok []) (ho : OkP X Wx o fp) (hA : OkA X Wx ls fs) :
    OkS X Wx (.Expr (.Call (.Attribute o x apos) ls [] cpos) pos) (fun sl => dstF .drop ((fp sl).outM sl fun p => if isIns cl (Str.ofString m) (.tm p.m) then (fs sl).outM sl fun xs => (match argsSL xs with
      | some ss => callF sl p (c (cl ++ "." ++ m) (.bo 0 p.m :: ss))
      | none => .stuck) else .stuck)) := by
  intro B sl σ A w t
  subst hx
  obtain ⟨fa, fd, ps, hm, hbd, F⟩ := C.x.mth _ _ hn
  have P : PE X (.Call (.Attribute o (Str.ofString m) apos) ls [] cpos) (tMethP (He.ga X.K (Str.ofString cl)) (Str.ofString m) (spR X.K (c (cl ++ "." ++ m))) (WE Wx) (weE X o) (mTA X ls)) := by
    cases ls with
    | nil => exact pe_methP0 pe_we (C.x.cls _ hc) hm F (C.x.room.mono (Nat.le_succ _)) hbd (fun σ => passAt tk σ) hb hl
    | cons e r => exact pe_methP pe_we (C.x.cls _ hc) hm F (C.x.room.mono (Nat.le_succ _)) hbd (fun σ => passAt tk σ) pa_we (hs e r rfl).1 (hs e r rfl).2 hb hl h20
  have qA : ∀ w1, At X.K sl σ A w1 → PostR X.K Wx (fun w' x v => XsRep X.K (old w1) w' x v) σ w1 (fs sl) ((mTA X ls) σ w1.H) := fun w1 t1 => by
    cases ls with
    | nil => rw [hnil rfl]; exact fun Q q => q w1 [] t1.ok (WLe.refl _) ⟨[], ⟨rfl, rfl⟩, own_nil, fun a h => absurd h (by simp)⟩
    | cons e r => exact hA sl σ A w1 t1
  show PostS _ _ _ _ (dstF .drop ((fp sl).outM sl _)) _
  rw [dst_out]
  refine PostR.out (body := fun D (x : V) H1 => ∃ a dx fs', x = .ref a ∧ H1 a = some (.ins (He.ga X.K (Str.ofString cl)) dx fs') ∧ fs'.lookup (Str.ofString m) = none ∧ (mTA X ls) σ H1 fun vs H2 => spR X.K (c (cl ++ "." ++ m)) (x :: vs) H2 (fun _ H3 => D.nx σ H3) (WE Wx σ)) t (ho sl σ A w t.at_) (fun D q => ⟨_, ps_expr P, q⟩) fun p w1 v1 hp t1 l1 r1 => ?_
  by_cases hi : isIns cl (Str.ofString m) (.tm p.m) = true
  · rw [if_pos hi, dst_out]
    obtain ⟨C0, z1, z2, z3⟩ := r1.rep t1.at_
    have rx : XRep X.K (old w1) w1 (.tm p.m) v1 := ⟨[], ⟨⟨C0, z1⟩, rfl⟩, own_nil, fun a h => absurd h (by simp)⟩
    obtain ⟨a, dx, fs', rfl, e2, e3⟩ := isIns_at t1.at_.ok rx hi
    refine PostR.out (body := fun D (vs : List V) H2 => spR X.K (c (cl ++ "." ++ m)) (.ref a :: vs) H2 (fun _ H3 => D.nx σ H3) (WE Wx σ)) t1 (qA w1 t1.at_) (fun D q => ⟨a, dx, fs', rfl, e2, e3, q⟩) fun xs w2 vs hxs t2 l2 r2 => ?_
    cases ha : argsSL xs with
    | none => trivial
    | some ss =>
      simp only
      obtain ⟨Bx, y1, _, _⟩ := r2
      obtain ⟨i1, i2⟩ := argsSL_rep (H := w2.H) y1 ha
      obtain ⟨C1, u1, u2, u3, u4, u5, u6, u7⟩ := mut_base t2 (r1.mono l2)
      have hbv : bvs (.bo 0 p.m :: ss) (.ref a :: vs) = [.ref a] := by
        show V.ref a :: bvs ss vs = _
        rw [i2]
      have sp : ∀ {Q : VK} {E : XK}, RetP X.K w2.F w2.H C1 [.ref a] (c (cl ++ "." ++ m) (.bo 0 p.m :: ss)) Q E → spR X.K (c (cl ++ "." ++ m)) (.ref a :: vs) w2.H Q E := fun {Q E} q =>
        ⟨.bo 0 p.m :: ss, w2.F, C1, u4, ⟨.ref a, vs, C1, [], rfl, u1, argsG u5 i1 i2, by simp⟩, u2, u6, by rw [hbv]; exact q⟩
      cases hc0 : c (cl ++ "." ++ m) (.bo 0 p.m :: ss) with
      | stuck => trivial
      | ok z =>
        unfold callF
        cases z with
        | mu z0 ms =>
          cases ms with
          | nil => trivial
          | cons m' mr =>
            cases mr with
            | nil =>
              refine fun D q => sp ?_
              rw [hc0]
              intro F' H' v f1 f2 f3 f4 ⟨B', A', x0, en⟩
              obtain ⟨A2, t3, l3⟩ := u7 F' H' m' A' B' f1 f2 f3 f4 en
              exact q _ σ A2 t3 l3
            | cons _ _ => trivial
        | _ => trivial
      | exc ex =>
        unfold callF
        cases hms : ex.ms with
        | nil => simp only [hms]; trivial
        | cons m' mr =>
          cases mr with
          | cons _ _ => simp only [hms]; trivial
          | nil =>
            simp only [hms]
            refine fun D q => sp ?_
            rw [hc0]
            intro F' H' A' cls d f1 f2 f3 f4 en er
            rw [hms] at en
            obtain ⟨A2, t3, l3⟩ := u7 F' H' m' A' [] f1 f2 f3 f4 en
            exact q _ σ A2 cls d t3 l3 er
  · rw [if_neg hi]; trivial
theorem ORepL.erase {K : PySem.W.Frag} {F H : Hp} {ms : List MO} {vs : List V} {A : List Addr} (h : ORepL K F H ms vs A) (nd : A.Nodup) (j : Nat) : ∃ A', ORepL K F H (ms.eraseIdx j) (vs.eraseIdx j) A' ∧ A'.Nodup ∧ ∀ a ∈ A', a ∈ A := by
  obtain ⟨A1, A2, rfl, h1, h2⟩ := h.split j
  obtain ⟨A3, A4, rfl, h3, h4⟩ := h2.split 1
  have n1 := List.nodup_append.mp nd
  have n2 := List.nodup_append.mp n1.2.1
  rw [List.drop_drop] at h4
  rw [List.drop_drop] at h4
  refine ⟨A1 ++ A4, ?_, ?_, fun a ha => ?_⟩
  · rw [List.eraseIdx_eq_take_drop_succ, List.eraseIdx_eq_take_drop_succ]
    exact h1.append h4
  · rw [List.nodup_append]
    exact ⟨n1.1, n2.2.1, fun a ha b hb z => n1.2.2 a ha b (List.mem_append_right _ hb) z⟩
  · rcases List.mem_append.mp ha with q | q
    · exact List.mem_append_left _ q
    · exact List.mem_append_right _ (List.mem_append_right _ q)
/-- x.append(y.pop(e)) -/
theorem ok_apop (C : SxOk c k ck X) {i j : Nat} {f : Sl → R XV} {x y : Str} {v : Expr} {px py ap1 ap2 cp1 cp2 : Pos} {a1 a2 : Str} (h1 : a1 = "append") (h2 : a2 = "pop") (hi : ck.N[i]? = some x) (hx : visB ck.sc x = true) (hxn : nameOk x = true) (hj : ck.N[j]? = some y) (hy : visB ck.sc y = true) (hyn : nameOk y = true)
    (hs : notStar v = true) (hl1 : (ap1.endLine == cp1.line) = true) (hl2 : (ap2.endLine == cp2.line) = true) (he : OkE X Wx v f) :
    OkS X Wx (.Expr (.Call (.Attribute (.Name x px) a1 ap1) [.Call (.Attribute (.Name y py) a2 ap2) [v] [] cp2] [] cp1) pos)
      (fun sl => (ptV sl i).out sl fun p => if p.m.isL then (ptV sl j).out sl fun q => if q.m.isL then (f sl).out sl fun y => apopF sl i q y else none else none) := by
  subst h1 h2
  intro B sl σ A w t
  have P2 : PE X (.Call (.Attribute (.Name y py) "pop" ap2) [v] [] cp2) _ := pe_bm (T := "list") PySem.F.plainAttrs_list PySem.F.slot_list_pop PySem.F.type_list_pop mt_popAt (pe_slot C.x hj hy hyn) (pa_cons pe_we pa_nil (star_cons hs _ _)) (att_base rfl _ _ _)
    (by rw [star_cons hs]; rfl) hl2 (star_cons hs _ _) rfl
  have P : PE X (.Call (.Attribute (.Name x px) "append" ap1) [.Call (.Attribute (.Name y py) "pop" ap2) [v] [] cp2] [] cp1) _ := pe_bm (T := "list") PySem.F.plainAttrs_list PySem.F.slot_list_append PySem.F.type_list_append mt_append (pe_slot C.x hi hx hxn) (pa_cons P2 pa_nil (star_cons rfl _ _)) (att_base rfl _ _ _)
    (by rw [star_cons rfl]; rfl) hl1 (star_cons rfl _ _) rfl
  show PostS _ _ _ _ ((ptV sl i).out sl _) _
  cases hpi : ptV sl i with
  | stuck => trivial
  | exc e => unfold ptV at hpi; split at hpi <;> cases hpi
  | ok p =>
    obtain ⟨v1, s1, r1⟩ := PtR.slot t.at_ hpi
    show PostS _ _ _ _ (if p.m.isL then _ else none) _
    cases hm1 : p.m with
    | lst ms1 =>
      simp only [MO.isL, if_true]
      obtain ⟨b1, vs1, _, rfl, g1, _⟩ := t.lst r1 hm1
      cases hpj : ptV sl j with
      | stuck => trivial
      | exc e => unfold ptV at hpj; split at hpj <;> cases hpj
      | ok q =>
        obtain ⟨v2, s2, r2⟩ := PtR.slot t.at_ hpj
        show PostS _ _ _ _ (if q.m.isL then _ else none) _
        cases hm2 : q.m with
        | lst ms2 =>
          simp only [MO.isL, if_true]
          obtain ⟨b2, vs2, _, rfl, g2, _⟩ := t.lst r2 hm2
          refine PostR.out (body := fun D (z : V) H2 => rPopAt (.ref b2) [z] H2 fun y H3 => rAppend (.ref b1) [y] H3 fun _ H4 => D.nx σ H4) t (he sl σ A w t.at_) (fun D qq => ⟨_, ps_expr P, .ref b1, s1, .inl ⟨rfl, vs1, .inl (.inl g1)⟩, .ref b2, s2, .inl ⟨rfl, vs2, .inl (.inl g2)⟩, qq⟩) fun z w1 vz hz t1 l1 rz => ?_
          unfold apopF
          rw [hm2]
          split
          · rename_i ms n q1
            cases q1
            by_cases hbd : -(2 ^ 63) ≤ n ∧ n < 2 ^ 63
            · rw [if_pos hbd]
              cases hk : ixN ms2.length n with
              | none => trivial
              | some kk =>
                simp only
                cases hmk : ms2[kk]? with
                | none => trivial
                | some mk =>
                  cases mk with
                  | cl d =>
                    simp only
                    obtain ⟨b', vs', C', e1, g2', g3, g4, g5, g6⟩ := t1.lst (r2.mono l1) hm2
                    cases e1
                    obtain ⟨A2, p1, p2, p3⟩ := g3.erase g4 kk
                    obtain ⟨A', t3, l3⟩ := g6 _ _ A2 p1 p2 fun b hb => .inl (p3 b hb)
                    obtain ⟨yv, _, hy', ⟨rd, _⟩, _⟩ := g3.get hmk
                    cases hp2 : ptV (putS sl q.i q.π (.lst (ms2.eraseIdx kk))) i with
                    | stuck => trivial
                    | exc e => unfold ptV at hp2; split at hp2 <;> cases hp2
                    | ok p2' =>
                      obtain ⟨v3, s3, r3⟩ := PtR.slot t3.at_ hp2
                      rw [s1] at s3
                      cases s3
                      simp only
                      unfold pappF
                      cases hm3 : p2'.m with
                      | lst ms3 =>
                        simp only [XV.item]
                        split
                        · rename_i hlen
                          obtain ⟨b3, vs3, C3, e3, k2, k3, k4, k5, k6⟩ := t3.lst r3 hm3
                          cases e3
                          have it : ORep X.K (w1.put b2 (.lst (vs'.eraseIdx kk))).F (w1.put b2 (.lst (vs'.eraseIdx kk))).H (.cl d) yv [] := ⟨rd, rfl⟩
                          obtain ⟨A4, y1, y2, y3⟩ := k3.add k4 it List.nodup_nil (fun a h => absurd h (by simp))
                          obtain ⟨A5, z1, z2⟩ := k6 _ _ A4 y1 y2 fun b hb => .inl ((y3 b hb).resolve_right (by simp))
                          have hv : vz = .int n := rz.cl_of
                          exact fun D q => ⟨b2, vs', n, kk, yv, rfl, by rw [hv], g2', hbd.1, hbd.2, by rw [← g3.length]; exact (ixN_seq hk).1, hy', b1, vs3, yv, rfl, rfl, k2, by rw [← k3.length]; exact hlen, q _ σ A5 z1 (l3.trans z2)⟩
                        · trivial
                      | _ => trivial
                  | _ => trivial
            · rw [if_neg hbd]; trivial
          · trivial
        | _ => simp only [MO.isL]; trivial
    | _ => simp only [MO.isL]; trivial
end
end Mo
namespace Mo
open PySem PySem.Spec PyProof.Rows L2
/-! ### for k in d, of a dict that is read -/
section
variable {K : PySem.W.Frag} {w w2 : Wd}
theorem SvR.sm (hF : Sm w.F w2.F) (hG : Sm w.G w2.G) (hb : w2.bs = w.bs) {s : SV} {o : Option V} {A : List Addr} (h : SvR K w s o A) (hk : ∀ a ∈ A, Sa w.H w2.H a) : SvR K w2 s o A := by
  cases s with
  | no => exact h
  | cl d => obtain ⟨v, e1, e2, e3⟩ := h; exact ⟨v, e1, e2.sm hF, e3⟩
  | lk m => obtain ⟨v, B, e1, e2, e3⟩ := h; exact ⟨v, B, e1, e2.sm hF fun a _ => hG a, e3⟩
  | ow m => obtain ⟨v, e1, e2⟩ := h; exact ⟨v, e1, e2.sm hF hk⟩
  | bo i m => obtain ⟨v, e1, e2, e3⟩ := h; exact ⟨v, e1, by rw [hb]; exact e2, e3.sm hF hk⟩
theorem SlR.sm (hF : Sm w.F w2.F) (hG : Sm w.G w2.G) (hb : w2.bs = w.bs) : ∀ {sl : List SV} {σ : L2.St} {A : List Addr}, SlR K w sl σ A → (∀ a ∈ A, Sa w.H w2.H a) → SlR K w2 sl σ A
  | [], _, _, h, _ => h
  | s :: r, _, _, ⟨o, σ', A1, A2, e1, e2, e3, e4⟩, hk => ⟨o, σ', A1, A2, e1, e2.sm hF hG hb (fun a ha => hk a (by rw [e4]; exact List.mem_append_left _ ha)), SlR.sm hF hG hb e3 (fun a ha => hk a (by rw [e4]; exact List.mem_append_right _ ha)), e4⟩
theorem XR1.sm (hF : Sm w.F w2.F) (hG : Sm w.G w2.G) (hH : Sm w.H w2.H) {x : XV} {v : V} {C : List Addr} (h : XR1 K w x v C) : XR1 K w2 x v C := by
  cases x with
  | cl d => exact ⟨h.1.sm hF, h.2⟩
  | lk m => obtain ⟨⟨A, o⟩, e⟩ := h; exact ⟨⟨A, o.sm hF fun a _ => hG a⟩, e⟩
  | tm m => obtain ⟨⟨A, o⟩, e⟩ := h; exact ⟨⟨A, o.sm hF fun a _ => hH a⟩, e⟩
  | nw m => exact ORep.sm hF h fun a _ => hH a
  | al => exact h
  | mu _ _ => exact h.elim
end
/-- the thing at d as it is told by x -/
def Wd.at_ (w : Wd) (d : Addr) (x : HO) : Wd := ⟨fun a => if a = d then (w.F d).map (fun _ => x) else w.F a, upd w.G d x, upd w.H d x, w.bs⟩
/-- x stands for what stands at d -/
structure Like (w : Wd) (d : Addr) (x : HO) : Prop where
  th : w.G d ≠ none
  rd : ∀ u, NF u → Rd w.G d u → x = u ∨ ∃ o, x = .frz o u
  ob : ∀ o, OB o → w.G d ≠ some o
theorem like_F {w : Wd} {d : Addr} {x : HO} (k : WOk w) (l : Like w d x) : Sm w.F (w.at_ d x).F := fun a => by
  by_cases e : a = d
  · subst e
    refine ⟨fun u n r => ?_, fun o q h => absurd (k.fg a o h) (l.ob o q)⟩
    have nn := rd_there r
    have hx := l.rd u n (rd_keep (fun o q => k.fg a o q) r)
    have e2 : (w.at_ a x).F a = some x := by
      show (if a = a then (w.F a).map (fun _ => x) else w.F a) = _
      rw [if_pos rfl]
      cases q : w.F a with
      | none => exact absurd q nn
      | some o => rfl
    rcases hx with rfl | ⟨o, rfl⟩
    · exact .inl e2
    · exact .inr ⟨o, e2⟩
  · refine Sa.of fun o h => ?_
    show (if a = d then _ else w.F a) = _
    rw [if_neg e]; exact h
theorem like_G {w : Wd} {d : Addr} {x : HO} (l : Like w d x) : Sm w.G (w.at_ d x).G := fun a => by
  by_cases e : a = d
  · subst e
    refine ⟨fun u n r => ?_, fun o q h => absurd h (l.ob o q)⟩
    rcases l.rd u n r with rfl | ⟨o, rfl⟩
    · exact .inl upd_same
    · exact .inr ⟨o, upd_same⟩
  · exact Sa.of fun o h => by
      show upd w.G d x a = _
      rw [upd_ne e]; exact h
theorem like_H {w : Wd} {d : Addr} {x : HO} (k : WOk w) (l : Like w d x) : Sm w.H (w.at_ d x).H := fun a => by
  by_cases e : a = d
  · subst e
    have back : ∀ o, w.H a = some o → w.G a = some o := fun o q => by
      cases g : w.G a with
      | none => exact absurd g l.th
      | some o' =>
        have := k.gh a o' g
        rw [q] at this
        cases this; rfl
    refine ⟨fun u n r => ?_, fun o q h => absurd (back o h) (l.ob o q)⟩
    rcases l.rd u n (rd_keep back r) with rfl | ⟨o, rfl⟩
    · exact .inl upd_same
    · exact .inr ⟨o, upd_same⟩
  · exact Sa.of fun o h => by
      show upd w.H d x a = _
      rw [upd_ne e]; exact h
theorem at_ok {w : Wd} {d : Addr} {x : HO} (k : WOk w) : WOk (w.at_ d x) := by
  refine ⟨fun a o h => ?_, fun a o h => ?_⟩
  · have h' : (if a = d then (w.F d).map (fun _ => x) else w.F a) = some o := h
    show upd w.G d x a = some o
    by_cases e : a = d
    · rw [if_pos e] at h'
      cases q : w.F d with
      | none => rw [q] at h'; cases h'
      | some o' => rw [q] at h'; cases h'; rw [e, upd_same]
    · rw [if_neg e] at h'
      rw [upd_ne e]; exact k.fg a o h'
  · have h' : upd w.G d x a = some o := h
    show upd w.H d x a = some o
    by_cases e : a = d
    · subst e; rw [upd_same] at h' ⊢; exact h'
    · rw [upd_ne e] at h' ⊢; exact k.gh a o h'
theorem own_ne {w : Wd} {d : Addr} {C : List Addr} (th : w.G d ≠ none) (ow : Own w C) : ∀ a ∈ C, a ≠ d := fun a ha z => th (z ▸ (ow.no a ha).1)
theorem own_at {w : Wd} {d : Addr} {x : HO} {C : List Addr} (th : w.G d ≠ none) (ow : Own w C) : Own (w.at_ d x) C := ⟨ow.nd, fun a ha => by
  have ne := own_ne th ow a ha
  refine ⟨?_, fun o u => ?_⟩
  · show upd w.G d x a = none
    rw [upd_ne ne]; exact (ow.no a ha).1
  · show upd w.H d x a ≠ _
    rw [upd_ne ne]; exact (ow.no a ha).2 o u⟩
theorem sa_own {w : Wd} {d : Addr} {x : HO} {C : List Addr} (th : w.G d ≠ none) (ow : Own w C) : ∀ a ∈ C, Sa w.H (w.at_ d x).H a := fun a ha => Sa.of fun o h => by
  show upd w.H d x a = _
  rw [upd_ne (own_ne th ow a ha)]; exact h
theorem AtS.at_x {K : PySem.W.Frag} {B : Addr → Prop} {sl : Sl} {σ : L2.St} {A : List Addr} {w : Wd} (t : AtS K B sl σ A w) {d : Addr} {x : HO} (l : Like w d x) : AtS K B sl σ A (w.at_ d x) :=
  ⟨⟨at_ok t.at_.ok, t.at_.sl.sm (like_F t.at_.ok l) (like_G l) rfl (sa_own l.th t.at_.ow), own_at l.th t.at_.ow⟩, t.nb, fun a b => by
    show upd w.G d x a ≠ none
    by_cases e : a = d
    · rw [e, upd_same]; simp
    · rw [upd_ne e]; exact t.bg a b⟩
theorem like_lock {w : Wd} {d : Addr} {o : Obj} {kvs : List (Key × V)} (h : w.G d = some (.dK kvs)) : Like w d (.frz o (.dK kvs)) :=
  ⟨by rw [h]; simp, (fun u n r => by
    rcases r with q | ⟨o', q⟩
    · rw [h] at q; cases q; exact .inr ⟨o, rfl⟩
    · rw [h] at q; cases q), (fun o' q z => by rw [h] at z; cases z; exact q.elim)⟩
theorem like_unlock {w : Wd} {d : Addr} {o : Obj} {kvs : List (Key × V)} (h : w.G d = some (.frz o (.dK kvs))) : Like w d (.dK kvs) :=
  ⟨by rw [h]; simp, (fun u n r => by
    rcases r with q | ⟨o', q⟩
    · rw [h] at q; cases q; exact absurd rfl (n o (.dK kvs))
    · rw [h] at q; cases q; exact .inl rfl), (fun o' q z => by rw [h] at z; cases z; exact q.elim)⟩
/-- what was, is, behind a lock and its end -/
theorem unlock_le {B : Addr → Prop} {w w' : Wd} {d : Addr} {o : Obj} {kvs : List (Key × V)} (k : WOk w) (h : w.G d = some (.dK kvs)) (l : WLeS B (w.at_ d (.frz o (.dK kvs))) w') : WLeS B w (w'.at_ d (.dK kvs)) := by
  have Fd : ∀ u, w.F d = some u → u = .dK kvs := fun u q => by
    have := k.fg d u q
    rw [h] at this; cases this; rfl
  have lF : ∀ a, a ≠ d → ∀ u, w.F a = some u → w'.F a = some u := fun a e u q => l.f a u (by
    show (if a = d then _ else w.F a) = _
    rw [if_neg e]; exact q)
  refine ⟨fun a u q => ?_, fun a u q => ?_, fun a b q => ?_, l.bs⟩
  · show (if a = d then (w'.F d).map (fun _ => HO.dK kvs) else w'.F a) = some u
    by_cases e : a = d
    · subst e
      rw [if_pos rfl]
      have := Fd u q
      subst this
      have : w'.F a = some (.frz o (.dK kvs)) := l.f a _ (by
        show (if a = a then (w.F a).map (fun _ => _) else w.F a) = _
        rw [if_pos rfl, q]; rfl)
      rw [this]; rfl
    · rw [if_neg e]; exact lF a e u q
  · show upd w'.G d (.dK kvs) a = some u
    by_cases e : a = d
    · subst e; rw [upd_same]; rw [h] at q; exact q
    · rw [upd_ne e]
      exact l.g a u (by
        show upd w.G d _ a = _
        rw [upd_ne e]; exact q)
  · show (if a = d then (w'.F d).map (fun _ => HO.dK kvs) else w'.F a) = none
    have fn : w'.F a = none := l.ff a b (by
      show (if a = d then (w.F d).map (fun _ => HO.frz o (.dK kvs)) else w.F a) = none
      by_cases e : a = d
      · subst e; rw [if_pos rfl, q]; rfl
      · rw [if_neg e]; exact q)
    by_cases e : a = d
    · subst e; rw [if_pos rfl, fn]; rfl
    · rw [if_neg e]; exact fn
theorem key_rep {K : PySem.W.Frag} {T : Hp} (κ : Key) : Rep K T (keyD κ) (kV κ) := by
  cases κ <;> rfl
theorem goes_keys {K : PySem.W.Frag} {w1 : Wd} {d : Addr} {o : Obj} {kvs : List (Key × V)} (h : w1.G d = some (.frz o (.dK kvs))) : Goes K (Itk d o kvs) w1 ((kvs.map fun p => keyD p.1).map .cl) where
  go := fun w2 k e g i hi => ⟨k.gh d _ (g d _ h), by simpa using hi⟩
  yld := fun w2 k e g i x H' ⟨e1, κ, v, e2, e3⟩ hi => by
    refine ⟨w2, .cl (keyD κ), e1, k, WLe.refl _, ?_, ?_⟩
    · rw [List.getElem?_map, List.getElem?_map, e2]; rfl
    · rw [e3]; exact ⟨key_rep κ, rfl⟩
  stop := fun w2 k e g => ⟨k.gh d _ (g d _ h), by simp⟩
section
variable {c : Calls} {k : Nat} {ck : Ck} {X : Cx} {Wx : WX} {xs : List Stmt} {h : Sl → RO} {pos : Pos}
theorem PostS.nox {K : PySem.W.Frag} {B : Addr → Prop} {w : Wd} {r : RO} {T : Ends → Prop} (p : PostS K Wx B w r T) : PostS K Wx B w (noxO r) T := by
  cases r with
  | none => trivial
  | some o => cases o <;> first | exact p | trivial
/-- where a slot's dict stands -/
theorem dict_at {K : PySem.W.Frag} {B : Addr → Prop} {sl : Sl} {σ : L2.St} {A : List Addr} {w : Wd} (t : AtS K B sl σ A w) {i : Nat} {s : SV} (hs : sl[i]? = some s) {x : XV} (hx : s.x = some x) {ks : List D} (hk : keysI x = .ok ks) : ∃ d kvs, σ[i]? = some (some (.ref d)) ∧ Rd w.G d (.dK kvs) ∧ ks = kvs.map fun p => keyD p.1 := by
  obtain ⟨o, C, h1, h2, _⟩ := t.at_.sl.get hs
  have rdG : ∀ {a : Addr} {u : HO}, Rd w.F a u → Rd w.G a u := fun {a u} r => rd_keep (fun o q => t.at_.ok.fg a o q) r
  cases s with
  | no => cases hx
  | ow m => cases hx; cases hk
  | bo j m => cases hx; cases hk
  | cl d =>
    cases hx
    obtain ⟨v, rfl, r, _⟩ := h2
    cases d with
    | dct ks' ds =>
      cases hk
      obtain ⟨a, vs, rfl, ⟨kvs, q1, q2, _⟩, _⟩ := r
      exact ⟨a, kvs, h1, rdG q1, q2⟩
    | _ => cases hk
  | lk m =>
    cases hx
    obtain ⟨v, C', rfl, r, _⟩ := h2
    cases m with
    | dct ks' ms =>
      cases hk
      obtain ⟨a, vs, B', rfl, ⟨kvs, q1, q2, _⟩, _, _⟩ := (ORep.nod rfl).mp r
      exact ⟨a, kvs, h1, q1, q2⟩
    | cl d =>
      cases d with
      | dct ks' ds =>
        cases hk
        obtain ⟨⟨a, vs, rfl, ⟨kvs, q1, q2, _⟩, _⟩, _⟩ := r
        exact ⟨a, kvs, h1, rdG q1, q2⟩
      | _ => cases hk
    | _ => cases hk
theorem ok_fork (C : SxOk c k ck X) {tt : Tg} {tg : Expr} {i : Nat} {y : Str} {py : Pos} (hN : ck.N[i]? = some y) (hv : visB ck.sc y = true) (hn : nameOk y = true) (ht : chkT ck.N (locB ck.sc) tt tg = true) (hb : OkSs X Wx xs h) :
    OkS X Wx (.For tg (.Name y py) xs [] pos) (fun sl => (evE c (.var i) sl).out sl fun x => (keysI x).out sl fun ds => noxO (forL (tgo tt) h ds sl)) := by
  intro B sl σ A w t
  show PostS _ _ _ _ ((evE c (.var i) sl).out sl fun x => (keysI x).out sl fun ds => noxO (forL (tgo tt) h ds sl)) _
  have he : evE c (.var i) sl = match sl[i]? with | some s => R.of s.x | none => .stuck := rfl
  rw [he]
  cases hs : sl[i]? with
  | none => trivial
  | some s =>
    cases hx : s.x with
    | none => simp only [hx]; trivial
    | some x =>
      simp only [hx, R.of]
      show PostS _ _ _ _ ((keysI x).out sl fun ds => noxO (forL (tgo tt) h ds sl)) _
      cases hk : keysI x with
      | stuck => trivial
      | exc e => unfold keysI at hk; (repeat' split at hk) <;> cases hk
      | ok ks =>
        obtain ⟨d, kvs, s1, rd, rfl⟩ := dict_at t hs hx hk
        show PostS _ _ _ _ (noxO (forL (tgo tt) h (kvs.map fun p => keyD p.1) sl)) _
        -- the loop, where the dict is locked
        have loop : ∀ {w1 : Wd} {o : Obj}, AtS X.K B sl σ A w1 → w1.G d = some (.frz o (.dK kvs)) → PostS X.K Wx B w1 (noxO (forL (tgo tt) h (kvs.map fun p => keyD p.1) sl)) (fun D => weS X (.For tg (.Name y py) xs [] pos) D σ w1.H) := fun {w1 o} t1 g1 => by
          have q : PostR X.K Wx (fun w' (its : Mo.Its) J => Goes X.K J w' its.l) σ w1 (.ok (Mo.Its.ds (kvs.map fun p => keyD p.1))) (weI X tg (.Name y py) σ w1.H) := fun Q qq =>
            ⟨_, pi_keys (pe_slot C.x hN hv hn), .ref d, s1, d, o, rfl, .inl ⟨kvs, t1.at_.ok.gh d _ g1, qq w1 (Itk d o kvs) t1.at_.ok (WLe.refl _) (goes_keys g1)⟩⟩
          have p := ok_for_at (pos := pos) C (it := .Name y py) rfl t1 q ht hb
          exact PostS.nox p
        rcases rd with g0 | ⟨o, g0⟩
        · have lk := fun od : Obj => t.at_x (like_lock (o := od) g0)
          have pl := fun od : Obj => loop (lk od) (o := od) upd_same
          have hd : w.H d = some (.dK kvs) := t.at_.ok.gh d _ g0
          cases ho : noxO (forL (tgo tt) h (kvs.map fun p => keyD p.1) sl) with
          | none => trivial
          | some out =>
            have fin : ∀ {od : Obj} {w' : Wd}, WLeS B (w.at_ d (.frz od (.dK kvs))) w' → w'.G d = some (.frz od (.dK kvs)) := fun {od w'} l => l.g d _ upd_same
            cases out with
            | ex e s' =>
              exfalso
              cases hf : forL (tgo tt) h (kvs.map fun p => keyD p.1) sl with
              | none => rw [hf] at ho; cases ho
              | some o' => rw [hf] at ho; cases o' <;> cases ho
            | nx s' =>
              refine fun D q => ⟨_, ps_lock ps_we, d, .dK kvs, hd, trivial, fun od => ?_⟩
              refine (pl od).get ho fun w' σ' A' t' l' => ?_
              have g := fin l'
              exact ⟨t'.at_.ok.gh d _ g, q _ σ' A' (t'.at_x (like_unlock g)) (unlock_le t.at_.ok g0 l')⟩
            | bk s' =>
              refine fun D q => ⟨_, ps_lock ps_we, d, .dK kvs, hd, trivial, fun od => ?_⟩
              refine (pl od).get ho fun w' σ' A' t' l' => ?_
              have g := fin l'
              exact ⟨t'.at_.ok.gh d _ g, q _ σ' A' (t'.at_x (like_unlock g)) (unlock_le t.at_.ok g0 l')⟩
            | ct s' =>
              refine fun D q => ⟨_, ps_lock ps_we, d, .dK kvs, hd, trivial, fun od => ?_⟩
              refine (pl od).get ho fun w' σ' A' t' l' => ?_
              have g := fin l'
              exact ⟨t'.at_.ok.gh d _ g, q _ σ' A' (t'.at_x (like_unlock g)) (unlock_le t.at_.ok g0 l')⟩
            | rt x1 s' =>
              refine fun D q => ⟨_, ps_lock ps_we, d, .dK kvs, hd, trivial, fun od => ?_⟩
              refine (pl od).get ho fun w' v σ' A' C' t' l' xr ow off => ?_
              have g := fin l'
              have gn : w'.G d ≠ none := by rw [g]; simp
              refine ⟨t'.at_.ok.gh d _ g, q _ v σ' A' C' (t'.at_x (like_unlock g)) (unlock_le t.at_.ok g0 l') (XR1.sm (like_F t'.at_.ok (like_unlock g)) (like_G (like_unlock g)) (like_H t'.at_.ok (like_unlock g)) xr) (own_at gn ow) off⟩
        · exact loop t g0
end
end Mo
namespace Mo
open PySem PySem.Spec PyProof.Rows L2
/-! ### an exception that is caught and kept -/
section
variable {X : Cx} {pins : List (Addr × Obj)} {σ : L2.St} {H : Hp} {sI s4 : Shared} {a : Addr} {cls : Value}
/-- what is caught is held as a thing of its class -/
theorem track (J : Inv X pins σ H sI) (J4 : Inv X pins σ H s4) (ha : sI.heap.get? a = none) {oe : Obj} {vs : Array Value} (e : s4.heap.get? a = some oe) (z : Zc cls none oe) (dd : oe.data = .fields vs) (na : H a = none) (nL : a ≠ X.env.locals) : Inv X pins σ (upd H a (ExH cls a)) s4 := by
  have off : ∀ b, (∃ o, sI.heap.get? b = some o) → b ≠ a := fun b ⟨o, q⟩ w => by rw [w, ha] at q; cases q
  have offH : ∀ b o, H b = some o → b ≠ a := fun b o q w => by rw [w, na] at q; cases q
  have new : ObjOk X.prog X.w (upd H a (ExH cls a)) s4.heap a (ExH cls a) := ⟨⟨oe, vs, e, z, dd⟩, ⟨oe, e⟩, fun _ _ ⟨o, v, q, r⟩ k => ⟨o, v, k o q, r⟩⟩
  exact {
    ok := J4.ok
    os := J4.os
    bare := J4.bare
    base := {
      keep := J4.base.keep
      slot := J4.base.slot
      free := fun b o q n x => by rw [upd_ne (off b (J.base.there b o q x))]; exact J4.base.free b o q n x
      there := J4.base.there
      tups := fun b xs q => by have w := J4.base.tups b xs q; rw [upd_ne (offH b _ w)]; exact w
      frzs := fun b o u q => by have w := J4.base.frzs b o u q; rw [upd_ne (offH b _ w)]; exact w
      tbls := fun b ps q => by obtain ⟨m, w⟩ := J4.base.tbls b ps q; exact ⟨m, by rw [upd_ne (offH b _ w)]; exact w⟩ }
    loc := J4.loc
    cell := J4.cell
    free := by rw [upd_ne (Ne.symm nL)]; exact J4.free
    freeC := fun x c q => by
      obtain ⟨v, o, w, _⟩ := J.cell x c q
      rw [upd_ne (off c ⟨o, w⟩)]
      exact J4.freeC x c q
    pin := fun p hp => by
      obtain ⟨p1, p2, p3⟩ := J4.pin p hp
      exact ⟨p1, by rw [upd_ne (off p.1 ⟨_, (J.pin p hp).1⟩)]; exact p2, p3⟩
    hok := J4.hok.laidN (fun _ _ w => w) na new
    len := J4.len }
/-- into the suite, and out of it, with nothing pinned -/
theorem toSuite (I : Inv X pins σ H s4) (a : Addr) : Inv (X.suite a (X.pn ++ pins)) [] σ H s4 :=
  { ok := I.ok.suite _ _, os := I.os, bare := I.bare, base := I.base, loc := I.loc, cell := I.cell, free := I.free, freeC := I.freeC, pin := fun p hp => I.pin p (by rw [List.append_nil] at hp; exact hp), hok := I.hok, len := I.len }
theorem ofSuite {pn' : List (Addr × Obj)} (I : Inv (X.suite a (X.pn ++ pins)) pn' σ H s4) (ok : X.Ok) : Inv X pins σ H s4 :=
  { ok := ok, os := I.os, bare := I.bare, base := I.base, loc := I.loc, cell := I.cell, free := I.free, freeC := I.freeC, pin := fun p hp => I.pin p (List.mem_append_left _ hp), hok := I.hok, len := I.len }
end
/-- slot i goes -/
def endsX (i : Nat) (D : Ends) : Ends := { nx := fun σ' H' => D.nx (σ'.set i none) H', rt := D.rt, bk := fun σ' H' => D.bk (σ'.set i none) H', ct := fun σ' H' => D.ct (σ'.set i none) H' }
/-- what the clause wishes of an exception of the body, which is kept -/
def wKeep (K : PySem.W.Frag) (c : Value) (i : Nat) (ts : Addr → TS) (Wout : WX) (D : Ends) : WX := fun cls d σ H =>
  ∃ b, PySem.W.exmOne K cls c = some b ∧ (b = true → d = none ∧ ∀ a, H a = none → ts a (endsX i D) (σ.set i (some (.ref a))) (upd H a (ExH cls a))) ∧ (b = false → Wout cls d σ H)
section
variable {X : Cx} {x n : Str} {c : Value} {i : Nat} {body suite : List Stmt} {b₀ : Stmt} {np pos pos' : Pos} {tb : WX → TS} {ts : Addr → TS} {Wout : WX}
theorem ps_try_keep (hs : X.stack = X.env :: X.outer) (hf : X.env.frame = some X.env.locals) (hN : X.N.Nodup) (hi : X.N[i]? = some n) (hln : X.env.kindOf n = some .local) (hc : Names X x c) (tk : Takes X Wout)
    (hb : ∀ (W : WX) (pn : List (Addr × Obj)) (xe : Value → Shared → Prop), Takes (X.tr pn xe) W → PassesOwn (model X.prog X.w) X.A X.env xe → PSs (X.tr pn xe) body (tb W))
    (hsu : ∀ (a : Addr) (pn : List (Addr × Obj)), PSs (X.suite a pn) (b₀ :: suite) (ts a)) :
    PS X (.Try body [.ExceptHandler (some (.Name x np)) (some n) (b₀ :: suite) pos'] [] [] pos) (fun D σ H => tb (wKeep X.K c i ts Wout D) D σ H) := by
  constructor
  intro pins s σ H D I h
  have ok := I.ok
  have stk : X.A.frames = some (X.env :: X.outer) := by rw [← hs]; exact ok.frames
  apply wpAny_Try_except
  -- the body
  refine wpAny_mono ((hb (wKeep X.K c i ts Wout D) (X.pn ++ pins) _ (fun u s' caught => ?hdl) PassesOwn.looking).run [] s σ H D (I.toTry _) h) (fun f s1 done => ?thru) (fun e s1 he => he)
  case thru =>
    cases f with
    | ret u =>
      obtain ⟨v, σ', H', J', r, q⟩ := done
      exact ⟨v, σ', H', J'.ofTry ok, r, q⟩
    | brk => obtain ⟨σ', H', J', q⟩ := done; exact ⟨σ', H', J'.ofTry ok, q⟩
    | cont => obtain ⟨σ', H', J', q⟩ := done; exact ⟨σ', H', J'.ofTry ok, q⟩
    | next => obtain ⟨σ', H', J', q⟩ := done; exact wpAny_execs_nil ⟨σ', H', J'.ofTry ok, q⟩
  case hdl =>
    obtain ⟨a, B, sI, pins', σ', H', cls, d, rfl, J', old, up, sky, na, os, ag, b, hb1, yes, no⟩ := caught
    have J := J'.ofTry ok
    rw [hs] at sky
    refine Sky.land Zc.steady stk hf sky fun h3 fl up3 => ?_
    -- the exception is no frame, and was not there
    obtain ⟨o3, v3, q3, z3, d3⟩ := fl.there
    have noFrame : a ∉ frs (X.env :: X.outer) := fun m => by
      obtain ⟨_, o, w1, w2⟩ := fl.2.2.1.mem m
      rw [q3] at w1
      cases w1
      exact w2 _ d3
    have notL : a ≠ X.env.locals := fun w => noFrame (List.mem_filterMap.mpr ⟨X.env, List.mem_cons_self, by rw [hf, w]⟩)
    have notIn : sI.heap.get? a = none := by
      cases w : sI.heap.get? a with
      | none => rfl
      | some o =>
        have := old a o w (by rw [hs]; exact noFrame)
        rw [fl.2.1] at this
        cases this
    have J3 : Inv X pins σ' H' { s' with heap := h3 } := J.landed old fl.1 (up.trans up3) os ag
    refine wpAny_handleBy_cons (codeAny_handlers_test ?_) (by intro w; cases w)
    have says := PySem.W.exm_one (M := model X.prog X.w) J3.kIn (fun A Q E s k q => wpAny_typeOf_ref (k _ _ q3) (by rw [z3.1]; exact q)) hb1
    have look : ∀ {Q E : Value → Shared → Prop}, Q c { s' with heap := h3 } → wpAny (model X.prog X.w) (X.A.mark (some (.ref a))) (eval (.Name x np) X.env) Q E { s' with heap := h3 } := fun q => by
      rcases hc with ⟨g1, g2, g3 | ⟨g3, g4, g5⟩⟩
      · exact ld_glob (toSuite J3 a) g1 g3 q g2
      · exact ld_blt (toSuite J3 a) g1 g3 g4 q g5 g2
    refine look (says.here ?_)
    cases b with
    | false =>
      -- not this clause's
      apply wpAny_handleBy_nil
      obtain ⟨_, _, _, oe, vs, T, oT, ts', e1, _, e2, e3, _⟩ := id fl
      have fly : wpAny (model X.prog X.w) X.A (setFlight (.ref a) X.env.frame) (fun _ s4 => wpAny (model X.prog X.w) X.A (throw (.ref a) : Sem Flow) (SP X pins D) X.xe s4) X.xe { s' with heap := h3 } := by
        rw [hf]
        exact HandSPX.setFlight_upZ fl fun h4 held up4 => wpAny_throw (tk _ _ ⟨a, B, sI, pins, σ', H', cls, d, rfl, J, old, (up.trans up3).trans up4, .inr (.inr (by rw [hs]; exact held)), na, os, ag, no rfl⟩)
      unfold PySem.passOn
      refine wpAny_bind (wpAny_field e1 e2 e3 ?_)
      have nn : ¬ ((Value.ref T == Value.none) = true) := by simp
      rw [if_neg nn]
      first
        | exact wpAny_bind (wpAny_pure (wpAny_bind fly))
        | exact wpAny_bind fly
    | true =>
      obtain ⟨dn, go⟩ := yes rfl
      subst dn
      apply codeAny_handlers_suite_as
      refine HandSPX.lands_againZ fl fun h4 fl4 up4 => ?_
      obtain ⟨o4, v4, q4, z4, d4⟩ := fl4.there
      have J4 : Inv X pins σ' H' { s' with heap := h4 } := J.landed old fl4.1 ((up.trans up3).trans up4) os ag
      have J5 := track J J4 notIn (a := a) q4 z4 d4 na notL
      refine store_ok (X := X.suite a (X.pn ++ pins)) (toSuite J5 a) hN hi (v := .ref a) (.inl hln) rfl (fun s5 S5 => ?_) (.inr hln)
      have out : ∀ {σ6 : L2.St} {H6 : Hp} {s6 : Shared} {Q : Shared → Prop}, Inv (X.suite a (X.pn ++ pins)) [] σ6 H6 s6 → (∀ s7, Inv X pins (σ6.set i none) H6 s7 → Q s7) →
          wpAny (model X.prog X.w) X.A (do bindName X.env n .none; unbindBehindTheSuite X.env n pos') (fun _ s7 => Q s7) X.xe s6 := fun S6 q => gone_ok (ofSuite S6 ok) hN hi hln q
      refine wpAny_mono ((hsu a (X.pn ++ pins)).run [] s5 _ _ _ S5 (go a na)) (fun f s6 done => ?_) (fun _ _ w => False.elim w)
      cases f with
      | ret u =>
        obtain ⟨v6, σ6, H6, S6, r6, q6⟩ := done
        exact out S6 fun s7 J7 => ⟨_, _, _, J7, r6, q6⟩
      | brk => obtain ⟨σ6, H6, S6, q6⟩ := done; exact out S6 fun s7 J7 => ⟨_, _, J7, q6⟩
      | cont => obtain ⟨σ6, H6, S6, q6⟩ := done; exact out S6 fun s7 J7 => ⟨_, _, J7, q6⟩
      | next => obtain ⟨σ6, H6, S6, q6⟩ := done; exact out S6 fun s7 J7 => ⟨_, _, J7, q6⟩
end
/-! ### try .. except X as e: y = e -/
def bodyW (X : Cx) (body : List Stmt) (W : WX) : TS := fun D σ H => ∀ (pn : List (Addr × Obj)) (xe : Value → Shared → Prop), Takes (X.tr pn xe) W → PassesOwn (model X.prog X.w) X.A X.env xe → weSs (X.tr pn xe) body D σ H
section
variable {c : Calls} {k : Nat} {ck : Ck} {X : Cx} {Wx : WX} {h : Sl → RO} {body : List Stmt}
theorem SxOk.tr (C : SxOk c k ck X) {pn : List (Addr × Obj)} {xe : Value → Shared → Prop} (po : PassesOwn (model X.prog X.w) X.A X.env xe) : SxOk c k ck (X.tr pn xe) :=
  ⟨⟨⟨C.x.N, C.x.nd, C.x.sc, C.x.fn, C.x.free, C.x.gi, C.x.gs, C.x.exc, C.x.xp, C.x.cls, C.x.nat, C.x.mth, C.x.mks, C.x.ixf⟩, C.x.calm, C.x.room⟩, C.fn, po, C.kind, C.stk, C.fr⟩
theorem ok_tryk (C : SxOk c k ck X) (tk : Takes X Wx) {ds : List String} {cl : String} {i j : Nat} {x n y : Str} {np py pn0 ap hp pos : Pos} (hN : ck.N[i]? = some n) (hln : lclB ck.sc n = true) (hnn : nameOk n = true) (hj : ck.N[j]? = some y) (hy : locB ck.sc y = true)
    (hcl : Str.ofString cl = x) (hg : glB ck.sc x = true) (hnx : nameOk x = true) (hxp : ∀ d ∈ ds, (d, cl) ∈ ck.xp) (hcv : cl ≠ "ValueError") (hne : ∃ d, d ∈ ds) (hb : ∀ {X' : Cx} {Wx' : WX}, SxOk c k ck X' → Takes X' Wx' → OkSs X' Wx' body h) :
    OkS X Wx (.Try body [.ExceptHandler (some (.Name x np)) (some n) [.Assign [.Name y py] (.Name n pn0) ap] hp] [] [] pos) (fun sl => catchF ds cl i j (h sl)) := by
  subst hcl
  obtain ⟨d0, hd0⟩ := hne
  have F0 := C.x.xp _ _ (hxp d0 hd0)
  have mg0 := F0.nm
  rw [if_neg hcv] at mg0
  have hloc : X.env.scope.names.lookup n = some .local := lclB_ok (by rw [C.x.sc]; exact hln)
  have vis : Vis X.env.scope n := by
    refine visB_ok ?_
    unfold visB
    rw [hloc]
  have suite : ∀ (a : Addr) (pn : List (Addr × Obj)), PSs (X.suite a pn) [.Assign [.Name y py] (.Name n pn0) ap] _ := fun a pn =>
    pss_cons (ps_set (X := X.suite a pn) C.x.nd (by show X.N[j]? = some y; rw [C.x.N]; exact hj) (locB_ok (X := X.suite a pn) (by show locB X.env.scope y = true; rw [C.x.sc]; exact hy)) (pe_var (X := X.suite a pn) (i := i) (by show X.N[i]? = some n; rw [C.x.N]; exact hN) vis (nameOk_d hnn).1 (nameOk_d hnn).2.1) (swaps_no rfl _ _ _) (.inl (C.fn y))) pss_nil
  have P := fun (Wo : WX) (tk : Takes X Wo) => ps_try_keep (X := X) (x := Str.ofString cl) (n := n) (c := .ref (He.ga X.K (Str.ofString cl))) (i := i) (body := body) (tb := bodyW X body) (np := np) (pos := pos) (pos' := hp) (Wout := Wo) C.stk C.fr C.x.nd (by rw [C.x.N]; exact hN) hloc ⟨glB_ok (by rw [C.x.sc]; exact hg), (nameOk_d hnx).1, .inl mg0⟩ tk
    (fun W pn xe t p => ⟨fun pins s σ H D I q => pss_we.run pins s σ H D I (q pn xe t p)⟩) suite
  intro B sl σ A w t
  -- what the body does, under any wish
  have body_ := fun (W : WX) (pn : List (Addr × Obj)) (xe : Value → Shared → Prop) (t' : Takes (X.tr pn xe) W) (po : PassesOwn (model X.prog X.w) X.A X.env xe) => hb (C.tr po (pn := pn)) t' B sl σ A w t
  cases hr : h sl with
  | none => simp only [catchF, hr]; trivial
  | some o =>
    cases o with
    | nx s1 => simp only [catchF, hr]; exact fun D q => ⟨_, P Wx tk, fun pn xe t' po => (body_ _ pn xe t' po).get hr q⟩
    | rt x1 s1 => simp only [catchF, hr]; exact fun D q => ⟨_, P Wx tk, fun pn xe t' po => (body_ _ pn xe t' po).get hr q⟩
    | bk s1 => simp only [catchF, hr]; exact fun D q => ⟨_, P Wx tk, fun pn xe t' po => (body_ _ pn xe t' po).get hr q⟩
    | ct s1 => simp only [catchF, hr]; exact fun D q => ⟨_, P Wx tk, fun pn xe t' po => (body_ _ pn xe t' po).get hr q⟩
    | ex e s1 =>
      simp only [catchF, hr]
      split
      · rename_i hc
        simp only [Bool.and_eq_true] at hc
        have hdd : e.c ∈ ds := by simpa using hc.1
        have F := C.x.xp _ _ (hxp _ hdd)
        have xm := F.xm
        rw [if_neg hcv] at xm
        cases hb2 : exnIs e.c cl with
        | true =>
          rw [hb2] at xm
          simp only [if_true]
          refine fun D q => ⟨_, P Wx tk, fun pn xe t' po => (body_ _ pn xe t' po).get hr fun w' σ' A' cls d t2 l er => ?_⟩
          obtain ⟨rfl, e2, rfl⟩ := er
          refine ⟨true, xm, fun _ => ⟨rfl, fun a na => ?_⟩, fun z => by cases z⟩
          have k3 := Wd.add_ok (p := a) (o := ExH (.ref (He.ga X.K (Str.ofString e.c))) a) t2.at_.ok
          have l3 := Wd.add_le (o := ExH (.ref (He.ga X.K (Str.ofString e.c))) a) t2.at_.ok na
          have t3 := t2.mono l3 k3
          have rp : Rep X.K (w'.add a (ExH (.ref (He.ga X.K (Str.ofString e.c))) a)).F (.exn e.c) (.ref a) := ⟨a, rfl, upd_same⟩
          obtain ⟨A4, t4⟩ := t3.setCl rp i
          obtain ⟨A5, t5⟩ := t4.setCl rp j
          obtain ⟨A6, t6⟩ := t5.set (s := .no) (o := none) (C := []) rfl own_nil (fun a h => absurd h (by simp)) i
          have li : i < σ'.length := by
            rw [t2.at_.sl.length]
            exact of_decide_eq_true hc.2.2
          exact ⟨.ref a, by rw [List.getElem?_set_self li], q _ _ _ t6 (l.trans (l3.s t2))⟩
        | false =>
          rw [hb2] at xm
          simp only [Bool.false_eq_true, if_false]
          refine fun D q => ⟨_, P Wx tk, fun pn xe t' po => (body_ _ pn xe t' po).get hr fun w' σ' A' cls d t2 l er => ?_⟩
          have er' := er
          obtain ⟨rfl, e2, rfl⟩ := er
          exact ⟨false, xm, fun z => (by cases z), fun _ => q _ _ _ _ _ t2 l er'⟩
      · trivial
/-! ### try .. except X as e: a suite of stores -/
theorem ok_tryx (C : SxOk c k ck X) (tk : Takes X Wx) {ds : List String} {cl : String} {i : Nat} {x n : Str} {np hp pos : Pos} {hst : Stmt} {hsts : List Stmt} {hh : Ss} (hN : ck.N[i]? = some n) (hln : lclB ck.sc n = true) (hcl : Str.ofString cl = x) (hg : glB ck.sc x = true) (hnx : nameOk x = true) (hxp : ∀ d ∈ ds, (d, cl) ∈ ck.xp)
    (hcv : cl ≠ "ValueError") (hne : ∃ d, d ∈ ds) (hot : hh.hot = true) (hch : chkHs ck hh (hst :: hsts) = true) (hb : ∀ {X' : Cx} {Wx' : WX}, SxOk c k ck X' → Takes X' Wx' → OkSs X' Wx' body h) :
    OkS X Wx (.Try body [.ExceptHandler (some (.Name x np)) (some n) (hst :: hsts) hp] [] [] pos) (fun sl => catchH ds cl i (h sl) (evSs c hh)) := by
  subst hcl
  obtain ⟨d0, hd0⟩ := hne
  have F0 := C.x.xp _ _ (hxp d0 hd0)
  have mg0 := F0.nm
  rw [if_neg hcv] at mg0
  have hloc : X.env.scope.names.lookup n = some .local := lclB_ok (by rw [C.x.sc]; exact hln)
  have suite : ∀ (a : Addr) (pn : List (Addr × Obj)), PSs (X.suite a pn) (hst :: hsts) (fun D σ H => ∀ pn, weSs (X.suite a pn) (hst :: hsts) D σ H) := fun a pn =>
    ⟨fun pins s σ H D I q => pss_we.run pins s σ H D I (q pn)⟩
  have P := fun (Wo : WX) (tk : Takes X Wo) => ps_try_keep (X := X) (x := Str.ofString cl) (n := n) (c := .ref (He.ga X.K (Str.ofString cl))) (i := i) (body := body) (tb := bodyW X body) (np := np) (pos := pos) (pos' := hp) (Wout := Wo) C.stk C.fr C.x.nd (by rw [C.x.N]; exact hN) hloc ⟨glB_ok (by rw [C.x.sc]; exact hg), (nameOk_d hnx).1, .inl mg0⟩ tk
    (fun W pn xe t p => ⟨fun pins s σ H D I q => pss_we.run pins s σ H D I (q pn xe t p)⟩) suite
  intro B sl σ A w t
  have body_ := fun (W : WX) (pn : List (Addr × Obj)) (xe : Value → Shared → Prop) (t' : Takes (X.tr pn xe) W) (po : PassesOwn (model X.prog X.w) X.A X.env xe) => hb (C.tr po (pn := pn)) t' B sl σ A w t
  cases hr : h sl with
  | none => simp only [catchH, hr]; trivial
  | some o =>
    cases o with
    | nx s1 => simp only [catchH, hr]; exact fun D q => ⟨_, P Wx tk, fun pn xe t' po => (body_ _ pn xe t' po).get hr q⟩
    | rt x1 s1 => simp only [catchH, hr]; exact fun D q => ⟨_, P Wx tk, fun pn xe t' po => (body_ _ pn xe t' po).get hr q⟩
    | bk s1 => simp only [catchH, hr]; exact fun D q => ⟨_, P Wx tk, fun pn xe t' po => (body_ _ pn xe t' po).get hr q⟩
    | ct s1 => simp only [catchH, hr]; exact fun D q => ⟨_, P Wx tk, fun pn xe t' po => (body_ _ pn xe t' po).get hr q⟩
    | ex e s1 =>
      simp only [catchH, hr]
      split
      · rename_i hc
        simp only [Bool.and_eq_true] at hc
        have hdd : e.c ∈ ds := by simpa using hc.1
        have F := C.x.xp _ _ (hxp _ hdd)
        have xm := F.xm
        rw [if_neg hcv] at xm
        cases hb2 : exnIs e.c cl with
        | true =>
          rw [hb2] at xm
          simp only [if_true]
          cases hs2 : evSs c hh (s1.set i (.cl (.exn e.c))) with
          | none => trivial
          | some o2 =>
            cases o2 with
            | nx s2 =>
              refine fun D q => ⟨_, P Wx tk, fun pn xe t' po => (body_ _ pn xe t' po).get hr fun w' σ' A' cls d t2 l er => ?_⟩
              obtain ⟨rfl, e2, rfl⟩ := er
              refine ⟨true, xm, fun _ => ⟨rfl, fun a na => ?_⟩, fun z => by cases z⟩
              have k3 := Wd.add_ok (p := a) (o := ExH (.ref (He.ga X.K (Str.ofString e.c))) a) t2.at_.ok
              have l3 := Wd.add_le (o := ExH (.ref (He.ga X.K (Str.ofString e.c))) a) t2.at_.ok na
              have t3 := t2.mono l3 k3
              have rp : Rep X.K (w'.add a (ExH (.ref (He.ga X.K (Str.ofString e.c))) a)).F (.exn e.c) (.ref a) := ⟨a, rfl, upd_same⟩
              obtain ⟨A4, t4⟩ := t3.setCl rp i
              intro pn2
              have lo : CxLo c k ck (X.suite a pn2) := ⟨C.x.N, C.x.nd, C.x.sc, C.x.fn, C.x.free, C.x.gi, C.x.gs, C.x.exc, C.x.xp, C.x.cls, C.x.nat, C.x.mth, C.x.mks, C.x.ixf⟩
              have okh := hotSs lo C.fn hot hch (Wx := noW) B _ _ _ _ t4
              refine okh.get hs2 fun w5 σ5 A5 t5 l5 => ?_
              obtain ⟨A6, t6⟩ := t5.set (s := .no) (o := none) (C := []) rfl own_nil (fun a h => absurd h (by simp)) i
              exact q _ _ _ t6 ((l.trans (l3.s t2)).trans l5)
            | _ => trivial
        | false =>
          rw [hb2] at xm
          simp only [Bool.false_eq_true, if_false]
          refine fun D q => ⟨_, P Wx tk, fun pn xe t' po => (body_ _ pn xe t' po).get hr fun w' σ' A' cls d t2 l er => ?_⟩
          have er' := er
          obtain ⟨rfl, e2, rfl⟩ := er
          exact ⟨false, xm, fun z => (by cases z), fun _ => q _ _ _ _ _ t2 l er'⟩
      · trivial
end
end Mo
namespace Mo
open PySem PySem.Spec PyProof.Rows L2
/-! ### the check of statements -/
def S.isFrz : S → Bool
  | .frz _ => true
  | _ => false
/-- a place -/
def chkPl (k : Ck) : Pl → Expr → Bool
  | .v i, ex => match ex with
    | .Name x _ => decide (k.N[i]? = some x) && visB k.sc x && nameOk x
    | _ => false
  | .f p c f, ex => match ex with
    | .Attribute l x _ => decide (Str.ofString f = x) && k.cls.contains c && k.nat.contains (c, f) && attOk l && chkPl k p l
    | _ => false
  | .x p e, ex => match ex with
    | .Subscript l r _ => plainIx r && chkPl k p l && chkE k e r
    | _ => false
theorem goodP {c : Calls} {k : Nat} {X : Cx} {ck : Ck} {Wx : WX} (C : CxOk c k ck X) (tk : Takes X Wx) : ∀ (p : Pl) {ex : Expr}, chkPl ck p ex = true → OkP X Wx ex (plF c p)
  | .v i, ex, h => by
    unfold chkPl at h
    split at h
    · simp only [Bool.and_eq_true, decide_eq_true_eq] at h
      exact okP_v C h.1.1 h.1.2 h.2
    · cases h
  | .f p cl f, ex, h => by
    unfold chkPl at h
    split at h
    · simp only [Bool.and_eq_true, decide_eq_true_eq, List.contains_iff_mem] at h
      exact okP_f C h.1.1.1.1 h.1.1.1.2 h.1.1.2 h.1.2 (goodP C tk p h.2)
    · cases h
  | .x p e, ex, h => by
    unfold chkPl at h
    split at h
    · simp only [Bool.and_eq_true] at h
      exact okP_x C h.1.1 (goodP C tk p h.1.2) ((goodE c k e).e C tk h.2)
    · cases h
/-- a name put to a comprehension -/
def asgC (k : Ck) (i : Nat) (x : Str) (px : Pos) (v : Expr) : Bool := match v with
  | .ListComp _ _ scope pos => decide (k.N[i]? = some x) && lclB k.sc x && (px.line == pos.line) && !(scope.names.any fun (n, k) => n == x && (k == .local || k == .cell))
  | _ => false
def isCmp : E → Bool
  | .comp _ _ _ _ => true
  | _ => false
mutual
def chkS (k : Ck) : S → Stmt → Bool
  | .asg i e, st => match st with
    | .Assign [.Name x px] v _ => (decide (k.N[i]? = some x) && locB k.sc x && notComp v && chkE k e v) || (isCmp e && asgC k i x px v && chkE k e v)
    | _ => false
  | .unp t e, st => match st with
    | .Assign [tg] v _ => chkT k.N (locB k.sc) t tg && notComp v && plainRhs tg v && chkE k e v
    | _ => false
  | .par i j a b, st => match st with
    | .Assign [.Tuple [.Name x px, .Name y py] _ _] (.Tuple [l, r] _ _) _ => decide (k.N[i]? = some x) && decide (k.N[j]? = some y) && parB k x y px py l r && chkE k a l && chkE k b r
    | _ => false
  | .papp p e, st => match st with
    | .Expr (.Call (.Attribute l at0 apos) [v] [] cpos) _ => decide (at0 = "append") && attOk l && notStar v && (apos.endLine == cpos.line) && chkPl k p l && chkE k e v
    | _ => false
  | .pins p a e, st => match st with
    | .Expr (.Call (.Attribute l at0 apos) [u, v] [] cpos) _ => decide (at0 = "insert") && attOk l && notStar u && notStar v && (apos.endLine == cpos.line) && chkPl k p l && chkE k a u && chkE k e v
    | _ => false
  | .prev p, st => match st with
    | .Expr (.Call (.Attribute l at0 apos) [] [] cpos) _ => decide (at0 = "reverse") && attOk l && (apos.endLine == cpos.line) && chkPl k p l
    | _ => false
  | .pfs p c f e, st => match st with
    | .Assign [.Attribute l x _] v _ => decide (Str.ofString f = x) && k.cls.contains c && k.nat.contains (c, f) && notComp v && chkPl k p l && chkE k e v
    | _ => false
  | .pst p j e, st => match st with
    | .Assign [.Subscript l ix _] v _ => plainIx ix && notComp v && chkPl k p l && chkE k e v && chkE k j ix
    | _ => false
  | .ex e, st => match st with
    | .Expr v _ => notComp v && chkE k e v
    | _ => false
  | .ifs t a b, st => match st with
    | .If c xs ys _ => chkE k t c && tOk t && chkSs k a xs && chkSs k b ys
    | _ => false
  | .whl t b, st => match st with
    | .While c xs [] _ => chkE k t c && tOk t && chkSs k b xs
    | _ => false
  | .for_ t it b, st => match st with
    | .For tg iter xs [] _ => chkT k.N (locB k.sc) t tg && chkIt k it tg iter && notSet iter && chkSs k b xs
    | _ => false
  | .ret e, st => match st with
    | .Return (some v) _ => chkE k e v
    | _ => false
  | .retn, st => match st with
    | .Return none _ => true
    | _ => false
  | .mv i, st => match st with
    | .Return (some (.Name x _)) _ => decide (k.N[i]? = some x) && visB k.sc x && nameOk x
    | _ => false
  | .brk, st => match st with
    | .Break _ => true
    | _ => false
  | .cnt, st => match st with
    | .Continue _ => true
    | _ => false
  | .pas, st => match st with
    | .Pass _ => true
    | _ => false
  | .rse x, st => match st with
    | .Raise (some (.Call (.Name y _) [.Constant (.str _) _ _] [] _)) none _ => decide (Str.ofString x = y) && glB k.sc y && nameOk y && k.excs.contains x
    | _ => false
  | .tryk ds cl i j b, st => match st with
    | .Try xs [.ExceptHandler (some (.Name x _)) (some n) [.Assign [.Name y _] (.Name n2 _) _] _] [] [] _ => decide (k.N[i]? = some n) && lclB k.sc n && nameOk n && decide (k.N[j]? = some y) && locB k.sc y && decide (n2 = n) && decide (Str.ofString cl = x) && glB k.sc x && nameOk x && (ds.all fun d => k.xp.contains (d, cl)) && decide (cl ≠ "ValueError") && (match ds with | [] => false | _ => true) && chkSs k b xs
    | _ => false
  | .mx .drop (.mth c m o es), st => match st with
    | .Expr (.Call (.Attribute l x apos) ls [] cpos) _ => decide (Str.ofString m = x) && chkPl k o l && k.cls.contains c && k.mth.contains (c, m) && attOk l && chkEs k es ls && decide (ls.length < 20) && (apos.endLine == cpos.line)
    | _ => false
  | .apop i j e, st => match st with
    | .Expr (.Call (.Attribute (.Name x _) a1 ap1) [.Call (.Attribute (.Name y _) a2 ap2) [v] [] cp2] [] cp1) _ => decide (a1 = "append") && decide (a2 = "pop") && decide (k.N[i]? = some x) && visB k.sc x && nameOk x && decide (k.N[j]? = some y) && visB k.sc y && nameOk y && notStar v && (ap1.endLine == cp1.line) && (ap2.endLine == cp2.line) && chkE k e v
    | _ => false
  | .fork t (.var i) b, st => match st with
    | .For tg (.Name y _) xs [] _ => decide (k.N[i]? = some y) && visB k.sc y && nameOk y && chkT k.N (locB k.sc) t tg && chkSs k b xs
    | _ => false
  | .tryx ds cl i b h, st => match st with
    | .Try xs [.ExceptHandler (some (.Name x _)) (some n) (hst :: hsts) _] [] [] _ => decide (k.N[i]? = some n) && lclB k.sc n && decide (Str.ofString cl = x) && glB k.sc x && nameOk x && (ds.all fun d => k.xp.contains (d, cl)) && decide (cl ≠ "ValueError") && (match ds with | [] => false | _ => true) && h.hot && chkHs k h (hst :: hsts) && chkSs k b xs
    | _ => false
  | _, _ => false
def chkSs (k : Ck) : Ss → List Stmt → Bool
  | .nil, xs => xs.isEmpty
  | .cons s ss, xs => if s.isFrz then chkSs k ss xs else match xs with
    | x :: xs => chkS k s x && chkSs k ss xs
    | [] => false
end
structure GoodS (c : Calls) (k : Nat) (s : S) : Prop where
  ok : ∀ {X : Cx} {ck : Ck} {Wx : WX}, SxOk c k ck X → Takes X Wx → ∀ {st : Stmt}, chkS ck s st = true → OkS X Wx st (evS c s)
structure GoodSs (c : Calls) (k : Nat) (ss : Ss) : Prop where
  ok : ∀ {X : Cx} {ck : Ck} {Wx : WX}, SxOk c k ck X → Takes X Wx → ∀ {xs : List Stmt}, chkSs ck ss xs = true → OkSs X Wx xs (evSs c ss)
theorem isFrz_eq {s : S} (h : s.isFrz = true) : ∃ i, s = .frz i := by
  cases s <;> first | exact ⟨_, rfl⟩ | cases h
theorem good_asgC {c : Calls} {k : Nat} {X : Cx} {ck : Ck} {Wx : WX} (C : SxOk c k ck X) (tk : Takes X Wx) {e : E} {i : Nat} {x : Str} {px pos : Pos} {v : Expr} (hc : isCmp e = true) (ha : asgC ck i x px v = true) (h : chkE ck e v = true) : OkS X Wx (.Assign [.Name x px] v pos) (evS c (.asg i e)) := by
  cases e <;> first | cases hc | skip
  rename_i elt t it cs
  unfold chkE at h
  split at h
  · simp only [Bool.and_eq_true] at h
    obtain ⟨⟨⟨⟨⟨h1, h2⟩, h3⟩, h4⟩, h5⟩, h6⟩ := h
    unfold asgC at ha
    simp only [Bool.and_eq_true, decide_eq_true_eq, Bool.not_eq_true'] at ha
    obtain ⟨⟨⟨a1, a2⟩, a3⟩, a4⟩ := ha
    exact ok_asgC C a1 a2 a3 a4 h2 h4 h3 ((goodIt c k it).i C.x tk h1) (fun s H Cc cl fp => (goodE c k elt).e (blk_ok C.x _ s H Cc cl fp) takes0 h5)
      (fun s H Cc cl fp sl σ A w t => (goodCnd c k cs).c (blk_ok C.x _ s H Cc cl fp) takes0 h6 sl σ A w t)
  · cases h
mutual
theorem goodS (c : Calls) (k : Nat) : ∀ s : S, GoodS c k s
  | .asg i e => ⟨fun {X ck Wx} C tk {st} h => by
    unfold chkS at h
    split at h
    · simp only [Bool.or_eq_true, Bool.and_eq_true, decide_eq_true_eq] at h
      rcases h with h | h
      · exact ok_asg C h.1.1.1 h.1.1.2 h.1.2 ((goodE c k e).e C.x tk h.2)
      · exact good_asgC C tk h.1.1 h.1.2 h.2
    · cases h⟩
  | .unp t e => ⟨fun {X ck Wx} C tk {st} h => by
    unfold chkS at h
    split at h
    · simp only [Bool.and_eq_true, decide_eq_true_eq] at h
      exact ok_unp C h.1.1.1 h.1.1.2 (swapped_none h.1.2) ((goodE c k e).e C.x tk h.2)
    · cases h⟩
  | .par i j a b => ⟨fun {X ck Wx} C tk {st} h => by
    unfold chkS at h
    split at h
    · simp only [Bool.and_eq_true, decide_eq_true_eq] at h
      exact ok_par C h.1.1.1.1 h.1.1.1.2 h.1.1.2 ((goodE c k a).e C.x tk h.1.2) ((goodE c k b).e C.x tk h.2)
    · cases h⟩
  | .papp p e => ⟨fun {X ck Wx} C tk {st} h => by
    unfold chkS at h
    split at h
    · simp only [Bool.and_eq_true, decide_eq_true_eq] at h
      obtain ⟨⟨⟨⟨⟨h1, h2⟩, h3⟩, h4⟩, h5⟩, h6⟩ := h
      exact ok_papp C h1 h2 h3 h4 (goodP C.x tk p h5) ((goodE c k e).e C.x tk h6)
    · cases h⟩
  | .prev p => ⟨fun {X ck Wx} C tk {st} h => by
    unfold chkS at h
    split at h
    · simp only [Bool.and_eq_true, decide_eq_true_eq] at h
      obtain ⟨⟨⟨h1, h2⟩, h3⟩, h4⟩ := h
      exact ok_prev h1 h2 h3 (goodP C.x tk p h4)
    · cases h⟩
  | .pfs p cl f e => ⟨fun {X ck Wx} C tk {st} h => by
    unfold chkS at h
    split at h
    · simp only [Bool.and_eq_true, decide_eq_true_eq, List.contains_iff_mem] at h
      obtain ⟨⟨⟨⟨⟨h1, h2⟩, h3⟩, h4⟩, h5⟩, h6⟩ := h
      exact ok_pfs C h1 h2 h3 h4 (goodP C.x tk p h5) ((goodE c k e).e C.x tk h6)
    · cases h⟩
  | .pst p j e => ⟨fun {X ck Wx} C tk {st} h => by
    unfold chkS at h
    split at h
    · simp only [Bool.and_eq_true, decide_eq_true_eq] at h
      obtain ⟨⟨⟨⟨h1, h2⟩, h3⟩, h4⟩, h5⟩ := h
      exact ok_pst C h1 h2 (goodP C.x tk p h3) ((goodE c k e).e C.x tk h4) ((goodE c k j).e C.x tk h5)
    · cases h⟩
  | .ex e => ⟨fun {X ck Wx} C tk {st} h => by
    unfold chkS at h
    split at h
    · simp only [Bool.and_eq_true] at h
      exact ok_ex h.1 ((goodE c k e).e C.x tk h.2)
    · cases h⟩
  | .ifs t a b => ⟨fun {X ck Wx} C tk {st} h => by
    unfold chkS at h
    split at h
    · simp only [Bool.and_eq_true] at h
      exact ok_ifs ((goodE c k t).t C.x tk h.1.1.1 h.1.1.2) ((goodSs c k a).ok C tk h.1.2) ((goodSs c k b).ok C tk h.2)
    · cases h⟩
  | .whl t b => ⟨fun {X ck Wx} C tk {st} h => by
    unfold chkS at h
    split at h
    · simp only [Bool.and_eq_true] at h
      exact ok_whl C ((goodE c k t).t C.x tk h.1.1 h.1.2) ((goodSs c k b).ok C tk h.2)
    · cases h⟩
  | .for_ t it b => ⟨fun {X ck Wx} C tk {st} h => by
    unfold chkS at h
    split at h
    · simp only [Bool.and_eq_true] at h
      obtain ⟨⟨⟨h1, h2⟩, h3⟩, h4⟩ := h
      exact ok_for C h3 ((goodIt c k it).i C.x tk h2) h1 ((goodSs c k b).ok C tk h4)
    · cases h⟩
  | .ret e => ⟨fun {X ck Wx} C tk {st} h => by
    unfold chkS at h
    split at h
    · exact ok_ret ((goodE c k e).e C.x tk h)
    · cases h⟩
  | .retn => ⟨fun {X ck Wx} C tk {st} h => by
    unfold chkS at h
    split at h
    · exact ok_retn
    · cases h⟩
  | .mv i => ⟨fun {X ck Wx} C tk {st} h => by
    unfold chkS at h
    split at h
    · simp only [Bool.and_eq_true, decide_eq_true_eq] at h
      exact ok_mv C h.1.1 h.1.2 h.2
    · cases h⟩
  | .brk => ⟨fun {X ck Wx} C tk {st} h => by
    unfold chkS at h
    split at h
    · exact ok_brk
    · cases h⟩
  | .cnt => ⟨fun {X ck Wx} C tk {st} h => by
    unfold chkS at h
    split at h
    · exact ok_cnt
    · cases h⟩
  | .pas => ⟨fun {X ck Wx} C tk {st} h => by
    unfold chkS at h
    split at h
    · exact ok_pas
    · cases h⟩
  | .rse x => ⟨fun {X ck Wx} C tk {st} h => by
    unfold chkS at h
    split at h
    · simp only [Bool.and_eq_true, decide_eq_true_eq, List.contains_iff_mem] at h
      obtain ⟨⟨⟨h1, h2⟩, h3⟩, h4⟩ := h
      subst h1
      obtain ⟨g1, g2, g3, g4, g5⟩ := C.x.exc x h4
      exact ok_rse C tk rfl h2 h3 g1 g2 g3 g4 g5
    · cases h⟩
  | .tryk ds cl i j b => ⟨fun {X ck Wx} C tk {st} h => by
    unfold chkS at h
    split at h
    · simp only [Bool.and_eq_true, decide_eq_true_eq, List.contains_iff_mem, List.all_eq_true] at h
      obtain ⟨⟨⟨⟨⟨⟨⟨⟨⟨⟨⟨⟨h1, h2⟩, h3⟩, h4⟩, h5⟩, h6⟩, h7⟩, h8⟩, h9⟩, h10⟩, h11⟩, h12⟩, h13⟩ := h
      subst h6
      refine ok_tryk C tk h1 h2 h3 h4 h5 h7 h8 h9 h10 h11 ?_ fun C' tk' => (goodSs c k b).ok C' tk' h13
      cases ds with
      | nil => cases h12
      | cons d _ => exact ⟨d, by simp⟩
    · cases h⟩
  | .tryx ds cl i b hh => ⟨fun {X ck Wx} C tk {st} h => by
    unfold chkS at h
    split at h
    · simp only [Bool.and_eq_true, decide_eq_true_eq, List.contains_iff_mem, List.all_eq_true] at h
      obtain ⟨⟨⟨⟨⟨⟨⟨⟨⟨⟨h1, h2⟩, h3⟩, h4⟩, h5⟩, h6⟩, h7⟩, h8⟩, h9⟩, h10⟩, h11⟩ := h
      refine ok_tryx C tk h1 h2 h3 h4 h5 h6 h7 ?_ h9 h10 fun C' tk' => (goodSs c k b).ok C' tk' h11
      cases ds with
      | nil => cases h8
      | cons d _ => exact ⟨d, by simp⟩
    · cases h⟩
  | .frz i => ⟨fun {X ck Wx} C tk {st} h => by unfold chkS at h; cases h⟩
  | .pins p a e => ⟨fun {X ck Wx} C tk {st} h => by
    unfold chkS at h
    split at h
    · simp only [Bool.and_eq_true, decide_eq_true_eq] at h
      obtain ⟨⟨⟨⟨⟨⟨⟨h1, h2⟩, h3⟩, h4⟩, h5⟩, h6⟩, h7⟩, h8⟩ := h
      exact ok_pins C h1 h2 h3 h4 h5 (goodP C.x tk p h6) ((goodE c k a).e C.x tk h7) ((goodE c k e).e C.x tk h8)
    · cases h⟩
  | .apop i j e => ⟨fun {X ck Wx} C tk {st} h => by
    unfold chkS at h
    split at h
    · simp only [Bool.and_eq_true, decide_eq_true_eq] at h
      obtain ⟨⟨⟨⟨⟨⟨⟨⟨⟨⟨⟨h1, h2⟩, h3⟩, h4⟩, h5⟩, h6⟩, h7⟩, h8⟩, h9⟩, h10⟩, h11⟩, h12⟩ := h
      exact ok_apop C h1 h2 h3 h4 h5 h6 h7 h8 h9 h10 h11 ((goodE c k e).e C.x tk h12)
    · cases h⟩
  | .mx .drop (.mth cl m o es) => ⟨fun {X ck Wx} C tk {st} h => by
    unfold chkS at h
    split at h
    · simp only [Bool.and_eq_true, decide_eq_true_eq, List.contains_iff_mem] at h
      obtain ⟨⟨⟨⟨⟨⟨⟨h1, h2⟩, h3⟩, h4⟩, h5⟩, h6⟩, h7⟩, h8⟩ := h
      exact ok_mxd C tk h1 h3 h4 h5 h8 h7 (fun e r he => chkEs_cons (he ▸ h6)) (fun he => chkEs_nil (he ▸ h6)) (goodP C.x tk o h2) ((goodEs c k es).a C.x tk h6)
    · cases h⟩
  | .mx (.asg _) _ => ⟨fun {X ck Wx} C tk {st} h => by unfold chkS at h; cases h⟩
  | .mx .ret _ => ⟨fun {X ck Wx} C tk {st} h => by unfold chkS at h; cases h⟩
  | .mx .drop (.mcl _ _) => ⟨fun {X ck Wx} C tk {st} h => by unfold chkS at h; cases h⟩
  | .mx .drop (.pop _ _) => ⟨fun {X ck Wx} C tk {st} h => by unfold chkS at h; cases h⟩
  | .mx .drop (.pop0 _) => ⟨fun {X ck Wx} C tk {st} h => by unfold chkS at h; cases h⟩
  | .fork t (.var i) b => ⟨fun {X ck Wx} C tk {st} h => by
    unfold chkS at h
    split at h
    · simp only [Bool.and_eq_true, decide_eq_true_eq] at h
      obtain ⟨⟨⟨⟨h1, h2⟩, h3⟩, h4⟩, h5⟩ := h
      exact ok_fork C h1 h2 h3 h4 ((goodSs c k b).ok C tk h5)
    · cases h⟩
  | .fork t (.int _) b => ⟨fun {X ck Wx} C tk {st} h => by unfold chkS at h; cases h⟩
  | .fork t (.bl _) b => ⟨fun {X ck Wx} C tk {st} h => by unfold chkS at h; cases h⟩
  | .fork t (.non) b => ⟨fun {X ck Wx} C tk {st} h => by unfold chkS at h; cases h⟩
  | .fork t (.str _) b => ⟨fun {X ck Wx} C tk {st} h => by unfold chkS at h; cases h⟩
  | .fork t (.gi _ _) b => ⟨fun {X ck Wx} C tk {st} h => by unfold chkS at h; cases h⟩
  | .fork t (.gs _ _) b => ⟨fun {X ck Wx} C tk {st} h => by unfold chkS at h; cases h⟩
  | .fork t (.bin _ _ _) b => ⟨fun {X ck Wx} C tk {st} h => by unfold chkS at h; cases h⟩
  | .fork t (.neg _) b => ⟨fun {X ck Wx} C tk {st} h => by unfold chkS at h; cases h⟩
  | .fork t (.cmp _ _ _) b => ⟨fun {X ck Wx} C tk {st} h => by unfold chkS at h; cases h⟩
  | .fork t (.isN _) b => ⟨fun {X ck Wx} C tk {st} h => by unfold chkS at h; cases h⟩
  | .fork t (.notN _) b => ⟨fun {X ck Wx} C tk {st} h => by unfold chkS at h; cases h⟩
  | .fork t (.chn _ _ _ _ _) b => ⟨fun {X ck Wx} C tk {st} h => by unfold chkS at h; cases h⟩
  | .fork t (.and _ _) b => ⟨fun {X ck Wx} C tk {st} h => by unfold chkS at h; cases h⟩
  | .fork t (.or _ _) b => ⟨fun {X ck Wx} C tk {st} h => by unfold chkS at h; cases h⟩
  | .fork t (.not _) b => ⟨fun {X ck Wx} C tk {st} h => by unfold chkS at h; cases h⟩
  | .fork t (.ife _ _ _) b => ⟨fun {X ck Wx} C tk {st} h => by unfold chkS at h; cases h⟩
  | .fork t (.tup _) b => ⟨fun {X ck Wx} C tk {st} h => by unfold chkS at h; cases h⟩
  | .fork t (.lst _) b => ⟨fun {X ck Wx} C tk {st} h => by unfold chkS at h; cases h⟩
  | .fork t (.sub _ _) b => ⟨fun {X ck Wx} C tk {st} h => by unfold chkS at h; cases h⟩
  | .fork t (.call _ _) b => ⟨fun {X ck Wx} C tk {st} h => by unfold chkS at h; cases h⟩
  | .fork t (.blt _ _) b => ⟨fun {X ck Wx} C tk {st} h => by unfold chkS at h; cases h⟩
  | .fork t (.fz _) b => ⟨fun {X ck Wx} C tk {st} h => by unfold chkS at h; cases h⟩
  | .fork t (.isi _ _) b => ⟨fun {X ck Wx} C tk {st} h => by unfold chkS at h; cases h⟩
  | .fork t (.isx _ _ _) b => ⟨fun {X ck Wx} C tk {st} h => by unfold chkS at h; cases h⟩
  | .fork t (.comp _ _ _ _) b => ⟨fun {X ck Wx} C tk {st} h => by unfold chkS at h; cases h⟩
  | .fork t (.fld _ _ _) b => ⟨fun {X ck Wx} C tk {st} h => by unfold chkS at h; cases h⟩
  | .fork t (.mth _ _ _ _) b => ⟨fun {X ck Wx} C tk {st} h => by unfold chkS at h; cases h⟩
  | .fork t (.mk _ _) b => ⟨fun {X ck Wx} C tk {st} h => by unfold chkS at h; cases h⟩
  | .fork t (.dnew) b => ⟨fun {X ck Wx} C tk {st} h => by unfold chkS at h; cases h⟩
  | .fork t (.disp _) b => ⟨fun {X ck Wx} C tk {st} h => by unfold chkS at h; cases h⟩
  | .fork t (.sli _ _ _) b => ⟨fun {X ck Wx} C tk {st} h => by unfold chkS at h; cases h⟩
  | .fork t (.dgt _ _ _) b => ⟨fun {X ck Wx} C tk {st} h => by unfold chkS at h; cases h⟩
  | .fork t (.dg1 _ _) b => ⟨fun {X ck Wx} C tk {st} h => by unfold chkS at h; cases h⟩
  | .fork t (.srt _ _ _) b => ⟨fun {X ck Wx} C tk {st} h => by unfold chkS at h; cases h⟩
  | .fork t (.sm0 _ _) b => ⟨fun {X ck Wx} C tk {st} h => by unfold chkS at h; cases h⟩
  | .fork t (.sm1 _ _ _) b => ⟨fun {X ck Wx} C tk {st} h => by unfold chkS at h; cases h⟩
  | .fork t (.lrng _ _) b => ⟨fun {X ck Wx} C tk {st} h => by unfold chkS at h; cases h⟩
  | .forit t e b => ⟨fun {X ck Wx} C tk {st} h => by unfold chkS at h; cases h⟩
  | .lck i s => ⟨fun {X ck Wx} C tk {st} h => by unfold chkS at h; cases h⟩
theorem goodSs (c : Calls) (k : Nat) : ∀ ss : Ss, GoodSs c k ss
  | .nil => ⟨fun {X ck Wx} C tk {xs} h => by
    unfold chkSs at h
    cases xs with
    | nil => exact okSs_nil
    | cons _ _ => cases h⟩
  | .cons s ss => ⟨fun {X ck Wx} C tk {xs} h => by
    unfold chkSs at h
    split at h
    · rename_i hf
      obtain ⟨i, rfl⟩ := isFrz_eq hf
      exact okSs_frz ((goodSs c k ss).ok C tk h)
    · split at h
      · simp only [Bool.and_eq_true] at h
        exact okSs_cons ((goodS c k s).ok C tk h.1) ((goodSs c k ss).ok C tk h.2)
      · cases h⟩
end
/-! ### defs -/
theorem slR_nos {K : PySem.W.Frag} {w : Wd} : ∀ n : Nat, SlR K w (List.replicate n .no) (List.replicate n none) []
  | 0 => ⟨rfl, rfl⟩
  | n + 1 => ⟨none, _, [], [], rfl, rfl, slR_nos n, rfl⟩
/-- the slots at the begin: k things to be changed stand ahead -/
theorem slR_start {K : PySem.W.Frag} {w : Wd} (n : Nat) : ∀ {ss : List SV} {vs : List V} {A : List Addr} (k : Nat), ArgsR K w.F w.G w.H ss vs A → boOk k ss = true → (∀ i, (bvs ss vs)[i]? = w.bs[k + i]?) → SlR K w (ss ++ List.replicate n .no) (vs.map some ++ List.replicate n none) A
  | [], vs, A, k, ⟨h1, h2⟩, hb, hk => by
    subst h1 h2
    exact slR_nos n
  | s :: ss, _, _, k, ⟨v, r, A1, A2, e1, e2, e3, e4⟩, hb, hk => by
    subst e1 e4
    cases s with
    | no => cases hb
    | ow m => cases hb
    | cl d => exact ⟨some v, _, A1, A2, rfl, ⟨v, rfl, e2.1, e2.2⟩, slR_start n k e3 hb hk, rfl⟩
    | lk m =>
      obtain ⟨⟨B, o⟩, hA⟩ := e2
      exact ⟨some v, _, A1, A2, rfl, ⟨v, B, rfl, o, hA⟩, slR_start n k e3 hb hk, rfl⟩
    | bo i m =>
      unfold boOk at hb
      simp only [Bool.and_eq_true, decide_eq_true_eq] at hb
      obtain ⟨rfl, hb⟩ := hb
      refine ⟨some v, _, A1, A2, rfl, ⟨v, rfl, ?_, e2⟩, slR_start n (i + 1) e3 hb fun j => ?_, rfl⟩
      · have := hk 0
        rw [Nat.add_zero] at this
        rw [← this]; rfl
      · have := hk (j + 1)
        rw [show i + 1 + j = i + (j + 1) by omega, ← this]; rfl
theorem args_len {K : PySem.W.Frag} {F G H : Hp} : ∀ {ss : List SV} {vs : List V} {A : List Addr}, ArgsR K F G H ss vs A → ss.length = vs.length
  | [], vs, A, ⟨h1, _⟩ => by subst h1; rfl
  | s :: ss, _, _, ⟨v, r, A1, A2, e1, e2, e3, e4⟩ => by rw [e1]; simp [args_len e3]
/-- what was handed in, at the end -/
theorem bosF_rep {K : PySem.W.Frag} {w : Wd} : ∀ {ss : List SV} {vs : List V} {sl : Sl} {σ : L2.St} {A : List Addr} {ms : List MO} (k : Nat), ss.length = vs.length → boOk k ss = true → (∀ i, (bvs ss vs)[i]? = w.bs[k + i]?) → SlR K w sl σ A → A.Nodup → bosF ss sl = some ms → ∃ A2, ORepL K w.F w.H ms (bvs ss vs) A2 ∧ A2.Nodup ∧ ∀ a ∈ A2, a ∈ A
  | [], [], sl, σ, A, ms, k, _, _, _, _, _, h => by
    have : ms = [] := by unfold bosF at h; cases h; rfl
    subst this
    exact ⟨[], ⟨rfl, rfl⟩, List.nodup_nil, fun a h => absurd h (by simp)⟩
  | [], _ :: _, _, _, _, _, _, e, _, _, _, _, _ => by cases e
  | _ :: _, [], _, _, _, _, _, e, _, _, _, _, _ => by cases e
  | s :: ss, v :: vs, sl, σ, A, ms, k, hl, hb, hk, hs, nd, h => by
    cases sl with
    | nil => cases s <;> cases h
    | cons s' sl =>
      obtain ⟨o, σ', A1, A2, e1, e2, e3, e4⟩ := hs
      subst e1 e4
      have nd' := List.nodup_append.mp nd
      have skip : ∀ {ms : List MO}, boOk k ss = true ∨ True → bosF ss sl = some ms → (∀ i, (bvs ss vs)[i]? = w.bs[k + i]?) → boOk k ss = true → ∃ A3, ORepL K w.F w.H ms (bvs ss vs) A3 ∧ A3.Nodup ∧ ∀ a ∈ A3, a ∈ A1 ++ A2 := fun {ms} _ h hk hb => by
        obtain ⟨A3, q1, q2, q3⟩ := bosF_rep k (by simpa using hl) hb hk e3 nd'.2.1 h
        exact ⟨A3, q1, q2, fun a ha => List.mem_append_right _ (q3 a ha)⟩
      cases s with
      | no => cases hb
      | ow m => cases hb
      | cl d => exact skip (.inr trivial) (by cases s' <;> exact h) hk hb
      | lk m => exact skip (.inr trivial) (by cases s' <;> exact h) hk hb
      | bo i m =>
        unfold boOk at hb
        simp only [Bool.and_eq_true, decide_eq_true_eq] at hb
        obtain ⟨rfl, hb⟩ := hb
        cases s' with
        | bo j m' =>
          unfold bosF at h
          split at h
          · rename_i hij
            subst hij
            cases h2 : bosF ss sl with
            | none => rw [h2] at h; cases h
            | some ms' =>
              rw [h2] at h
              cases h
              obtain ⟨v', rfl, g1, g2⟩ := e2
              have k0 := hk 0
              rw [Nat.add_zero, g1] at k0
              have ev : v = v' := Option.some.inj k0
              subst ev
              obtain ⟨A3, q1, q2, q3⟩ := bosF_rep (i + 1) (by simpa using hl) hb (fun j => by
                have := hk (j + 1)
                rw [show i + 1 + j = i + (j + 1) by omega, ← this]; rfl) e3 nd'.2.1 h2
              refine ⟨A1 ++ A3, ⟨v, bvs ss vs, A1, A3, rfl, g2, q1, rfl⟩, ?_, fun a ha => ?_⟩
              · rw [List.nodup_append]
                exact ⟨nd'.1, q2, fun a ha b hb z => by subst z; exact nd'.2.2 a ha a (q3 a hb) rfl⟩
              · rcases List.mem_append.mp ha with z | z
                · exact List.mem_append_left _ z
                · exact List.mem_append_right _ (q3 a z)
          · cases h
        | _ => cases h
theorem noBo_bvs : ∀ {ss : List SV} {vs : List V}, ss.length = vs.length → noBo ss = true → bvs ss vs = []
  | [], [], _, _ => rfl
  | [], _ :: _, h, _ => by cases h
  | _ :: _, [], h, _ => by cases h
  | s :: ss, v :: vs, h, hb => by
    cases s <;> first | (cases hb; done) | exact noBo_bvs (ss := ss) (vs := vs) (by simpa using h) hb
theorem bosG_rep {K : PySem.W.Frag} {w : Wd} {ss : List SV} {vs : List V} {sl : Sl} {σ : L2.St} {A : List Addr} {ms : List MO} (hl : ss.length = vs.length) (hb : boOk 0 ss = true) (hk : ∀ i, (bvs ss vs)[i]? = w.bs[0 + i]?) (hs : SlR K w sl σ A) (nd : A.Nodup) (h : bosG ss sl = some ms) : ∃ A2, ORepL K w.F w.H ms (bvs ss vs) A2 ∧ A2.Nodup ∧ ∀ a ∈ A2, a ∈ A := by
  unfold bosG at h
  split at h
  · rename_i hn
    cases h
    rw [noBo_bvs hl hn]
    exact ⟨[], ⟨rfl, rfl⟩, List.nodup_nil, fun a h => absurd h (by simp)⟩
  · exact bosF_rep 0 hl hb hk hs nd h
theorem evF_len {c : Calls} {np n : Nat} {body : Ss} {ss : List SV} (h : evF c np n body ss ≠ .stuck) : ss.length = np ∧ boOk 0 ss = true := by
  unfold evF at h
  split at h
  · assumption
  · exact absurd rfl h
theorem RetP.ns {K : PySem.W.Frag} {F H : Hp} {A : List Addr} {us : List V} {r : R XV} {Q : VK} {E : XK} (h : RetP K F H A us r Q E) : r ≠ .stuck := by
  cases r with
  | stuck => exact h.elim
  | _ => exact fun z => by cases z
theorem retX_ok {x z : XV} (h : retX x = some z) : z = x ∧ z.muP = (z, []) := by
  unfold retX at h
  split at h <;> first | (cases h; exact ⟨rfl, rfl⟩) | cases h
theorem muF_P {x : XV} (h : x.muP = (x, [])) (ms : List MO) : (muF x ms).muP = (x, ms) := by
  cases ms with
  | nil => exact h
  | cons m ms => rfl
theorem fn_ok {c : Calls} {k : Nat} {ck : Ck} {P : Program} {wl : World} {K : PySem.W.Frag} {mg : Str → Option Value} {base : Heap} {x qual : Str} {params : Arguments} {body : List Stmt} {scope : Scope} {fa : Addr} {fd : FuncData} {ps : List Str} {ss : Ss}
    (F : FunD K x qual params body scope [] [] fa fd) (S : FnScope ck.N ps scope) (hsc : scope = ck.sc) (hck : chkSs ck ss body = true)
    (hC : ∀ X : Cx, X.N = ck.N → X.N.Nodup → X.env.scope = ck.sc → X.calm = true → Room (k + 1) X.A → X.prog = P → X.w = wl → X.K = K → X.mg = mg → X.base = base → CxOk c k ck X) :
    FnOk P wl K mg base (L2.CX P wl) (k + 2) fa fd ps (spR K (evF c ps.length ck.N.length ss)) := by
  have len : ∀ vs H Q E, spR K (evF c ps.length ck.N.length ss) vs H Q E → vs.length = ps.length := fun vs H Q E ⟨as, F0, A, e, ha, _, _, hr⟩ => by
    rw [← args_len ha]
    exact (evF_len hr.ns).1
  refine F.ok S len fun cdv A outer s H vs Q E hr hsp => ?_
  obtain ⟨as, F0, A0, e, ha, nA, zA, hret⟩ := hsp
  let X : Cx := cxOf (L2.CX P wl) P wl K mg base ck.N qual scope fa cdv A outer s H E
  have C : SxOk c k ck X := ⟨hC X rfl S.nd hsc rfl hr rfl rfl rfl rfl rfl, fun _ => rfl, passes_of (K := fun e s' => L2.CX P wl outer H s E e s') rfl, S.kind, rfl, rfl⟩
  have tk : Takes X (fun cls d _ H => E cls d H) := takes_of rfl rfl rfl rfl
  have ok := (goodSs c k ss).ok C tk hck
  obtain ⟨alen, bok⟩ := evF_len hret.ns
  have hst : L2.start ck.N vs = vs.map some ++ List.replicate (ck.N.length - ps.length) none := by
    unfold L2.start
    rw [← args_len ha, alen]
  have hin : ∀ a ∈ A0, minus H A0 a = none := fun a h => by unfold minus; rw [if_pos h]
  have t0 : AtS K (fun a => minus H A0 a ≠ none) (as ++ List.replicate (ck.N.length - ps.length) .no) (L2.start ck.N vs) A0 ⟨F0, minus H A0, H, bvs as vs⟩ :=
    ⟨⟨⟨e, minus_ex H A0⟩, by rw [hst]; exact slR_start (w := ⟨F0, minus H A0, H, bvs as vs⟩) _ 0 ha bok (fun i => by rw [Nat.zero_add]), ⟨nA, fun a h => ⟨hin a h, zA a h⟩⟩⟩, fun a h q => q (hin a h), fun a h => h⟩
  have post := ok _ _ _ _ _ t0
  refine ⟨weSs X body, pss_we, ?_⟩
  have ev : evF c ps.length ck.N.length ss as = retR as (evSs c ss (as ++ List.replicate (ck.N.length - ps.length) .no)) := by
    unfold evF
    rw [if_pos ⟨alen, bok⟩]
  rw [ev] at hret
  have newF : ∀ {w' : Wd}, WLeS (fun a => minus H A0 a ≠ none) ⟨F0, minus H A0, H, bvs as vs⟩ w' → NewF (minus H A0) F0 w'.F := fun l a h q => l.ff a h q
  have nB : ∀ {a : Addr}, ¬ (minus H A0 a ≠ none) → a ∈ A0 ∨ H a = none := fun {a} h => by
    by_cases q : a ∈ A0
    · exact .inl q
    · have h' : minus H A0 a = none := Classical.not_not.mp h
      unfold minus at h'
      rw [if_neg q] at h'
      exact .inr h'
  have fin : ∀ {sl : Sl} {w' : Wd} {σ : L2.St} {A C : List Addr} {ms : List MO}, bosG as sl = some ms → AtS K (fun a => minus H A0 a ≠ none) sl σ A w' → WLeS (fun a => minus H A0 a ≠ none) ⟨F0, minus H A0, H, bvs as vs⟩ w' → Own w' C → (∀ a ∈ C, ¬ (minus H A0 a ≠ none) ∧ a ∉ A) →
      ∃ A2, EndR K H A0 w'.F w'.H (bvs as vs) ms C A2 := fun {sl w' σ A C ms} hb t l ow off => by
    obtain ⟨A2, q1, q2, q3⟩ := bosG_rep (w := w') (args_len ha) bok (fun i => by rw [Nat.zero_add, l.bs]) t.at_.sl t.at_.ow.nd hb
    refine ⟨A2, q1, ?_, fun a ha' => nB (off a ha').1, fun a ha' => nB (t.nb a (q3 a ha')), fun a ha' => ?_⟩
    · rw [List.nodup_append]
      exact ⟨ow.nd, q2, fun a ha b hb z => by subst z; exact (off a ha).2 (q3 a hb)⟩
    · have no : w'.G a = none ∧ ∀ o u, w'.H a ≠ some (.frz o u) := by
        rcases List.mem_append.mp ha' with z | z
        · exact ow.no a z
        · exact t.at_.ow.no a (q3 a z)
      exact ⟨t.at_.ok.fg.free no.1, no.2⟩
  cases ho : evSs c ss (as ++ List.replicate (ck.N.length - ps.length) .no) with
  | none => rw [ho] at hret; exact hret.elim
  | some o =>
    rw [ho] at hret
    refine post.get ho ?_
    cases o with
    | nx sl =>
      unfold retR at hret
      cases hb : bosG as sl with
      | none => simp only [hb] at hret; exact hret.elim
      | some ms =>
        simp only [hb] at hret
        intro w' σ A t l
        obtain ⟨A2, en⟩ := fin hb t l own_nil (fun a h => absurd h (by simp))
        refine hret w'.F w'.H .non l.f t.at_.ok.fh (l.g.trans t.at_.ok.gh) (newF l) ⟨[], A2, ?_⟩
        rw [muF_P rfl]
        exact ⟨⟨rfl, rfl⟩, en⟩
    | bk sl => exact hret.elim
    | ct sl => exact hret.elim
    | rt z sl =>
      unfold retR at hret
      cases hx : retX z with
      | none => simp only [hx] at hret; exact hret.elim
      | some z' =>
        cases hb : bosG as sl with
        | none => simp only [hx, hb] at hret; exact hret.elim
        | some ms =>
          simp only [hx, hb] at hret
          obtain ⟨rfl, hm⟩ := retX_ok hx
          intro w' v σ A C' t l r ow off
          obtain ⟨A2, en⟩ := fin hb t l ow off
          refine hret w'.F w'.H v l.f t.at_.ok.fh (l.g.trans t.at_.ok.gh) (newF l) ⟨C', A2, ?_⟩
          rw [muF_P hm]
          refine ⟨?_, en⟩
          cases z' with
          | cl d => exact r
          | nw m => exact r
          | al => exact r
          | _ => cases hx
    | ex ex sl =>
      unfold retR at hret
      cases hb : bosG as sl with
      | none => simp only [hb] at hret; exact hret.elim
      | some ms =>
        simp only [hb] at hret
        intro w' σ A cls d t l er
        obtain ⟨A2, en⟩ := fin hb t l own_nil (fun a h => absurd h (by simp))
        exact hret w'.F w'.H A2 cls d l.f t.at_.ok.fh (l.g.trans t.at_.ok.gh) (newF l) en er
end Mo
namespace Mo
open PySem PySem.Spec PyProof.Rows L2
/-! ### a program of defs -/
/-- nm: how it is called, and its qualified name; at_: its own name, or its class and its own name -/
structure PFn where
  nm : String
  ps : List String
  N : List String
  body : Ss
  st : Stmt
  at_ : String × Option String := (nm, none)
structure Pg where
  fns : List PFn
  free : List String
  gi : List (String × Int)
  gs : List (String × Str)
  excs : List String
  xp : List (String × String)
  cls : List String := []
  nat : List (String × String) := []
  mks : List String := []
  ixf : List (String × Nat) := []
noncomputable def run (p : Pg) : Nat → Calls
  | 0, _, _ => .stuck
  | n + 1, f, args => match p.fns.find? (fun d => d.nm == f) with
    | some d => evF (run p n) d.ps.length d.N.length d.body args
    | none => .stuck
def PFn.isG (d : PFn) : Bool := decide (d.at_ = (d.nm, none))
def PFn.mth (d : PFn) : Option (String × String) := match d.at_ with
  | (c, some m) => if d.nm = c ++ "." ++ m then some (c, m) else none
  | _ => none
def Pg.mth (p : Pg) : List (String × String) := (p.fns.filterMap PFn.mth).filter fun q => decide (q.2 ≠ "__init__")
def Pg.ck (p : Pg) (d : PFn) : Ck := ⟨d.N.map Str.ofString, defScope d.st, (p.fns.filter PFn.isG).map (·.nm), p.free, p.gi, p.gs, p.excs, p.xp, p.cls, p.nat, p.mth, p.mks, p.ixf⟩
/-- its own name -/
def PFn.own (d : PFn) : String := d.at_.2.getD d.at_.1
def chkFn (p : Pg) (d : PFn) : Bool := (match (defScope d.st).kind with | .function => true | _ => false) && !(defScope d.st).isCoroutine && !(defScope d.st).isGenerator && decide ((d.N.map Str.ofString).Nodup) &&
  decide ((d.N.map Str.ofString).take (d.ps.map Str.ofString).length = d.ps.map Str.ofString) && (d.ps.map Str.ofString).all (fun x => locB (defScope d.st) x) && (defScope d.st).names.all (fun y => match y.2 with | .free => false | _ => true) && chkSs (p.ck d) d.body (defBody d.st)
def BindP (d : PFn) : Prop := ∀ (kV doc pm : Value) (an : Option Addr) (cdv ct : Value) (us : List Value), us.length = (d.ps.map Str.ofString).length →
  bindArgs (PySem.W.fnOf (Str.ofString d.own) (Str.ofString d.nm) (defArgs d.st) (defBody d.st) (defScope d.st) .none kV doc pm an cdv ct) ⟨us, []⟩ = pure ((d.ps.map Str.ofString).zip us)
def PFn.atS (d : PFn) : Str × Option Str := (Str.ofString d.at_.1, d.at_.2.map Str.ofString)
abbrev FunP (K : PySem.W.Frag) (d : PFn) (fd : FuncData) : Prop := FunD K (Str.ofString d.own) (Str.ofString d.nm) (defArgs d.st) (defBody d.st) (defScope d.st) [] [] (He.fAd K d.atS) fd
/-- one def of a name -/
def uniB (p : Pg) : Bool := p.fns.all fun d => match p.fns.find? (fun e => e.nm == d.nm) with
  | some e => decide (e.at_ = d.at_)
  | none => false
/-- a def that tells an item -/
def ixB (d : PFn) (j : Nat) : Bool := match d.ps, defBody d.st with
  | [p], [.Return (some (.Subscript (.Name q _) (.Constant (.int i) _ _) _)) _] => decide (Str.ofString p = q) && decide (i = j) && decide (d.N = d.ps) && decide (j < 1000) && nameOk q && lclB (defScope d.st) q && ((defScope d.st).names.all fun y => match y.2 with | .cell => false | _ => true)
  | _, _ => false
def ixOk (p : Pg) (q : String × Nat) : Bool := p.fns.any fun d => decide (d.nm = q.1) && d.isG && ixB d q.2
theorem chkFn_scope {p : Pg} {d : PFn} (h : chkFn p d = true) : FnScope (d.N.map Str.ofString) (d.ps.map Str.ofString) (defScope d.st) ∧ chkSs (p.ck d) d.body (defBody d.st) = true := by
  unfold chkFn at h
  simp only [Bool.and_eq_true, decide_eq_true_eq, Bool.not_eq_true', List.all_eq_true] at h
  obtain ⟨⟨⟨⟨⟨⟨⟨h1, h2⟩, h3⟩, h4⟩, h5⟩, h6⟩, h7⟩, h8⟩ := h
  refine ⟨⟨?_, h2, h3, h4, h5, fun x hx => ?_, fun y hy z => ?_⟩, h8⟩
  · split at h1
    · assumption
    · cases h1
  · have := h6 x hx
    unfold locB at this
    split at this <;> first | exact .inl (by assumption) | exact .inr (by assumption) | cases this
  · have := h7 y hy
    rw [z] at this
    cases this
theorem isG_eq {d : PFn} (h : d.isG = true) : d.at_ = (d.nm, none) := of_decide_eq_true h
theorem isG_own {d : PFn} (h : d.isG = true) (K : PySem.W.Frag) : d.own = d.nm ∧ He.fAd K d.atS = He.ga K (Str.ofString d.nm) := by
  have e := isG_eq h
  unfold PFn.own PFn.atS
  rw [e]
  exact ⟨rfl, rfl⟩
theorem mth_eq {d : PFn} {c m : String} (h : d.mth = some (c, m)) : d.at_ = (c, some m) ∧ d.nm = c ++ "." ++ m := by
  unfold PFn.mth at h
  split at h
  · rename_i c' m' e
    split at h
    · rename_i e2
      cases h
      exact ⟨e, e2⟩
    · cases h
  · cases h
theorem lclS_ok {sc : Scope} {x : Str} (h : lclB sc x = true) : sc.names.lookup x = some .local := by
  unfold lclB at h
  split at h
  · assumption
  · cases h
theorem ixB_ok {K : PySem.W.Frag} {d : PFn} {j : Nat} (hg : d.isG = true) (h : ixB d j = true) (hb : BindP d) (S : FnScope (d.N.map Str.ofString) (d.ps.map Str.ofString) (defScope d.st)) {fd : FuncData} (F : FunP K d fd) : IxFn K (He.ga K (Str.ofString d.nm)) j := by
  unfold ixB at h
  split at h
  · rename_i p q p1 i jk p2 p3 p4 hps hbody
    simp only [Bool.and_eq_true, decide_eq_true_eq, List.all_eq_true] at h
    obtain ⟨⟨⟨⟨⟨⟨rfl, h2⟩, h3⟩, h4⟩, h5⟩, h6⟩, h7⟩ := h
    subst h2
    have F' := F
    unfold FunP at F'
    rw [(isG_own hg K).2, hbody] at F'
    rw [h3, hps] at S
    refine ⟨_, _, Str.ofString p, _, _, fd, p1, p2, p3, p4, jk, F', S, lclS_ok h6, fun x hx z => ?_, h5, h4, fun s u _ => ?_⟩
    · have := h7 x hx
      rw [z] at this
      cases this
    · have b := FunD.bindsA (ps := d.ps.map Str.ofString) F hb s [u] (by rw [hps]; rfl)
      rw [hps] at b
      exact b
  · cases h
section
variable {p : Pg} {P : Program} {wl : World} {K : PySem.W.Frag} {mg : Str → Option Value} {base : Heap}
/-- what the heap says of a program -/
structure Says (p : Pg) (K : PySem.W.Frag) (mg : Str → Option Value) : Prop where
  chk : p.fns.all (chkFn p) = true
  def_ : ∀ d ∈ p.fns, ∃ fd, FunP K d fd
  bind : ∀ d ∈ p.fns, BindP d
  glo : ∀ d ∈ p.fns, d.isG = true → mg (Str.ofString d.nm) = some (.ref (He.ga K (Str.ofString d.nm)))
  free : ∀ x, x ∈ p.free → mg (Str.ofString x) = none
  gi : ∀ x i, (x, i) ∈ p.gi → ∃ t, mg (Str.ofString x) = some (.int i t)
  gs : ∀ x s, (x, s) ∈ p.gs → ∃ t, mg (Str.ofString x) = some (.str s t)
  exc : ∀ x, x ∈ p.excs → mg (Str.ofString x) = some (.ref (He.ga K (Str.ofString x))) ∧ PySem.W.excIn K (He.ga K (Str.ofString x)) He.veBase "ValueError.__new__" = true ∧ PySem.W.keepIn K (.ref (He.ga K (Str.ofString x))) = true ∧
      PySem.W.subIn K (.ref (He.ga K (Str.ofString x))) (.type "BaseException") = some true ∧ PySem.W.typeIn K (.ref (He.ga K (Str.ofString x))) = some (.type "type")
  xp : ∀ d y, (d, y) ∈ p.xp → XpOk K mg d y
  cls : ∀ x, x ∈ p.cls → Cls K (He.ga K (Str.ofString x))
  nat : ∀ x f, (x, f) ∈ p.nat → NoAttr K (He.ga K (Str.ofString x)) (Str.ofString f)
  mth : ∀ x m, (x, m) ∈ p.mth → Meth K (He.ga K (Str.ofString x)) (Str.ofString m) (He.ma K (He.ga K (Str.ofString x)) (Str.ofString m))
  mks : ∀ x, x ∈ p.mks → Mk K (He.ga K (Str.ofString x)) (He.ma K (He.ga K (Str.ofString x)) "__init__") ∧ mg (Str.ofString x) = some (.ref (He.ga K (Str.ofString x))) ∧ ∃ d ∈ p.fns, d.nm = x ++ ".__init__" ∧ d.at_ = (x, some "__init__")
  ixf : p.ixf.all (ixOk p) = true
  uni : uniB p = true
theorem prog_ok (Y : Says p K mg) : ∀ (n : Nat) (f : String) (d : PFn), p.fns.find? (fun d => d.nm == f) = some d → ∀ fd, FunP K d fd → FnOk P wl K mg base (L2.CX P wl) (2 * n) (He.fAd K d.atS) fd (d.ps.map Str.ofString) (spR K (run p n f))
  | 0, f, d, hf, fd, F => ⟨fun vs H Q E ⟨_, _, _, _, _, _, _, h⟩ => h.elim, fun A outer s H args us vs Q E _ _ _ _ ⟨_, _, _, _, _, _, _, h⟩ => h.elim⟩
  | n + 1, f, d, hf, fd, F => by
    have hd : d ∈ p.fns := List.mem_of_find?_eq_some hf
    obtain ⟨S, hc⟩ := chkFn_scope (List.all_eq_true.mp Y.chk d hd)
    have e : run p (n + 1) f = evF (run p n) (d.ps.map Str.ofString).length (d.N.map Str.ofString).length d.body := by
      funext args
      show (match p.fns.find? (fun d => d.nm == f) with | some d => evF (run p n) d.ps.length d.N.length d.body args | none => .stuck) = _
      rw [hf, List.length_map, List.length_map]
    rw [e]
    -- a def by its name
    have get : ∀ d' ∈ p.fns, ∃ d2 fd2, d2 ∈ p.fns ∧ d2.nm = d'.nm ∧ d2.at_ = d'.at_ ∧ FunP K d2 fd2 ∧ FnOk P wl K mg base (L2.CX P wl) (2 * n) (He.fAd K d2.atS) fd2 (d2.ps.map Str.ofString) (spR K (run p n d'.nm)) := fun d' hd' => by
      have u := List.all_eq_true.mp Y.uni d' hd'
      cases hfd : p.fns.find? (fun d => d.nm == d'.nm) with
      | none => rw [hfd] at u; cases u
      | some d2 =>
        rw [hfd] at u
        have hd2 : d2 ∈ p.fns := List.mem_of_find?_eq_some hfd
        have nm2 : d2.nm = d'.nm := by
          have := List.find?_some hfd
          exact eq_of_beq this
        obtain ⟨fd2, F2⟩ := Y.def_ d2 hd2
        exact ⟨d2, fd2, hd2, nm2, of_decide_eq_true u, F2, prog_ok Y n _ d2 hfd fd2 F2⟩
    refine fn_ok (ck := p.ck d) F S rfl hc fun X eN eD eS eC eR eP ew eK em eb => ?_
    subst eP ew eK em eb
    exact {
      N := eN
      nd := eD
      sc := eS
      calm := eC
      room := eR
      fn := fun g hg => by
        obtain ⟨d', hd', hn⟩ := List.mem_map.mp hg
        obtain ⟨hd1, hd2⟩ := List.mem_filter.mp hd'
        obtain ⟨d2, fd2, m2, n2, a2, F2, G2⟩ := get d' hd1
        have hi : d2.isG = true := by
          unfold PFn.isG at hd2 ⊢
          rw [a2, n2]; exact hd2
        subst hn
        refine ⟨He.fAd X.K d2.atS, fd2, d2.ps.map Str.ofString, ?_, F2.kp, F2.bindsN (Y.bind d2 m2), G2⟩
        rw [(isG_own hi X.K).2, ← n2]
        exact Y.glo d2 m2 hi
      free := Y.free
      gi := Y.gi
      gs := Y.gs
      exc := Y.exc
      xp := Y.xp
      cls := Y.cls
      nat := Y.nat
      mth := fun x m hm => by
        have M := Y.mth x m hm
        obtain ⟨h1, _⟩ := List.mem_filter.mp hm
        obtain ⟨d', hd1, h2⟩ := List.mem_filterMap.mp h1
        obtain ⟨e1, e2⟩ := mth_eq h2
        obtain ⟨d2, fd2, m2, n2, a2, F2, G2⟩ := get d' hd1
        refine ⟨He.fAd X.K d2.atS, fd2, d2.ps.map Str.ofString, ?_, F2.bindsN (Y.bind d2 m2), by rw [← e2]; exact G2⟩
        unfold PFn.atS
        rw [a2, e1]
        exact M
      mks := fun x hx => by
        obtain ⟨M, hg, d', hd1, e1, e2⟩ := Y.mks x hx
        obtain ⟨d2, fd2, m2, n2, a2, F2, G2⟩ := get d' hd1
        refine ⟨He.fAd X.K d2.atS, fd2, d2.ps.map Str.ofString, ?_, hg, F2.bindsN (Y.bind d2 m2), by rw [← e1]; exact G2⟩
        unfold PFn.atS
        rw [a2, e2]
        exact M
      ixf := fun g j hg => by
        have := List.all_eq_true.mp Y.ixf _ hg
        unfold ixOk at this
        simp only [List.any_eq_true, Bool.and_eq_true, decide_eq_true_eq] at this
        obtain ⟨d2, m2, ⟨rfl, h2⟩, h3⟩ := this
        obtain ⟨fd2, F2⟩ := Y.def_ d2 m2
        exact ⟨He.ga X.K (Str.ofString d2.nm), Y.glo d2 m2 h2, ixB_ok h2 h3 (Y.bind d2 m2) (chkFn_scope (List.all_eq_true.mp Y.chk d2 m2)).1 F2⟩ }
end
/-! ### the head's facts -/
def PFn.def_ (d : PFn) : He.DefD := ⟨d.atS, Str.ofString d.own, Str.ofString d.nm, defArgs d.st, defBody d.st, defScope d.st, [], []⟩
def xpFa (q : String × String) : He.Fa := if q.2 = "ValueError" then .free (Str.ofString q.2) else .glo (Str.ofString q.2)
def Pg.fas (p : Pg) : List (List He.Fa) := [(p.fns.filter PFn.isG).map (fun d => .glo (Str.ofString d.nm)), p.free.map (fun x => .free (Str.ofString x)), p.gi.map (fun q => .int (Str.ofString q.1) q.2), p.gs.map (fun q => .str (Str.ofString q.1) q.2), p.excs.map (fun x => .glo (Str.ofString x)), p.excs.map (fun x => .exc (Str.ofString x)), p.xp.map xpFa,
  p.cls.map (fun x => .cls (Str.ofString x)), p.nat.map (fun q => .noat (Str.ofString q.1) (Str.ofString q.2)), p.mth.map (fun q => .meth (Str.ofString q.1) (Str.ofString q.2)), p.mks.map (fun x => .mkr (Str.ofString x)), p.mks.map (fun x => .glo (Str.ofString x))]
def Pg.fa (p : Pg) : List He.Fa := p.fas.flatten
def Pg.fn (p : Pg) : List He.DefD := p.fns.map PFn.def_
/-- what is checked of a program -/
def Pg.okB (p : Pg) : Bool := p.fns.all (chkFn p) && (p.ixf.all (ixOk p) && (uniB p && p.mks.all fun x => p.fns.any fun d => decide (d.nm = x ++ ".__init__") && decide (d.at_ = (x, some "__init__"))))
theorem says_mem {fa : List He.Fa} {fn : List He.DefD} {K : PySem.W.Frag} (c : He.SaysD fa fn K) {f : He.Fa} (h : f ∈ fa) : f.ok K = true := by
  obtain ⟨i, hi⟩ := List.getElem?_of_mem h
  exact c.fact i hi
theorem says_def {fa : List He.Fa} {fn : List He.DefD} {K : PySem.W.Frag} (c : He.SaysD fa fn K) {d : He.DefD} (h : d ∈ fn) : ∃ fd, FunD K d.name d.qual d.params d.body d.scope (d.dvs K) (d.kws K) (He.fAd K d.at_) fd := by
  obtain ⟨i, hi⟩ := List.getElem?_of_mem h
  exact c.def_ i hi
/-- what is asked of the error classes besides -/
def xpB (K : PySem.W.Frag) (q : String × String) : Bool :=
  let D := He.ga K (Str.ofString q.1)
  let cv : Value := if q.2 = "ValueError" then .type "ValueError" else .ref (He.ga K (Str.ofString q.2))
  He.eqO (PySem.W.findIn K (.ref D) "__getattribute__") (some (some (.builtin "BaseException.__getattribute__"))) && (He.eqO (PySem.W.findIn K (.ref D) "__getattr__") (some none) && (decide (PySem.W.subIn K (.ref D) (.type "BaseException") = some true) && (PySem.W.hasDictIn K D &&
  (He.eqO (PySem.W.findIn K (.ref D) "__class__") (some (some (.builtin "object.__class__"))) && (He.eqO (PySem.W.specialIn K (.builtin "object.__class__") "__get__") (some (some (.builtin "getset_descriptor.__get__"))) && (decide (PySem.W.takesIn K (.builtin "object.__class__") = some true) && (decide (PySem.W.mroIn K D (.type "object") = some true) &&
  (decide (PySem.W.kitOne K (.ref D) cv = some (exnIs q.1 q.2)) && decide (PySem.W.exmOne K (.ref D) cv = some (exnIs q.1 q.2))))))))))
def Pg.xb (p : Pg) (K : PySem.W.Frag) : Bool := p.xp.all (xpB K)
/-- the hook: the facts, and the error classes' -/
def hookX (n : Nat) (fa : List He.Fa) (fn : List He.DefD) (g : PySem.W.Frag → Bool) : PySem.W.Hook where
  α := Bool × He.AlD
  obs := fun s => (g (He.frG s.heap.get? (He.asD s.heap.get? n)), He.obsDG n fa fn s.heap.get?)
  val := fun _ => (true, He.valD fn)
  says := fun _ h => ∃ K : PySem.W.Frag, K.In h ∧ He.SaysD fa fn K ∧ g K = true
  of := fun _ _ e => ⟨_, He.frG_in, (Prod.mk.inj e).2, (Prod.mk.inj e).1⟩
  keeps := fun _ _ _ ⟨K, hK, c⟩ k => ⟨K, PySem.W.Frag.In.keeps hK k, c⟩
def obsX (n : Nat) (fa : List He.Fa) (fn : List He.DefD) (g : PySem.W.Frag → Bool) (get : Addr → Option Obj) : Bool × He.AlD := (g (He.frG get (He.asD get n)), He.obsDG n fa fn get)
theorem obsX_eq {n : Nat} {fa : List He.Fa} {fn : List He.DefD} {b : PySem.W.Frag → Bool} {g : Addr → Option Obj} {s : Shared} (h : ∀ a, g a = s.heap.get? a) : obsX n fa fn b g = (hookX n fa fn b).obs s := by
  have e : g = s.heap.get? := funext h
  subst e; rfl
/-- a def out of which nothing comes -/
theorem fn_nox {P : Program} {w : World} {K : PySem.W.Frag} {mg : Str → Option Value} {base : Heap} {k : Nat} {f : Addr} {fd : FuncData} {ps : List Str} {sp : Sp} (F : FnOk P w K mg base (L2.CX P w) k f fd ps sp) :
    FnOk P w K mg base CX0 k f fd ps (fun vs H Q _ => sp vs H Q E0) :=
  ⟨fun vs H Q E h => F.len vs H Q E0 h, fun A outer s H args us vs Q E hr e0 hb hv h => codeAny_mono (F.run A outer s H args us vs Q E0 hr e0 hb hv h) fun r s' q => by
    cases r with
    | ok fl => cases fl <;> exact q
    | error e =>
      obtain ⟨_, _, _, _, _, _, _, _, _, _, _, _, z⟩ := q
      exact z.elim⟩
theorem law_facts {p : Pg} {n : Nat} {x : String} {d : PFn} {P : Program} {w : World} {K : PySem.W.Frag} {h : Heap} {mg : Str → Option Value} {f : Addr} (hchk : p.okB = true) (hbind : ∀ d ∈ p.fns, BindP d)
    (hd : p.fns.find? (fun d => d.nm == "law") = some d) (hnm : d.nm = "law") (hat : d.isG = true) (hps : d.ps = [x]) (X : K.In h) (G : h.Ns mainGlobals mg) (hfa : mg ("law" : Str) = some (.ref f)) (c : He.SaysD p.fa p.fn K) (cx : p.xb K = true)
    (law : ∀ ns : List Int, ns.length ≤ 63 → run p n "law" [.cl (.lst (ns.map .int))] = .ok (.cl (.bl true))) :
    ∃ (fd : FuncData) (sp : Sp), (∀ (s : Shared) (v : Value), BindsTo s fd ⟨[v], []⟩ [(Str.ofString x, v)]) ∧ (∀ (H : Hp) (a : Addr) (ns : List Int), ns.length ≤ 63 → SqL K H a (ns.map V.int) → sp [.ref a] H (fun v _ => v = .bl true) fun _ _ _ => False) ∧
      ∀ base : Heap, K.In base → base.Ns mainGlobals mg → FnOk P w K mg base CX0 (2 * n) f fd [Str.ofString x] sp := by
  have hmem := List.mem_of_find?_eq_some hd
  have inp : ∀ {z : He.Fa} (i : Nat) {l : List He.Fa}, p.fas[i]? = some l → z ∈ l → He.Fa.ok K z = true := by
    intro z i l hi hz
    exact says_mem c (List.mem_flatten.mpr ⟨l, List.mem_of_getElem? hi, hz⟩)
  unfold Pg.okB at hchk
  simp only [Bool.and_eq_true] at hchk
  obtain ⟨hc1, hc2, hc3, hc4⟩ := hchk
  have hxp : ∀ d y, (d, y) ∈ p.xp → XpOk K mg d y := fun d y hq => by
    have q := List.all_eq_true.mp cx _ hq
    unfold xpB at q
    simp only [Bool.and_eq_true, decide_eq_true_eq] at q
    obtain ⟨q1, q2, q3, q4, q5, q6, q7, q8, q9, q10⟩ := q
    refine ⟨⟨He.eqO_ok q1, He.eqO_ok q2, q3, q4, He.eqO_ok q5, He.eqO_ok q6, q7, q8⟩, ?_, q9, q10⟩
    have w := inp 6 rfl (List.mem_map_of_mem (f := xpFa) hq)
    unfold xpFa at w
    by_cases hy : y = "ValueError"
    · simp only [hy, if_true] at w ⊢
      exact He.free_ok X G w
    · simp only [hy, if_false] at w ⊢
      exact He.glo_ok X G w
  have hdef : ∀ d ∈ p.fns, ∃ fd, FunP K d fd := fun d hd => by
    obtain ⟨fd, F⟩ := says_def c (List.mem_map_of_mem (f := PFn.def_) hd)
    exact ⟨fd, F⟩
  have hmg : ∀ d ∈ p.fns, d.isG = true → mg (Str.ofString d.nm) = some (.ref (He.ga K (Str.ofString d.nm))) := fun d hd hg => He.glo_ok X G (inp 0 rfl (List.mem_map_of_mem (f := fun d : PFn => He.Fa.glo (Str.ofString d.nm)) (List.mem_filter.mpr ⟨hd, hg⟩)))
  have Y : Says p K mg := {
    chk := hc1
    def_ := hdef
    bind := hbind
    glo := hmg
    free := fun x hx => He.free_ok X G (inp 1 rfl (List.mem_map_of_mem (f := fun x => He.Fa.free (Str.ofString x)) hx))
    gi := fun x i hx => He.int_ok X G (inp 2 rfl (List.mem_map_of_mem (f := fun q : String × Int => He.Fa.int (Str.ofString q.1) q.2) hx))
    gs := fun x i hx => He.str_ok X G (inp 3 rfl (List.mem_map_of_mem (f := fun q : String × Str => He.Fa.str (Str.ofString q.1) q.2) hx))
    exc := fun x hx => ⟨He.glo_ok X G (inp 4 rfl (List.mem_map_of_mem (f := fun x => He.Fa.glo (Str.ofString x)) hx)), He.exc_ok (inp 5 rfl (List.mem_map_of_mem (f := fun x => He.Fa.exc (Str.ofString x)) hx))⟩
    xp := hxp
    cls := fun x hx => He.cls_ok (inp 7 rfl (List.mem_map_of_mem (f := fun x => He.Fa.cls (Str.ofString x)) hx))
    nat := fun x f hx => He.noat_ok (inp 8 rfl (List.mem_map_of_mem (f := fun q : String × String => He.Fa.noat (Str.ofString q.1) (Str.ofString q.2)) hx))
    mth := fun x f hx => He.meth_ok (inp 9 rfl (List.mem_map_of_mem (f := fun q : String × String => He.Fa.meth (Str.ofString q.1) (Str.ofString q.2)) hx))
    mks := fun x hx => ⟨He.mkr_ok (inp 10 rfl (List.mem_map_of_mem (f := fun x => He.Fa.mkr (Str.ofString x)) hx)), He.glo_ok X G (inp 11 rfl (List.mem_map_of_mem (f := fun x => He.Fa.glo (Str.ofString x)) hx)), by
      have := List.all_eq_true.mp hc4 x hx
      simp only [List.any_eq_true, Bool.and_eq_true, decide_eq_true_eq] at this
      obtain ⟨d, h1, h2, h3⟩ := this
      exact ⟨d, h1, h2, h3⟩⟩
    ixf := hc2
    uni := hc3 }
  obtain ⟨fd, F⟩ := hdef d hmem
  have e : f = He.ga K (Str.ofString d.nm) := by
    have q := hmg d hmem hat
    rw [hnm] at q
    have q' := hfa.symm.trans q
    rw [hnm]
    cases q'; rfl
  refine ⟨fd, fun vs H Q _ => spR K (run p n "law") vs H Q E0, fun s v => ?_, fun H a ns hl hS => ?_, fun base hK hG => ?_⟩
  · have b := FunD.bindsA (ps := d.ps.map Str.ofString) F (hbind d hmem) s [v] (by rw [hps]; rfl)
    rw [hps] at b
    exact b
  · refine ⟨[.cl (.lst (ns.map .int))], H, [], by rw [minus_nil]; exact Ex.refl H, ⟨.ref a, [], [], [], rfl, ⟨⟨a, ns.map V.int, rfl, hS, ?_⟩, rfl⟩, ⟨rfl, rfl⟩, rfl⟩, List.nodup_nil, fun a h => absurd h (by simp), ?_⟩
    · have go : ∀ ns : List Int, RepL K H (ns.map D.int) (ns.map V.int) := fun ns => by
        induction ns with
        | nil => exact rfl
        | cons i r ih => exact ⟨.int i, r.map V.int, rfl, rfl, ih⟩
      exact go ns
    · rw [law ns hl]
      exact fun F' H' v _ _ _ _ ⟨_, _, r, _⟩ => r.1
  · have q := fn_nox (prog_ok (P := P) (wl := w) (base := base) Y n "law" d hd fd F)
    rw [hps] at q
    rw [e, ← (isG_own hat K).2]
    exact q
end Mo
namespace Mo
open PySem PySem.Spec PyProof.Rows L2
/-! ### evaluating terms -/
section
variable (c : Calls) (sl : Sl)
@[simp] theorem evE_var (i : Nat) : evE c (.var i) sl = match sl[i]? with | some s => R.of s.x | none => .stuck := rfl
@[simp] theorem evE_int (i : Int) : evE c (.int i) sl = .ok (.cl (.int i)) := rfl
@[simp] theorem evE_bl (b : Bool) : evE c (.bl b) sl = .ok (.cl (.bl b)) := rfl
@[simp] theorem evE_non : evE c .non sl = .ok (.cl .non) := rfl
@[simp] theorem evE_str (s : Str) : evE c (.str s) sl = .ok (.cl (.str s)) := rfl
@[simp] theorem evE_gi (x : String) (i : Int) : evE c (.gi x i) sl = .ok (.cl (.int i)) := rfl
@[simp] theorem evE_gs (x : String) (s : Str) : evE c (.gs x s) sl = .ok (.cl (.str s)) := rfl
@[simp] theorem evE_bin (o : BOp) (a b : E) : evE c (.bin o a b) sl = (evE c a sl).bind fun x => (evE c b sl).bind fun y => bopF o x y := rfl
@[simp] theorem evE_neg (a : E) : evE c (.neg a) sl = (evE c a sl).bind negF := rfl
@[simp] theorem evE_cmp (o : COp) (a b : E) : evE c (.cmp o a b) sl = (evE c a sl).bind fun x => (evE c b sl).bind fun y => cmpF o x y := rfl
@[simp] theorem evE_isN (a : E) : evE c (.isN a) sl = (evE c a sl).bind fun x => R.of ((isNF x).map fun q => .cl (.bl q)) := rfl
@[simp] theorem evE_notN (a : E) : evE c (.notN a) sl = (evE c a sl).bind fun x => R.of ((isNF x).map fun q => .cl (.bl (!q))) := rfl
@[simp] theorem evE_chn (o o' : COp) (a b e : E) : evE c (.chn o o' a b e) sl = (evE c a sl).bind fun x => (evE c b sl).bind fun y => (cmpF o x y).bind fun z => chnF o' y z (evE c e sl) := rfl
@[simp] theorem evE_and (a b : E) : evE c (.and a b) sl = (evE c a sl).bind fun x => andF x (evE c b sl) := rfl
@[simp] theorem evE_or (a b : E) : evE c (.or a b) sl = (evE c a sl).bind fun x => orF x (evE c b sl) := rfl
@[simp] theorem evE_not (a : E) : evE c (.not a) sl = (evE c a sl).bind notF := rfl
@[simp] theorem evE_ife (t a b : E) : evE c (.ife t a b) sl = (evE c t sl).bind fun x => match x.b with | some true => evE c a sl | some false => evE c b sl | none => .stuck := rfl
@[simp] theorem evE_tup (es : Es) : evE c (.tup es) sl = (evEs c es sl).bind tupF := rfl
@[simp] theorem evE_lst (es : Es) : evE c (.lst es) sl = (evEs c es sl).bind lstF := rfl
@[simp] theorem evE_sub (a i : E) : evE c (.sub a i) sl = (evE c a sl).bind fun x => (evE c i sl).bind fun y => R.of (idx x y) := rfl
@[simp] theorem evE_call (f : String) (es : Es) : evE c (.call f es) sl = (evEs c es sl).bind fun xs => match argsOf xs with | some ss => noMu (c f ss) | none => .stuck := rfl
@[simp] theorem evE_blt (b : Blt) (es : Es) : evE c (.blt b es) sl = (evEs c es sl).bind fun xs => R.of (blt b xs) := rfl
@[simp] theorem evE_fz (a : E) : evE c (.fz a) sl = (evE c a sl).bind fzF := rfl
@[simp] theorem evE_isi (t : Ty) (a : E) : evE c (.isi t a) sl = (evE c a sl).bind (isiF t) := rfl
@[simp] theorem evE_comp (elt : E) (t : Tg) (it : It) (cs : Es) : evE c (.comp elt t it cs) sl = (evIt c it sl).bind (compI t (evCnd c cs) (evE c elt) (wipeS sl t.slots)) := rfl
@[simp] theorem evEs_nil : evEs c .nil sl = .ok [] := rfl
@[simp] theorem evEs_cons (e : E) (es : Es) : evEs c (.cons e es) sl = (evE c e sl).bind fun x => (evEs c es sl).bind fun xs => .ok (x :: xs) := rfl
@[simp] theorem evIt_exp (e : E) : evIt c (.exp e) sl = (evE c e sl).bind itF := rfl
@[simp] theorem evIt_rng1 (a : E) : evIt c (.rng1 a) sl = (evE c a sl).bind rng1F := rfl
@[simp] theorem evIt_rng2 (a b : E) : evIt c (.rng2 a b) sl = (evE c a sl).bind fun x => (evE c b sl).bind fun y => rng2F x y := rfl
@[simp] theorem evIt_rng3 (a b d : E) : evIt c (.rng3 a b d) sl = (evE c a sl).bind fun x => (evE c b sl).bind fun y => (evE c d sl).bind fun z => rng3F x y z := rfl
@[simp] theorem evSs_nil : evSs c .nil sl = some (.nx sl) := rfl
@[simp] theorem evSs_cons (s : S) (ss : Ss) : evSs c (.cons s ss) sl = seqO (evS c s sl) (evSs c ss) := rfl
@[simp] theorem evS_asg (i : Nat) (e : E) : evS c (.asg i e) sl = (evE c e sl).out sl fun x => match x.keep with | some s => some (.nx (sl.set i s)) | none => none := rfl
@[simp] theorem evS_unp (t : Tg) (e : E) : evS c (.unp t e) sl = (evE c e sl).out sl (unpF t sl) := rfl
@[simp] theorem evS_par (i j : Nat) (a b : E) : evS c (.par i j a b) sl = (evE c a sl).out sl fun x => (evE c b sl).out sl fun y => match x, y with | .cl d, .cl e => some (.nx ((sl.set i (.cl d)).set j (.cl e))) | _, _ => none := rfl
@[simp] theorem evS_papp (p : Pl) (e : E) : evS c (.papp p e) sl = (plF c p sl).out sl fun p => if p.m.isL then (evE c e sl).out sl (pappF sl p) else none := rfl
@[simp] theorem evS_pins (p : Pl) (a e : E) : evS c (.pins p a e) sl = (plF c p sl).out sl fun p => if p.m.isL then (evE c a sl).out sl fun y => (evE c e sl).out sl fun x => pinsF sl p y x else none := rfl
@[simp] theorem evS_pst (p : Pl) (k e : E) : evS c (.pst p k e) sl = (evE c e sl).out sl fun x => (plF c p sl).out sl fun p => (evE c k sl).out sl fun y => pstF sl p y x := rfl
@[simp] theorem evS_pfs (p : Pl) (cl f : String) (e : E) : evS c (.pfs p cl f e) sl = (evE c e sl).out sl fun x => (plF c p sl).out sl fun p => pfsF sl p cl (Str.ofString f) x := rfl
@[simp] theorem evS_prev (p : Pl) : evS c (.prev p) sl = (plF c p sl).out sl (prevF sl) := rfl
@[simp] theorem evS_ex (e : E) : evS c (.ex e) sl = (evE c e sl).out sl fun _ => some (.nx sl) := rfl
@[simp] theorem plF_v (i : Nat) : plF c (.v i) sl = ptV sl i := rfl
@[simp] theorem plF_f (p : Pl) (cl f : String) : plF c (.f p cl f) sl = (plF c p sl).bind fun q => q.fld cl (Str.ofString f) := rfl
@[simp] theorem plF_x (p : Pl) (e : E) : plF c (.x p e) sl = (plF c p sl).bind fun q => (evE c e sl).bind fun y => q.ix y := rfl
@[simp] theorem evE_fld (cl : String) (a : E) (f : String) : evE c (.fld cl a f) sl = (evE c a sl).bind fun y => R.of (fldF cl (Str.ofString f) y) := rfl
@[simp] theorem evE_mth (cl m : String) (o : E) (es : Es) : evE c (.mth cl m o es) sl = (evE c o sl).bind fun x => if isIns cl (Str.ofString m) x then (evEs c es sl).bind fun xs => (match argsOf (x :: xs) with | some ss => noMu (c (cl ++ "." ++ m) ss) | none => .stuck) else .stuck := rfl
@[simp] theorem evE_sli (a : E) (lo hi : Eo) : evE c (.sli a lo hi) sl = (evE c a sl).bind fun x => (evO c lo sl).bind fun y => (evO c hi sl).bind fun z => R.of (sliF x y z) := rfl
@[simp] theorem evE_mk (cl : String) (es : Es) : evE c (.mk cl es) sl = (evEs c es sl).bind fun xs => match argsOf xs with | some ss => mkF (c (cl ++ ".__init__") (.bo 0 (.ins (Str.ofString cl) [] []) :: ss)) | none => .stuck := rfl
@[simp] theorem evE_dnew : evE c .dnew sl = .ok (.nw (.dct [] [])) := rfl
@[simp] theorem evE_disp (ps : Eps) : evE c (.disp ps) sl = (evPs c ps sl).bind fun p => dispF p.1 p.2 := rfl
@[simp] theorem evE_dgt (a k y : E) : evE c (.dgt a k y) sl = (evE c a sl).bind fun x => if x.isD then (evE c k sl).bind fun k => (evE c y sl).bind fun y => R.of (dgtF x k y) else .stuck := rfl
@[simp] theorem evE_dg1 (a k : E) : evE c (.dg1 a k) sl = (evE c a sl).bind fun x => if x.isD then (evE c k sl).bind fun k => R.of (dgtF x k (.cl .non)) else .stuck := rfl
@[simp] theorem evE_srt (f : String) (j : Nat) (a : E) : evE c (.srt f j a) sl = (evE c a sl).bind (srtF j) := rfl
@[simp] theorem evE_lrng (a b : E) : evE c (.lrng a b) sl = (evE c a sl).bind fun x => (evE c b sl).bind fun y => lrngF x y := rfl
@[simp] theorem evE_sm0 (m : SM) (o : E) : evE c (.sm0 m o) sl = (evE c o sl).bind (sm0F m) := rfl
@[simp] theorem evE_sm1 (m : SM) (o e : E) : evE c (.sm1 m o e) sl = (evE c o sl).bind fun x => if x.isS then (evE c e sl).bind fun y => sm1F m x y else .stuck := rfl
@[simp] theorem evPs_nil : evPs c .nil sl = .ok ([], []) := rfl
@[simp] theorem evPs_cons (k v : E) (r : Eps) : evPs c (.cons k v r) sl = (evE c k sl).bind fun x => (evE c v sl).bind fun y => (evPs c r sl).bind fun p => .ok (x :: p.1, y :: p.2) := rfl
@[simp] theorem evO_no : evO c .no sl = .ok none := rfl
@[simp] theorem evO_so (e : E) : evO c (.so e) sl = (evE c e sl).bind fun x => R.of (bnd x) := rfl
@[simp] theorem evIt_enum (e : E) : evIt c (.enum e) sl = (evE c e sl).bind enumF := rfl
@[simp] theorem evIt_zip (a b : E) : evIt c (.zip a b) sl = (evE c a sl).bind fun x => (evE c b sl).bind fun y => zipF x y := rfl
@[simp] theorem evS_ifs (t : E) (a b : Ss) : evS c (.ifs t a b) sl = (tst (evE c t sl)).out sl fun q => if q then evSs c a sl else evSs c b sl := rfl
@[simp] theorem evS_whl (t : E) (b : Ss) : evS c (.whl t b) sl = whl (evE c t) (evSs c b) sl := rfl
@[simp] theorem evS_for (t : Tg) (it : It) (b : Ss) : evS c (.for_ t it b) sl = (evIt c it sl).out sl (forI t (evSs c b) sl) := rfl
@[simp] theorem evS_ret (e : E) : evS c (.ret e) sl = (evE c e sl).out sl (retF sl) := rfl
@[simp] theorem evS_retn : evS c .retn sl = some (.rt (.cl .non) sl) := rfl
@[simp] theorem evS_mv (i : Nat) : evS c (.mv i) sl = match sl[i]? with | some (.ow m) => some (.rt (.nw m) (sl.set i .no)) | some (.bo _ m) => if m.ms.isSome then some (.rt .al sl) else none | _ => none := rfl
@[simp] theorem evS_brk : evS c .brk sl = some (.bk sl) := rfl
@[simp] theorem evS_cnt : evS c .cnt sl = some (.ct sl) := rfl
@[simp] theorem evS_mx (d : Ds) (m : Mx) : evS c (.mx d m) sl = dstF d (evM c m sl) := rfl
theorem evS_apop (i j : Nat) (e : E) : evS c (.apop i j e) sl = (ptV sl i).out sl fun p => if p.m.isL then (ptV sl j).out sl fun q => if q.m.isL then (evE c e sl).out sl fun y => apopF sl i q y else none else none := rfl
theorem evS_fork (t : Tg) (e : E) (b : Ss) : evS c (.fork t e b) sl = (evE c e sl).out sl fun x => (keysI x).out sl fun ds => noxO (forL (tgo t) (evSs c b) ds sl) := rfl
@[simp] theorem evS_tryx (ds : List String) (cl : String) (i : Nat) (b h : Ss) : evS c (.tryx ds cl i b h) sl = catchH ds cl i (evSs c b sl) (evSs c h) := rfl
@[simp] theorem evS_pas : evS c .pas sl = some (.nx sl) := rfl
@[simp] theorem evS_rse (x : String) : evS c (.rse x) sl = some (.ex ⟨x, [], []⟩ sl) := rfl
@[simp] theorem evS_frz (i : Nat) : evS c (.frz i) sl = frzF sl i := rfl
end
@[simp] theorem out_ok {α : Type} (sl : Sl) (a : α) (f : α → RO) : (R.ok a).out sl f = f a := rfl
@[simp] theorem out_stuck {α : Type} (sl : Sl) (f : α → RO) : (R.stuck : R α).out sl f = none := rfl
@[simp] theorem out_exc {α : Type} (sl : Sl) (e : Exn) (f : α → RO) : (R.exc e : R α).out sl f = some (.ex e sl) := rfl
@[simp] theorem seqO_nx (sl : Sl) (f : Sl → RO) : seqO (some (.nx sl)) f = f sl := rfl
@[simp] theorem seqO_rt (x : XV) (sl : Sl) (f : Sl → RO) : seqO (some (.rt x sl)) f = some (.rt x sl) := rfl
@[simp] theorem seqO_bk (sl : Sl) (f : Sl → RO) : seqO (some (.bk sl)) f = some (.bk sl) := rfl
@[simp] theorem seqO_ct (sl : Sl) (f : Sl → RO) : seqO (some (.ct sl)) f = some (.ct sl) := rfl
@[simp] theorem seqO_ex (e : Exn) (sl : Sl) (f : Sl → RO) : seqO (some (.ex e sl)) f = some (.ex e sl) := rfl
@[simp] theorem sv_no : SV.x .no = none := rfl
@[simp] theorem sv_cl (d : D) : SV.x (.cl d) = some (.cl d) := rfl
@[simp] theorem sv_lk (m : MO) : SV.x (.lk m) = some (.lk m) := rfl
@[simp] theorem sv_ow (m : MO) : SV.x (.ow m) = some (.tm m) := rfl
@[simp] theorem xd_cl (d : D) : XV.d (.cl d) = some d := rfl
@[simp] theorem xd_lk (m : MO) : XV.d (.lk m) = some m.toD := rfl
@[simp] theorem xd_tm (m : MO) : XV.d (.tm m) = some m.toD := rfl
@[simp] theorem xb_bl (b : Bool) : XV.b (.cl (.bl b)) = some b := rfl
@[simp] theorem keep_cl (d : D) : XV.keep (.cl d) = some (.cl d) := rfl
@[simp] theorem keep_lk (m : MO) : XV.keep (.lk m) = some (.lk m) := rfl
@[simp] theorem keep_nw (m : MO) : XV.keep (.nw m) = some (.ow m) := rfl
@[simp] theorem args_nil : argsOf [] = some [] := rfl
@[simp] theorem args_cl (d : D) (xs : List XV) : argsOf (.cl d :: xs) = (argsOf xs).map (SV.cl d :: ·) := by
  cases h : argsOf xs <;> simp only [argsOf, XV.arg, h] <;> rfl
@[simp] theorem args_tm (m : MO) (xs : List XV) : argsOf (.tm m :: xs) = (argsOf xs).map (SV.lk m :: ·) := by
  cases h : argsOf xs <;> simp only [argsOf, XV.arg, h] <;> rfl
@[simp] theorem args_lk (m : MO) (xs : List XV) : argsOf (.lk m :: xs) = (argsOf xs).map (SV.lk m :: ·) := by
  cases h : argsOf xs <;> simp only [argsOf, XV.arg, h] <;> rfl
@[simp] theorem tst_ok (b : Bool) : tst (.ok (.cl (.bl b))) = .ok b := rfl
@[simp] theorem tst_stuck : tst .stuck = .stuck := rfl
@[simp] theorem notF_b (b : Bool) : notF (.cl (.bl b)) = .ok (.cl (.bl (!b))) := rfl
@[simp] theorem andF_t (r : R XV) : andF (.cl (.bl true)) r = r.bind boolF := rfl
@[simp] theorem andF_f (r : R XV) : andF (.cl (.bl false)) r = .ok (.cl (.bl false)) := rfl
@[simp] theorem orF_t (r : R XV) : orF (.cl (.bl true)) r = .ok (.cl (.bl true)) := rfl
@[simp] theorem orF_f (r : R XV) : orF (.cl (.bl false)) r = r.bind boolF := rfl
@[simp] theorem boolF_b (b : Bool) : boolF (.cl (.bl b)) = .ok (.cl (.bl b)) := rfl
theorem andF_ok (a b : Bool) : andF (.cl (.bl a)) (.ok (.cl (.bl b))) = .ok (.cl (.bl (a && b))) := by cases a <;> rfl
theorem orF_ok (a b : Bool) : orF (.cl (.bl a)) (.ok (.cl (.bl b))) = .ok (.cl (.bl (a || b))) := by cases a <;> rfl
@[simp] theorem bopF_cl (o : BOp) (i j : Int) : bopF o (.cl (.int i)) (.cl (.int j)) = R.of (bop o (.int i) (.int j)) := rfl
@[simp] theorem bopF_str (o : BOp) (i j : Str) : bopF o (.cl (.str i)) (.cl (.str j)) = R.of (bop o (.str i) (.str j)) := rfl
theorem bopF_repL {ds : List D} {n : Int} (h : 0 ≤ n ∧ n ≤ 1000 ∧ ds.length ≤ 1000) : bopF .mul (.nw (.lst (ds.map .cl))) (.cl (.int n)) = .ok (.nw (.lst ((List.replicate n.toNat ds).flatten.map .cl))) := by
  show repL .mul (ds.map .cl) n = _
  unfold repL
  rw [clM_cl]
  simp only
  rw [if_pos ⟨by trivial, h⟩]
theorem bopF_rep {s : Str} {n : Int} (h : 2 ≤ n ∧ n ≤ 1000 ∧ s.length ≠ 0 ∧ s.length ≤ 1000) : bopF .mul (.cl (.str s)) (.cl (.int n)) = .ok (.cl (.str (repS s n.toNat))) := by
  show R.of (bop .mul (.str s) (.int n)) = _
  simp only [bop]
  rw [if_pos ⟨by trivial, h⟩]; rfl
@[simp] theorem bop_int (o : BOp) (i j : Int) : bop o (.int i) (.int j) = (bopI o i j).map .cl := rfl
@[simp] theorem bopI_add (i j : Int) : bopI .add i j = some (.int (i + j)) := rfl
@[simp] theorem bopI_sub (i j : Int) : bopI .sub i j = some (.int (i - j)) := rfl
theorem bopI_mul {i j : Int} (h : i.natAbs.log2 + j.natAbs.log2 < 1000000) : bopI .mul i j = some (.int (i * j)) := by simp [bopI, h]
theorem bopI_fdiv {i j : Int} (h : 0 < j) (h2 : j.natAbs.log2 < 9000) : bopI .fdiv i j = some (.int (i / j)) := by simp [bopI, h, h2]
theorem bopI_mod {i j : Int} (h : 0 < j) : bopI .mod i j = some (.int (i % j)) := by simp [bopI, h]
theorem bopI_shr {i j : Int} (h : 0 ≤ j) : bopI .shr i j = some (.int (i / 2 ^ j.toNat)) := by simp [bopI, h]
theorem bopI_pow {i j : Int} (h : 0 ≤ j) (h1 : j ≤ 1000000) (h2 : i.natAbs < 2 ^ 64) : bopI .pow i j = some (.int (i ^ j.toNat)) := by simp [bopI, h, h1, h2]
@[simp] theorem negF_int (i : Int) : negF (.cl (.int i)) = .ok (.cl (.int (-i))) := rfl
@[simp] theorem cmpF_lt (i j : Int) : cmpF .lt (.cl (.int i)) (.cl (.int j)) = .ok (.cl (.bl (decide (i < j)))) := rfl
@[simp] theorem cmpF_le (i j : Int) : cmpF .le (.cl (.int i)) (.cl (.int j)) = .ok (.cl (.bl (decide (i ≤ j)))) := rfl
@[simp] theorem cmpF_gt (i j : Int) : cmpF .gt (.cl (.int i)) (.cl (.int j)) = .ok (.cl (.bl (decide (j < i)))) := rfl
@[simp] theorem cmpF_ge (i j : Int) : cmpF .ge (.cl (.int i)) (.cl (.int j)) = .ok (.cl (.bl (decide (j ≤ i)))) := rfl
theorem shaped_int (i : Int) : PySem.SeqAt.shaped (.int i) = true := by
  unfold PySem.SeqAt.shaped
  rfl
theorem eqD_int (i j : Int) : eqD (.int i) (.int j) = some (decide (i = j)) := by
  unfold eqD
  simp only [D.py]
  rw [if_pos ⟨shaped_int i, shaped_int j⟩]
  show some (i == j) = _
  rw [Bool.beq_eq_decide_eq]
@[simp] theorem cmpF_eq (i j : Int) : cmpF .eq (.cl (.int i)) (.cl (.int j)) = .ok (.cl (.bl (decide (i = j)))) := by
  unfold cmpF cop; simp [eqD_int]
@[simp] theorem cmpF_ne (i j : Int) : cmpF .ne (.cl (.int i)) (.cl (.int j)) = .ok (.cl (.bl (!decide (i = j)))) := by
  unfold cmpF cop; simp [eqD_int]
@[simp] theorem isNF_cl_int (i : Int) : isNF (.cl (.int i)) = some false := rfl
@[simp] theorem isNF_cl_non : isNF (.cl .non) = some true := rfl
@[simp] theorem isNF_cl_tup (ds : List D) : isNF (.cl (.tup ds)) = some false := rfl
@[simp] theorem isNF_cl_lst (ds : List D) : isNF (.cl (.lst ds)) = some false := rfl
@[simp] theorem isNF_cl_bl (b : Bool) : isNF (.cl (.bl b)) = some false := rfl
@[simp] theorem retF_cl (sl : Sl) (d : D) : retF sl (.cl d) = some (.rt (.cl d) sl) := rfl
@[simp] theorem retF_nw (sl : Sl) (m : MO) : retF sl (.nw m) = some (.rt (.nw m) sl) := rfl
@[simp] theorem retR_cl (d : D) (sl : Sl) : retR [] (some (.rt (.cl d) sl)) = .ok (.cl d) := rfl
@[simp] theorem retR_nw (m : MO) (sl : Sl) : retR [] (some (.rt (.nw m) sl)) = .ok (.nw m) := rfl
@[simp] theorem retR_nx (sl : Sl) : retR [] (some (.nx sl)) = .ok (.cl .non) := rfl
@[simp] theorem retR_ex (x : String) (sl : Sl) : retR [] (some (.ex ⟨x, [], []⟩ sl)) = .exc ⟨x, [], []⟩ := rfl
@[simp] theorem noBo_nil : noBo [] = true := by unfold noBo; exact Eq.trans rfl rfl
@[simp] theorem noBo_cl (d : D) (r : List SV) : noBo (.cl d :: r) = noBo r := (Eq.trans rfl rfl)
@[simp] theorem noBo_lk (m : MO) (r : List SV) : noBo (.lk m :: r) = noBo r := (Eq.trans rfl rfl)
@[simp] theorem boOk_nil (k : Nat) : boOk k [] = true := rfl
@[simp] theorem boOk_cl (k : Nat) (d : D) (r : List SV) : boOk k (.cl d :: r) = boOk k r := rfl
@[simp] theorem boOk_lk (k : Nat) (m : MO) (r : List SV) : boOk k (.lk m :: r) = boOk k r := rfl
@[simp] theorem retR_pure {a : SV} {r : List SV} {o : RO} (h : noBo (a :: r) = true) : retR (a :: r) o = retR [] o := by
  have e : ∀ sl, bosG (a :: r) sl = some [] := fun sl => by unfold bosG; rw [if_pos h]
  have e0 : ∀ sl, bosG [] sl = some [] := fun sl => rfl
  unfold retR
  split <;> simp only [e, e0]
@[simp] theorem dic_lst (ds : List D) : MO.dic (.cl (.lst ds)) = none := rfl
@[simp] theorem dic_tup (ds : List D) : MO.dic (.cl (.tup ds)) = none := rfl
@[simp] theorem dic_int (i : Int) : MO.dic (.cl (.int i)) = none := rfl
@[simp] theorem dic_str (s : Str) : MO.dic (.cl (.str s)) = none := rfl
@[simp] theorem dic_lst' (ms : List MO) : MO.dic (.lst ms) = none := rfl
@[simp] theorem dic_tup' (ms : List MO) : MO.dic (.tup ms) = none := rfl
@[simp] theorem dic_dct (ks : List D) (ms : List MO) : MO.dic (.dct ks ms) = some (ks, ms) := rfl
@[simp] theorem dic_cdct (ks ds : List D) : MO.dic (.cl (.dct ks ds)) = some (ks, ds.map .cl) := rfl
@[simp] theorem noMu_stuck : noMu .stuck = .stuck := rfl
@[simp] theorem fzF_nw (m : MO) : fzF (.nw m) = .ok (.cl m.toD) := rfl
@[simp] theorem fzF_cl (d : D) : fzF (.cl d) = .ok (.cl d) := rfl
@[simp] theorem clL_nil : clL [] = some [] := rfl
@[simp] theorem clL_cl (d : D) (xs : List XV) : clL (.cl d :: xs) = (clL xs).map (d :: ·) := rfl
@[simp] theorem moL_nil : moL [] = some [] := rfl
@[simp] theorem moL_cl (d : D) (xs : List XV) : moL (.cl d :: xs) = (moL xs).map (MO.cl d :: ·) := rfl
@[simp] theorem moL_nw (m : MO) (xs : List XV) : moL (.nw m :: xs) = (moL xs).map (m :: ·) := rfl
@[simp] theorem toD_cl (d : D) : (MO.cl d).toD = d := rfl
@[simp] theorem toD_lst (ms : List MO) : (MO.lst ms).toD = .lst (MO.toDL ms) := rfl
@[simp] theorem toD_tup (ms : List MO) : (MO.tup ms).toD = .tup (MO.toDL ms) := rfl
@[simp] theorem toDL_nil : MO.toDL [] = [] := rfl
@[simp] theorem toDL_cons (m : MO) (ms : List MO) : MO.toDL (m :: ms) = m.toD :: MO.toDL ms := rfl
theorem tupF_small {xs : List XV} {ds : List D} (h : xs.length ≤ 1000) (e : clL xs = some ds) : tupF xs = .ok (.cl (.tup ds)) := by
  unfold tupF; rw [if_pos h, e]
theorem lstF_small {xs : List XV} {ms : List MO} (h : xs.length ≤ 1000) (e : moL xs = some ms) : lstF xs = .ok (.nw (.lst ms)) := by
  unfold lstF; rw [if_pos h, e]
@[simp] theorem rng1F_int (j : Int) : rng1F (.cl (.int j)) = .ok (.ds (rangeD 0 j.toNat)) := rfl
@[simp] theorem rng2F_int (i j : Int) : rng2F (.cl (.int i)) (.cl (.int j)) = .ok (.ds (rangeD i (j - i).toNat)) := rfl
theorem rng3F_int {i j d : Int} (h : 0 < d) (h2 : d.natAbs.log2 < 9000) : rng3F (.cl (.int i)) (.cl (.int j)) (.cl (.int d)) = .ok (.ds (rangeC i d (cntR i j d))) := by
  unfold rng3F
  simp only
  rw [if_pos ⟨h, h2⟩]
theorem blt_divmod {i j : Int} (h : 0 < j) (h2 : j.natAbs.log2 < 9000) : blt .divmod [.cl (.int i), .cl (.int j)] = some (.cl (.tup [.int (i / j), .int (i % j)])) := by
  unfold blt divmodB
  simp only
  rw [if_pos ⟨h, h2⟩]
@[simp] theorem blt_list (ds : List D) : blt .list1 [.cl (.lst ds)] = some (.nw (.lst (ds.map .cl))) := by
  show (clM (ds.map MO.cl)).map _ = _
  rw [clM_cl]; rfl
@[simp] theorem blt_int (i : Int) : blt .int1 [.cl (.int i)] = some (.cl (.int i)) := rfl
@[simp] theorem blt_intb (k : Bool) : blt .int1 [.cl (.bl k)] = some (.cl (.int (if k then 1 else 0))) := rfl
@[simp] theorem blt_max3 (i j k : Int) : blt .max3 [.cl (.int i), .cl (.int j), .cl (.int k)] = some (.cl (.int (maxI (maxI i j) k))) := rfl
@[simp] theorem cmpF_is (a b : Bool) : cmpF .is_ (.cl (.bl a)) (.cl (.bl b)) = .ok (.cl (.bl (decide (a = b)))) := rfl
@[simp] theorem cmpF_isnt (a b : Bool) : cmpF .isnt (.cl (.bl a)) (.cl (.bl b)) = .ok (.cl (.bl (!decide (a = b)))) := rfl
@[simp] theorem itF_lst (ds : List D) : itF (.cl (.lst ds)) = .ok (.ds ds) := rfl
@[simp] theorem itF_tup (ds : List D) : itF (.cl (.tup ds)) = .ok (.ds ds) := rfl
@[simp] theorem mo_cl (d : D) : XV.mo (.cl d) = some (.cl d) := rfl
@[simp] theorem mo_lk (m : MO) : XV.mo (.lk m) = some m := rfl
@[simp] theorem mo_tm (m : MO) : XV.mo (.tm m) = some m := rfl
@[simp] theorem kids_tup (ds : List D) : MO.kids (.cl (.tup ds)) = some (ds.map .cl) := rfl
@[simp] theorem kids_lst (ds : List D) : MO.kids (.cl (.lst ds)) = some (ds.map .cl) := rfl
@[simp] theorem kids_lst' (ms : List MO) : MO.kids (.lst ms) = some ms := rfl
@[simp] theorem kids_tup' (ms : List MO) : MO.kids (.tup ms) = some ms := rfl
@[simp] theorem sub_clS (x : XV) (d : D) : XV.sub x (.cl d) = .cl d := sub_cl x d
/-- a row's i-th -/
theorem idx_lst {ds : List D} {n : Int} {d : D} (h : atI ds n = some d) : idx (.cl (.lst ds)) (.cl (.int n)) = some (.cl d) := by
  obtain ⟨j, h1, h2⟩ := atI_some h
  have : atI (ds.map MO.cl) n = some (.cl d) := atI_of (by rw [List.length_map]; exact h1) (by rw [List.getElem?_map, h2]; rfl)
  simp [idx, this]
theorem idx_tup {ds : List D} {n : Int} {d : D} (h : atI ds n = some d) : idx (.cl (.tup ds)) (.cl (.int n)) = some (.cl d) := by
  obtain ⟨j, h1, h2⟩ := atI_some h
  have : atI (ds.map MO.cl) n = some (.cl d) := atI_of (by rw [List.length_map]; exact h1) (by rw [List.getElem?_map, h2]; rfl)
  simp [idx, this]
theorem atI_nn {α : Type} {xs : List α} {n : Int} {x : α} (h0 : 0 ≤ n) (h : xs[n.toNat]? = some x) : atI xs n = some x := by
  have hl : n.toNat < xs.length := by
    rcases Nat.lt_or_ge n.toNat xs.length with q | q
    · exact q
    · rw [List.getElem?_eq_none q] at h; cases h
  refine atI_of (j := n.toNat) ?_ h
  unfold ixN
  rw [if_pos h0, if_pos (by omega)]
@[simp] theorem blt_len (xs : List XV) : blt .len xs = lenB xs := rfl
@[simp] theorem lenB_lst (ds : List D) : lenB [.cl (.lst ds)] = some (.cl (.int ds.length)) := by simp [lenB, lenX]
@[simp] theorem lenB_tup (ds : List D) : lenB [.cl (.tup ds)] = some (.cl (.int ds.length)) := by simp [lenB, lenX]
@[simp] theorem lenB_tm (ms : List MO) : lenB [.tm (.lst ms)] = some (.cl (.int ms.length)) := by simp [lenB, lenX]
@[simp] theorem lenB_lk (ms : List MO) : lenB [.lk (.lst ms)] = some (.cl (.int ms.length)) := by simp [lenB, lenX]
@[simp] theorem isiF_cl (t : Ty) (d : D) : isiF t (.cl d) = match d.ty with | some a => .ok (.cl (.bl (isTy a t))) | none => .stuck := rfl
@[simp] theorem tgo_n (i : Nat) (d : D) (sl : Sl) : tgo (.n i) d sl = some (sl.set i (.cl d)) := by unfold tgo; rfl
@[simp] theorem tgo_t (ts : List Tg) (ds : List D) (sl : Sl) : tgo (.t ts) (.tup ds) sl = tgoL ts ds sl := by unfold tgo; rfl
@[simp] theorem tgoL_nil (sl : Sl) : tgoL [] [] sl = some sl := by unfold tgoL; rfl
@[simp] theorem tgoL_cons (t : Tg) (ts : List Tg) (d : D) (ds : List D) (sl : Sl) : tgoL (t :: ts) (d :: ds) sl = match tgo t d sl with | some s => tgoL ts ds s | none => none := by
  conv => lhs; unfold tgoL
  all_goals (cases tgo t d sl <;> rfl)
@[simp] theorem unpF_cl (t : Tg) (sl : Sl) (d : D) : unpF t sl (.cl d) = (tgo t d sl).map .nx := rfl
@[simp] theorem forI_ds (t : Tg) (b : Sl → RO) (sl : Sl) (ds : List D) : forI t b sl (.ds ds) = forL (tgo t) b ds sl := rfl
@[simp] theorem compI_ds (t : Tg) (cnd : Sl → R Bool) (elt : Sl → R XV) (sl : Sl) (ds : List D) : compI t cnd elt sl (.ds ds) = compF (tgo t) cnd elt sl ds := rfl
@[simp] theorem isL_lst (ms : List MO) : MO.isL (.lst ms) = true := rfl
@[simp] theorem isL_cl (d : D) : MO.isL (.cl d) = false := rfl
@[simp] theorem item_cl (d : D) : XV.item (.cl d) = some (.cl d) := rfl
@[simp] theorem item_nw (m : MO) : XV.item (.nw m) = some m := rfl
@[simp] theorem put_nil (m m' : MO) : MO.put m [] m' = m' := by unfold MO.put; rfl
/-- a slot's own list -/
theorem ptV_ow {sl : Sl} {i : Nat} {m : MO} (h : sl[i]? = some (.ow m)) : ptV sl i = .ok ⟨i, [], m⟩ := by unfold ptV; rw [h]
theorem putS_ow {sl : Sl} {i : Nat} {m m' : MO} (h : sl[i]? = some (.ow m)) : putS sl i [] m' = sl.set i (.ow m') := by unfold putS; rw [h]; simp
theorem evS_app (c : Calls) {sl : Sl} {i : Nat} {e : E} {ms : List MO} {x : XV} {m : MO} (h : sl[i]? = some (.ow (.lst ms))) (he : evE c e sl = .ok x) (hx : x.item = some m) (hl : ms.length < 1000000) : evS c (.papp (.v i) e) sl = some (.nx (sl.set i (.ow (.lst (ms ++ [m]))))) := by
  have hl' : ms.length < sizeLine := Nat.lt_of_lt_of_le hl (by decide)
  simp [ptV_ow h, he, pappF, hx, putS_ow h, hl']
/-! ### loops -/
theorem forL_turn (g : D → Sl → Option Sl) (b : Sl → RO) (d : D) (ds : List D) (sl : Sl) : forL g b (d :: ds) sl = match g d sl with
    | none => none
    | some s1 => turnF (b s1) (forL g b ds) := by
  unfold forL
  cases g d sl with
  | none => rfl
  | some s1 => cases hb : b s1 with
    | none => rfl
    | some o => cases o <;> rfl
theorem forL_nil (g : D → Sl → Option Sl) (b : Sl → RO) (sl : Sl) : forL g b [] sl = some (.nx sl) := rfl
/-- every turn goes on, and what held holds -/
theorem forL_all {g : D → Sl → Option Sl} {b : Sl → RO} (P : Sl → Prop) : ∀ {ds : List D} {sl : Sl}, (∀ d ∈ ds, ∀ sl, P sl → ∃ s1, g d sl = some s1 ∧ ∃ s2, b s1 = some (.nx s2) ∧ P s2) → P sl → ∃ s', forL g b ds sl = some (.nx s') ∧ P s'
  | [], sl, _, hp => ⟨sl, rfl, hp⟩
  | d :: ds, sl, h, hp => by
    obtain ⟨s1, h1, s2, h2, h3⟩ := h d List.mem_cons_self sl hp
    obtain ⟨s', h4, h5⟩ := forL_all P (ds := ds) (fun d hd => h d (List.mem_cons_of_mem _ hd)) h3
    refine ⟨s', ?_, h5⟩
    rw [forL_turn, h1]
    show turnF (b s1) _ = _
    rw [h2]
    exact h4
theorem for_thenO {c : Calls} {t : Tg} {it : It} {b rest : Ss} {sl : Sl} {ds : List D} (Φ : RO → Prop) (P : Sl → Prop) (he : evIt c it sl = .ok (.ds ds)) (hp : P sl) (h : ∀ d ∈ ds, ∀ sl, P sl → ∃ s1, tgo t d sl = some s1 ∧ ∃ s2, evSs c b s1 = some (.nx s2) ∧ P s2) (hr : ∀ s', P s' → Φ (evSs c rest s')) : Φ (evSs c (.cons (.for_ t it b) rest) sl) := by
  obtain ⟨s', h1, h2⟩ := forL_all P h hp
  rw [evSs_cons, evS_for, he]
  show Φ (seqO (forL (tgo t) (evSs c b) ds sl) _)
  rw [h1]
  exact hr s' h2
theorem for_then {c : Calls} {t : Tg} {it : It} {b rest : Ss} {sl : Sl} {ds : List D} {as : List SV} {X : R XV} (P : Sl → Prop) (he : evIt c it sl = .ok (.ds ds)) (hp : P sl) (h : ∀ d ∈ ds, ∀ sl, P sl → ∃ s1, tgo t d sl = some s1 ∧ ∃ s2, evSs c b s1 = some (.nx s2) ∧ P s2) (hr : ∀ s', P s' → retR as (evSs c rest s') = X) : retR as (evSs c (.cons (.for_ t it b) rest) sl) = X :=
  for_thenO (fun o => retR as o = X) P he hp h hr
/-- a walk as a fold -/
theorem forL_fold {α β : Type} {g : D → Sl → Option Sl} {b : Sl → RO} (P : α → Sl → Prop) (step : α → β → α) (dd : β → D) : ∀ {xs : List β} {a : α} {sl : Sl}, (∀ x ∈ xs, ∀ a sl, P a sl → ∃ s1, g (dd x) sl = some s1 ∧ ∃ s2, b s1 = some (.nx s2) ∧ P (step a x) s2) → P a sl → ∃ s', forL g b (xs.map dd) sl = some (.nx s') ∧ P (xs.foldl step a) s'
  | [], a, sl, _, hp => ⟨sl, rfl, hp⟩
  | x :: xs, a, sl, h, hp => by
    obtain ⟨s1, h1, s2, h2, h3⟩ := h x List.mem_cons_self a sl hp
    obtain ⟨s', h4, h5⟩ := forL_fold P step dd (xs := xs) (fun x hx => h x (List.mem_cons_of_mem _ hx)) h3
    refine ⟨s', ?_, h5⟩
    rw [List.map_cons, forL_turn, h1]
    show turnF (b s1) _ = _
    rw [h2]
    exact h4
theorem for_foldO {α β : Type} {c : Calls} {t : Tg} {it : It} {b rest : Ss} {sl : Sl} (Φ : RO → Prop) (P : α → Sl → Prop) (step : α → β → α) (dd : β → D) {xs : List β} {a : α} (he : evIt c it sl = .ok (.ds (xs.map dd))) (hp : P a sl) (h : ∀ x ∈ xs, ∀ a sl, P a sl → ∃ s1, tgo t (dd x) sl = some s1 ∧ ∃ s2, evSs c b s1 = some (.nx s2) ∧ P (step a x) s2) (hr : ∀ s', P (xs.foldl step a) s' → Φ (evSs c rest s')) : Φ (evSs c (.cons (.for_ t it b) rest) sl) := by
  obtain ⟨s', h1, h2⟩ := forL_fold P step dd h hp
  rw [evSs_cons, evS_for, he]
  show Φ (seqO (forL (tgo t) (evSs c b) (xs.map dd) sl) _)
  rw [h1]
  exact hr s' h2
/-- .. with what was walked till then -/
theorem forL_foldP {α β : Type} {g : D → Sl → Option Sl} {b : Sl → RO} (P : α → Sl → Prop) (step : α → β → α) (dd : β → D) (a : α) (xs : List β) : ∀ {post pre : List β} {sl : Sl}, xs = pre ++ post → (∀ pre x post sl, xs = pre ++ x :: post → P (pre.foldl step a) sl → ∃ s1, g (dd x) sl = some s1 ∧ ∃ s2, b s1 = some (.nx s2) ∧ P (step (pre.foldl step a) x) s2) → P (pre.foldl step a) sl → ∃ s', forL g b (post.map dd) sl = some (.nx s') ∧ P (xs.foldl step a) s'
  | [], pre, sl, e, _, hp => ⟨sl, rfl, by rw [e, List.append_nil]; exact hp⟩
  | x :: post, pre, sl, e, h, hp => by
    obtain ⟨s1, h1, s2, h2, h3⟩ := h pre x post sl e hp
    obtain ⟨s', h4, h5⟩ := forL_foldP P step dd a xs (post := post) (pre := pre ++ [x]) (sl := s2) (by rw [e]; simp) h (by rw [List.foldl_append]; exact h3)
    refine ⟨s', ?_, h5⟩
    rw [List.map_cons, forL_turn, h1]
    show turnF (b s1) _ = _
    rw [h2]
    exact h4
theorem for_foldPO {α β : Type} {c : Calls} {t : Tg} {it : It} {b rest : Ss} {sl : Sl} (Φ : RO → Prop) (P : α → Sl → Prop) (step : α → β → α) (dd : β → D) {xs : List β} {a : α} (he : evIt c it sl = .ok (.ds (xs.map dd))) (hp : P a sl) (h : ∀ pre x post sl, xs = pre ++ x :: post → P (pre.foldl step a) sl → ∃ s1, tgo t (dd x) sl = some s1 ∧ ∃ s2, evSs c b s1 = some (.nx s2) ∧ P (step (pre.foldl step a) x) s2) (hr : ∀ s', P (xs.foldl step a) s' → Φ (evSs c rest s')) : Φ (evSs c (.cons (.for_ t it b) rest) sl) := by
  obtain ⟨s', h1, h2⟩ := forL_foldP (g := tgo t) (b := evSs c b) P step dd a xs (pre := []) rfl h hp
  rw [evSs_cons, evS_for, he]
  show Φ (seqO (forL (tgo t) (evSs c b) (xs.map dd) sl) _)
  rw [h1]
  exact hr s' h2
theorem forL_range {g : D → Sl → Option Sl} {b : Sl → RO} {lo : Int} (P : Nat → Sl → Prop) : ∀ (n m : Nat) {sl : Sl}, (∀ i, m ≤ i → i < m + n → ∀ sl, P i sl → ∃ s1, g (.int (lo + (i : Nat))) sl = some s1 ∧ ∃ s2, b s1 = some (.nx s2) ∧ P (i + 1) s2) → P m sl → ∃ s', forL g b ((List.range' m n).map fun i : Nat => D.int (lo + (i : Int))) sl = some (.nx s') ∧ P (m + n) s'
  | 0, m, sl, _, hp => ⟨sl, rfl, hp⟩
  | n + 1, m, sl, h, hp => by
    obtain ⟨s1, h1, s2, h2, h3⟩ := h m (Nat.le_refl _) (by omega) sl hp
    obtain ⟨s', h4, h5⟩ := forL_range P n (m + 1) (fun i a b => h i (by omega) (by omega)) h3
    refine ⟨s', ?_, by rw [show m + (n + 1) = m + 1 + n by omega]; exact h5⟩
    rw [List.range'_succ, List.map_cons, forL_turn, h1]
    show turnF (b s1) _ = _
    rw [h2]
    exact h4
/-- a walk over a range, the turns counted -/
theorem for_rangeO {c : Calls} {t : Tg} {it : It} {b rest : Ss} {sl : Sl} {lo : Int} {n : Nat} (Φ : RO → Prop) (P : Nat → Sl → Prop) (he : evIt c it sl = .ok (.ds (rangeD lo n))) (hp : P 0 sl) (h : ∀ i, i < n → ∀ sl, P i sl → ∃ s1, tgo t (.int (lo + (i : Nat))) sl = some s1 ∧ ∃ s2, evSs c b s1 = some (.nx s2) ∧ P (i + 1) s2) (hr : ∀ s', P n s' → Φ (evSs c rest s')) : Φ (evSs c (.cons (.for_ t it b) rest) sl) := by
  obtain ⟨s', h1, h2⟩ := forL_range (g := tgo t) (b := evSs c b) (lo := lo) P n 0 (fun i _ z => h i (by omega)) hp
  rw [evSs_cons, evS_for, he]
  show Φ (seqO (forL (tgo t) (evSs c b) (rangeD lo n) sl) _)
  unfold rangeD
  rw [List.range_eq_range', h1]
  rw [Nat.zero_add] at h2
  exact hr s' h2
theorem evF_of {c : Calls} {np n : Nat} {b : Ss} {ss : List SV} {r : R XV} (h : ss.length = np) (e : retR [] (evSs c b (ss ++ List.replicate (n - np) .no)) = r) (hn : noBo ss = true := by rfl) (hb : boOk 0 ss = true := by rfl) : evF c np n b ss = r := by
  unfold evF
  rw [if_pos ⟨h, hb⟩]
  cases ss with
  | nil => exact e
  | cons a s => rw [retR_pure hn]; exact e
theorem evF_rt {c : Calls} {np n : Nat} {b : Ss} {ss : List SV} {r : R XV} (h : ss.length = np) (e : retR [] (evSs c b (ss ++ List.replicate (n - np) .no)) = r) (hn : noBo ss = true := by rfl) (hb : boOk 0 ss = true := by rfl) : evF c np n b ss = r :=
  evF_of h e hn hb
/-- a comprehension over data as filter and map -/
theorem compL_map {β : Type} {g : D → Sl → Option Sl} {cnd : Sl → R Bool} {elt : Sl → R XV} {sl : Sl} (dd : β → D) (p : β → Bool) (f : β → MO) : ∀ {xs : List β}, (∀ x ∈ xs, ∃ s1, g (dd x) sl = some s1 ∧ cnd s1 = .ok (p x) ∧ (p x = true → ∃ v, elt s1 = .ok v ∧ v.item = some (f x))) → compL g cnd elt sl (xs.map dd) = .ok ((xs.filter p).map f)
  | [], _ => by unfold compL; rfl
  | x :: xs, h => by
    obtain ⟨s1, h1, h2, h3⟩ := h x List.mem_cons_self
    have ih := compL_map (g := g) (cnd := cnd) (elt := elt) (sl := sl) dd p f (xs := xs) (fun x hx => h x (List.mem_cons_of_mem _ hx))
    rw [List.map_cons]
    unfold compL
    rw [h1]
    cases hp : p x with
    | true =>
      obtain ⟨v, h4, h5⟩ := h3 hp
      simp [h2, hp, h4, h5, ih, nox]
    | false => simp [h2, hp, ih, nox]
theorem compF_map {β : Type} {g : D → Sl → Option Sl} {cnd : Sl → R Bool} {elt : Sl → R XV} {sl : Sl} (dd : β → D) (p : β → Bool) (f : β → MO) {xs : List β} (hl : xs.length < 1000000) (h : ∀ x ∈ xs, ∃ s1, g (dd x) sl = some s1 ∧ cnd s1 = .ok (p x) ∧ (p x = true → ∃ v, elt s1 = .ok v ∧ v.item = some (f x))) : compF g cnd elt sl (xs.map dd) = .ok (.nw (.lst ((xs.filter p).map f))) := by
  unfold compF
  rw [if_pos (by rw [List.length_map]; exact Nat.lt_of_lt_of_le hl (by decide)), compL_map dd p f h]
  rfl
theorem toDL_map {β : Type} (f : β → D) : ∀ xs : List β, MO.toDL (xs.map fun x => MO.cl (f x)) = xs.map f
  | [] => rfl
  | x :: xs => by simp [toDL_map f xs]
theorem toDL_clm (ds : List D) : MO.toDL (ds.map MO.cl) = ds := by
  have := toDL_map id ds
  simpa using this
theorem bopF_lst {ds es : List D} (h : ds.length + es.length ≤ 1000000) : bopF .add (.cl (.lst ds)) (.cl (.lst es)) = .ok (.nw (.lst ((ds ++ es).map .cl))) := by
  have e : ∀ l : List D, (XV.cl (.lst l)).rd.lds = some l := fun l => by simp [XV.rd, XV.lds, MO.islst]
  show catF _ _ _ = _
  unfold catF
  rw [e, e]
  simp only
  rw [if_pos ⟨by trivial, Nat.le_trans h (by decide)⟩]
theorem lrngF_int {i j : Int} (h : (j - i).toNat ≤ 1000000) : lrngF (.cl (.int i)) (.cl (.int j)) = .ok (.nw (.lst ((rangeD i (j - i).toNat).map .cl))) := by
  unfold lrngF
  simp only
  rw [if_pos h]
theorem clM_mapD {β : Type} (f : β → D) : ∀ xs : List β, clM (xs.map fun x => MO.cl (f x)) = some (xs.map f)
  | [] => rfl
  | x :: xs => by simp [clM, clM_mapD f xs]
theorem itF_lk {β : Type} (f : β → D) (xs : List β) : itF (.lk (.lst (xs.map fun x => MO.cl (f x)))) = .ok (.ds (xs.map f)) := by
  simp [itF, clM_mapD f xs]
theorem rangeD_mem {lo : Int} {n : Nat} {d : D} (h : d ∈ rangeD lo n) : ∃ i : Nat, i < n ∧ d = .int (lo + i) := by
  unfold rangeD at h
  obtain ⟨i, h1, h2⟩ := List.mem_map.mp h
  exact ⟨i, List.mem_range.mp h1, h2.symm⟩
theorem rangeD_memI {lo : Int} {n : Nat} {d : D} (h : d ∈ rangeD lo n) : ∃ k : Int, lo ≤ k ∧ k < lo + n ∧ d = .int k := by
  obtain ⟨i, h1, h2⟩ := rangeD_mem h
  exact ⟨lo + i, by omega, by omega, h2⟩
/-! ### sizes -/
theorem log2_lt {n k : Nat} (h : n < 2 ^ k) (hk : 0 < k) : n.log2 < k := PySem.Flt.log2_lt_of hk h
theorem mul_okN {i j : Int} (a b : Nat) (hi : i.natAbs < 2 ^ a) (hj : j.natAbs < 2 ^ b) (h : a + b ≤ 1000000 := by decide) (ha : 0 < a := by decide) (hb : 0 < b := by decide) : i.natAbs.log2 + j.natAbs.log2 < 1000000 := by
  have := log2_lt hi ha
  have := log2_lt hj hb
  omega
/-- of two numbers of at most 64 bits -/
theorem mul_ok64 {i j : Int} (hi : -(2 ^ 64) < i) (hi2 : i < 2 ^ 64) (hj : -(2 ^ 64) < j) (hj2 : j < 2 ^ 64) : i.natAbs.log2 + j.natAbs.log2 < 1000000 :=
  mul_okN 64 64 (by omega) (by omega)
/-! ### the laws' draws -/
def cellAt (ns : List Int) (k : Int) : Int := if 0 < ns.length then ns.getD (k % (ns.length : Int)).toNat 0 else 0
def lawBy (ns : List Int) (k many : Int) : Int :=
  if cellAt ns 0 % 2 = 1 then (cellAt ns k / 2 ^ (1 + 20 * (k / (ns.length : Int))).toNat) % many
  else (((cellAt ns k % 1000003 + 31 * k * k + 1) * 48271 % 999983) * 7919 % 524287) % many
theorem lawBy_nn {ns : List Int} {k many : Int} (h : 0 < many) : 0 ≤ lawBy ns k many := by
  unfold lawBy; split <;> exact Int.emod_nonneg _ (by omega)
theorem lawBy_lt {ns : List Int} {k many : Int} (h : 0 < many) : lawBy ns k many < many := by
  unfold lawBy; split <;> exact Int.emod_lt_of_pos _ h
abbrev scr (ns : List Int) : D := .lst (ns.map .int)
def B_cell_at : Ss := (.cons (.ifs (.cmp .gt (.blt .len (.cons (.var 0) .nil)) (.int 0)) (.cons (.ret (.sub (.var 0) (.bin .mod (.var 1) (.blt .len (.cons (.var 0) .nil))))) .nil) .nil) (.cons (.ret (.int 0)) .nil))
theorem cell_at_ok (c : Calls) (ns : List Int) (k : Int) : evF c 2 2 B_cell_at [.cl (scr ns), .cl (.int k)] = .ok (.cl (.int (cellAt ns k))) := by
  unfold evF B_cell_at
  by_cases h : 0 < ns.length
  · have h' : (0 : Int) < ns.length := by omega
    have m0 := Int.emod_nonneg k (show (ns.length : Int) ≠ 0 by omega)
    have m1 := Int.emod_lt_of_pos k h'
    have hx : (ns.map D.int)[(k % (ns.length : Int)).toNat]? = some (.int (cellAt ns k)) := by
      rw [List.getElem?_map]
      have : (k % (ns.length : Int)).toNat < ns.length := by omega
      rw [List.getElem?_eq_getElem this]
      unfold cellAt
      rw [if_pos h]
      simp [List.getD, List.getElem?_eq_getElem this]
    simp [h, bopI_mod, idx_lst (atI_nn m0 hx)]
  · have h' : ns = [] := by
      cases ns with
      | nil => rfl
      | cons a r => simp at h
    subst h'
    simp [cellAt]
def B_by : Ss := (.cons (.asg 3 (.call "_law_cell_at" (.cons (.var 0) (.cons (.var 1) .nil)))) (.cons (.ifs (.cmp .eq (.bin .mod (.call "_law_cell_at" (.cons (.var 0) (.cons (.int 0) .nil))) (.int 2)) (.int 1)) (.cons (.ret (.bin .mod (.bin .shr (.var 3) (.bin .add (.int 1) (.bin .mul (.int 20) (.bin .fdiv (.var 1) (.blt .len (.cons (.var 0) .nil)))))) (.var 2))) .nil) .nil) (.cons (.asg 4 (.bin .add (.bin .add (.bin .mod (.var 3) (.int 1000003)) (.bin .mul (.bin .mul (.int 31) (.var 1)) (.var 1))) (.int 1))) (.cons (.ret (.bin .mod (.bin .mod (.bin .mul (.bin .mod (.bin .mul (.var 4) (.int 48271)) (.int 999983)) (.int 7919)) (.int 524287)) (.var 2))) .nil))))
theorem by_ok (c : Calls) (hc : ∀ ns k, c "_law_cell_at" [.cl (scr ns), .cl (.int k)] = .ok (.cl (.int (cellAt ns k)))) (ns : List Int) (hl : ns.length ≤ 63) (k many : Int) (hk : 0 ≤ k) (hk2 : k ≤ 1000000) (hm : 0 < many) :
    evF c 3 5 B_by [.cl (scr ns), .cl (.int k), .cl (.int many)] = .ok (.cl (.int (lawBy ns k many))) := by
  unfold evF B_by
  have kk : 0 ≤ k * k ∧ k * k ≤ 1000000 * 1000000 := ⟨Int.mul_nonneg hk hk, Int.mul_le_mul hk2 hk2 hk (by omega)⟩
  by_cases h : cellAt ns 0 % 2 = 1
  · have h0 : 0 < ns.length := by
      rcases Nat.eq_zero_or_pos ns.length with z | z
      · unfold cellAt at h; simp [z] at h
      · exact z
    have hq0 : 0 ≤ k / (ns.length : Int) := Int.ediv_nonneg hk (by omega)
    have hq1 : k / (ns.length : Int) ≤ k := Int.ediv_le_self _ hk
    have e1 := bopI_fdiv (i := k) (j := (ns.length : Int)) (by omega) (Nat.lt_of_lt_of_le (log2_lt (k := 6) (by omega) (by decide)) (by decide))
    have e2 := bopI_mul (i := 20) (j := k / (ns.length : Int)) (mul_ok64 (by decide) (by decide) (by omega) (by omega))
    have e3 := bopI_shr (i := cellAt ns k) (j := 1 + 20 * (k / (ns.length : Int))) (by omega)
    have e4 := bopI_mod (i := cellAt ns k / 2 ^ (1 + 20 * (k / (ns.length : Int))).toNat) hm
    simp [hc, bopI_mod, h, e1, e2, e3, e4, lawBy]
  · have m0 := Int.emod_nonneg (cellAt ns k) (show (1000003 : Int) ≠ 0 by decide)
    have m1 := Int.emod_lt_of_pos (cellAt ns k) (show (0 : Int) < 1000003 by decide)
    have a31 : 31 * k * k = 31 * (k * k) := by rw [Int.mul_assoc]
    have e1 := bopI_mul (i := 31) (j := k) (mul_ok64 (by decide) (by decide) (by omega) (by omega))
    have e2 := bopI_mul (i := 31 * k) (j := k) (mul_ok64 (by omega) (by omega) (by omega) (by omega))
    have e3 := bopI_mul (i := cellAt ns k % 1000003 + 31 * k * k + 1) (j := 48271) (mul_ok64 (by omega) (by omega) (by decide) (by decide))
    have n0 := Int.emod_nonneg ((cellAt ns k % 1000003 + 31 * k * k + 1) * 48271) (show (999983 : Int) ≠ 0 by decide)
    have n1 := Int.emod_lt_of_pos ((cellAt ns k % 1000003 + 31 * k * k + 1) * 48271) (show (0 : Int) < 999983 by decide)
    have e4 := bopI_mul (i := (cellAt ns k % 1000003 + 31 * k * k + 1) * 48271 % 999983) (j := 7919) (mul_ok64 (by omega) (by omega) (by decide) (by decide))
    have e5 := bopI_mod (i := ((cellAt ns k % 1000003 + 31 * k * k + 1) * 48271 % 999983) * 7919 % 524287) hm
    simp [hc, bopI_mod, h, e1, e2, e3, e4, e5, lawBy]
/-! ### menus -/
def pick (l : List Int) (i : Int) : Int := l.getD i.toNat 0
theorem pick_mem {l : List Int} {i : Int} (h0 : 0 ≤ i) (h1 : i < l.length) : pick l i ∈ l := by
  unfold pick
  have : i.toNat < l.length := by omega
  rw [List.getD_eq_getElem?_getD, List.getElem?_eq_getElem this]
  exact List.getElem_mem this
theorem idx_pick {l : List Int} {i : Int} (h0 : 0 ≤ i) (h1 : i < l.length) : idx (.cl (.lst (l.map .int))) (.cl (.int i)) = some (.cl (.int (pick l i))) := by
  have : i.toNat < l.length := by omega
  refine idx_lst (atI_nn h0 ?_)
  rw [List.getElem?_map, List.getElem?_eq_getElem this]
  unfold pick
  rw [List.getD_eq_getElem?_getD, List.getElem?_eq_getElem this]
  rfl
theorem idx2 {a b i : Int} (h0 : 0 ≤ i) (h1 : i < 2) : idx (.cl (.lst [.int a, .int b])) (.cl (.int i)) = some (.cl (.int (pick [a, b] i))) := idx_pick (l := [a, b]) h0 h1
theorem idx3 {a b c i : Int} (h0 : 0 ≤ i) (h1 : i < 3) : idx (.cl (.lst [.int a, .int b, .int c])) (.cl (.int i)) = some (.cl (.int (pick [a, b, c] i))) := idx_pick (l := [a, b, c]) h0 h1
theorem idx4 {a b c d i : Int} (h0 : 0 ≤ i) (h1 : i < 4) : idx (.cl (.lst [.int a, .int b, .int c, .int d])) (.cl (.int i)) = some (.cl (.int (pick [a, b, c, d] i))) := idx_pick (l := [a, b, c, d]) h0 h1
theorem idx5 {a b c d e i : Int} (h0 : 0 ≤ i) (h1 : i < 5) : idx (.cl (.lst [.int a, .int b, .int c, .int d, .int e])) (.cl (.int i)) = some (.cl (.int (pick [a, b, c, d, e] i))) := idx_pick (l := [a, b, c, d, e]) h0 h1
theorem pick2 {P : Int → Prop} {a b i : Int} (h0 : 0 ≤ i) (h1 : i < 2) (ha : P a) (hb : P b) : P (pick [a, b] i) := by
  have := pick_mem (l := [a, b]) h0 h1
  simp only [List.mem_cons, List.not_mem_nil, or_false] at this
  rcases this with e | e <;> rw [e] <;> assumption
theorem pick3 {P : Int → Prop} {a b c i : Int} (h0 : 0 ≤ i) (h1 : i < 3) (ha : P a) (hb : P b) (hc : P c) : P (pick [a, b, c] i) := by
  have := pick_mem (l := [a, b, c]) h0 h1
  simp only [List.mem_cons, List.not_mem_nil, or_false] at this
  rcases this with e | e | e <;> rw [e] <;> assumption
theorem pick4 {P : Int → Prop} {a b c d i : Int} (h0 : 0 ≤ i) (h1 : i < 4) (ha : P a) (hb : P b) (hc : P c) (hd : P d) : P (pick [a, b, c, d] i) := by
  have := pick_mem (l := [a, b, c, d]) h0 h1
  simp only [List.mem_cons, List.not_mem_nil, or_false] at this
  rcases this with e | e | e | e <;> rw [e] <;> assumption
theorem pick5 {P : Int → Prop} {a b c d e i : Int} (h0 : 0 ≤ i) (h1 : i < 5) (ha : P a) (hb : P b) (hc : P c) (hd : P d) (he : P e) : P (pick [a, b, c, d, e] i) := by
  have := pick_mem (l := [a, b, c, d, e]) h0 h1
  simp only [List.mem_cons, List.not_mem_nil, or_false] at this
  rcases this with z | z | z | z | z <;> rw [z] <;> assumption
end Mo
namespace Mo
open PySem PySem.Spec PyProof.Rows L2
/-! ### the laws' rounds and turns -/
@[simp] theorem get_zero {α : Type} (a : α) (l : List α) : (a :: l)[0]? = some a := rfl
structure Draws (c : Calls) : Prop where
  cell : ∀ ns k, c "_law_cell_at" [.cl (scr ns), .cl (.int k)] = .ok (.cl (.int (cellAt ns k)))
  by_ : ∀ ns k many, ns.length ≤ 63 → 0 ≤ k → k ≤ 1000000 → 0 < many → c "_law_by" [.cl (scr ns), .cl (.int k), .cl (.int many)] = .ok (.cl (.int (lawBy ns k many)))
abbrev beatD (f e l : Int) : D := .tup [.int f, .int e, .int l]
@[simp] theorem idxL2 {a b k : Int} {ns : List Int} : idx (.cl (.lst [.int a, .int b])) (.cl (.int (lawBy ns k 2))) = some (.cl (.int (pick [a, b] (lawBy ns k 2)))) := idx2 (lawBy_nn (by omega)) (lawBy_lt (by omega))
@[simp] theorem idxL3 {a b c k : Int} {ns : List Int} : idx (.cl (.lst [.int a, .int b, .int c])) (.cl (.int (lawBy ns k 3))) = some (.cl (.int (pick [a, b, c] (lawBy ns k 3)))) := idx3 (lawBy_nn (by omega)) (lawBy_lt (by omega))
@[simp] theorem idxL4 {a b c d k : Int} {ns : List Int} : idx (.cl (.lst [.int a, .int b, .int c, .int d])) (.cl (.int (lawBy ns k 4))) = some (.cl (.int (pick [a, b, c, d] (lawBy ns k 4)))) := idx4 (lawBy_nn (by omega)) (lawBy_lt (by omega))
@[simp] theorem idxL5 {a b c d e k : Int} {ns : List Int} : idx (.cl (.lst [.int a, .int b, .int c, .int d, .int e])) (.cl (.int (lawBy ns k 5))) = some (.cl (.int (pick [a, b, c, d, e] (lawBy ns k 5)))) := idx5 (lawBy_nn (by omega)) (lawBy_lt (by omega))
@[simp] theorem idxT0 {a : D} {ds : List D} : idx (.cl (.tup (a :: ds))) (.cl (.int 0)) = some (.cl a) := idx_tup (atI_nn (by omega) rfl)
@[simp] theorem idxT1 {a b : D} {ds : List D} : idx (.cl (.tup (a :: b :: ds))) (.cl (.int 1)) = some (.cl b) := idx_tup (atI_nn (by omega) rfl)
@[simp] theorem idxT2 {a b d : D} {ds : List D} : idx (.cl (.tup (a :: b :: d :: ds))) (.cl (.int 2)) = some (.cl d) := idx_tup (atI_nn (by omega) rfl)
@[simp] theorem idxS0 {a : D} {ds : List D} : idx (.cl (.lst (a :: ds))) (.cl (.int 0)) = some (.cl a) := idx_lst (atI_nn (by omega) rfl)
@[simp] theorem idxS1 {a b : D} {ds : List D} : idx (.cl (.lst (a :: b :: ds))) (.cl (.int 1)) = some (.cl b) := idx_lst (atI_nn (by omega) rfl)
@[simp] theorem tupF_2 {a b : D} : tupF [.cl a, .cl b] = .ok (.cl (.tup [a, b])) := rfl
@[simp] theorem tupF_3 {a b d : D} : tupF [.cl a, .cl b, .cl d] = .ok (.cl (.tup [a, b, d])) := rfl
@[simp] theorem lstF_0 : lstF [] = .ok (.nw (.lst [])) := rfl
@[simp] theorem lstF_1 {a : D} : lstF [.cl a] = .ok (.nw (.lst [.cl a])) := rfl
@[simp] theorem lstF_2 {a b : D} : lstF [.cl a, .cl b] = .ok (.nw (.lst [.cl a, .cl b])) := rfl
@[simp] theorem lstF_3 {a b d : D} : lstF [.cl a, .cl b, .cl d] = .ok (.nw (.lst [.cl a, .cl b, .cl d])) := rfl
@[simp] theorem lstF_4 {a b d e : D} : lstF [.cl a, .cl b, .cl d, .cl e] = .ok (.nw (.lst [.cl a, .cl b, .cl d, .cl e])) := rfl
@[simp] theorem lstF_5 {a b d e f : D} : lstF [.cl a, .cl b, .cl d, .cl e, .cl f] = .ok (.nw (.lst [.cl a, .cl b, .cl d, .cl e, .cl f])) := rfl
@[simp] theorem blt_max2 (i j : Int) : blt .max2 [.cl (.int i), .cl (.int j)] = some (.cl (.int (if j > i then j else i))) := rfl
@[simp] theorem blt_min2 (i j : Int) : blt .min2 [.cl (.int i), .cl (.int j)] = some (.cl (.int (if j < i then j else i))) := rfl
theorem eqD_bl (a b : Bool) : eqD (.bl a) (.bl b) = some (decide (a = b)) := by
  unfold eqD
  simp only [D.py]
  rw [if_pos ⟨by unfold PySem.SeqAt.shaped; rfl, by unfold PySem.SeqAt.shaped; rfl⟩]
  cases a <;> cases b <;> rfl
@[simp] theorem cmpF_eqb (a b : Bool) : cmpF .eq (.cl (.bl a)) (.cl (.bl b)) = .ok (.cl (.bl (decide (a = b)))) := by
  unfold cmpF cop; simp [eqD_bl]
@[simp] theorem cmpF_neb (a b : Bool) : cmpF .ne (.cl (.bl a)) (.cl (.bl b)) = .ok (.cl (.bl (!decide (a = b)))) := by
  unfold cmpF cop; simp [eqD_bl]
@[simp] theorem andF_b (a b : Bool) : andF (.cl (.bl a)) (.ok (.cl (.bl b))) = .ok (.cl (.bl (a && b))) := andF_ok a b
@[simp] theorem orF_b (a b : Bool) : orF (.cl (.bl a)) (.ok (.cl (.bl b))) = .ok (.cl (.bl (a || b))) := orF_ok a b
theorem bopI_pow10 {j : Int} (h : 0 ≤ j) (h1 : j ≤ 1000000) : bopI .pow 10 j = some (.int (10 ^ j.toNat)) := bopI_pow h h1 (by decide)
@[simp] theorem pow_20 : bopI .pow 10 20 = some (.int 100000000000000000000) := by rw [bopI_pow10 (by decide) (by decide)]; rfl
@[simp] theorem pow_30 : bopI .pow 10 30 = some (.int 1000000000000000000000000000000) := by rw [bopI_pow10 (by decide) (by decide)]; rfl
@[simp] theorem pow_40 : bopI .pow 10 40 = some (.int 10000000000000000000000000000000000000000) := by rw [bopI_pow10 (by decide) (by decide)]; rfl
@[simp] theorem pow_50 : bopI .pow 10 50 = some (.int 100000000000000000000000000000000000000000000000000) := by rw [bopI_pow10 (by decide) (by decide)]; rfl
@[simp] theorem pow_12 : bopI .pow 10 12 = some (.int 1000000000000) := by rw [bopI_pow10 (by decide) (by decide)]; rfl
@[simp] theorem pow_16 : bopI .pow 10 16 = some (.int 10000000000000000) := by rw [bopI_pow10 (by decide) (by decide)]; rfl
@[simp] theorem pow_45 : bopI .pow 10 45 = some (.int 1000000000000000000000000000000000000000000000) := by rw [bopI_pow10 (by decide) (by decide)]; rfl
def rdEvery (ns : List Int) (k : Int) : Int := if lawBy ns (k + 1) 3 = 0 then 1 + cellAt ns (k + 1) % 1000000000000000000000000000000 else 1 + lawBy ns k 24
def rdLong (ns : List Int) (k : Int) : Int := pick [1, rdEvery ns k, 1 + lawBy ns (k + 2) 40 % rdEvery ns k, 1 + cellAt ns (k + 2) % rdEvery ns k] (lawBy ns (k + 5) 4)
def rdFirst (ns : List Int) (k : Int) : Int := if lawBy ns (k + 4) 3 = 0 then cellAt ns (k + 4) % 10000000000000000000000000000000000000000 else lawBy ns (k + 3) 30
theorem rdEvery_b (ns : List Int) (k : Int) : 1 ≤ rdEvery ns k ∧ rdEvery ns k ≤ 1000000000000000000000000000000 := by
  unfold rdEvery
  have := lawBy_nn (ns := ns) (k := k) (many := 24) (by omega)
  have := lawBy_lt (ns := ns) (k := k) (many := 24) (by omega)
  split <;> omega
theorem rdFirst_b (ns : List Int) (k : Int) : 0 ≤ rdFirst ns k ∧ rdFirst ns k ≤ 10000000000000000000000000000000000000000 := by
  unfold rdFirst
  have := lawBy_nn (ns := ns) (k := k + 3) (many := 30) (by omega)
  have := lawBy_lt (ns := ns) (k := k + 3) (many := 30) (by omega)
  split <;> omega
theorem rdLong_b (ns : List Int) (k : Int) : 1 ≤ rdLong ns k ∧ rdLong ns k ≤ rdEvery ns k := by
  have := rdEvery_b ns k
  have a0 := Int.emod_nonneg (lawBy ns (k + 2) 40) (show rdEvery ns k ≠ 0 by omega)
  have a1 := Int.emod_lt_of_pos (lawBy ns (k + 2) 40) (show 0 < rdEvery ns k by omega)
  have b0 := Int.emod_nonneg (cellAt ns (k + 2)) (show rdEvery ns k ≠ 0 by omega)
  have b1 := Int.emod_lt_of_pos (cellAt ns (k + 2)) (show 0 < rdEvery ns k by omega)
  exact pick4 (P := fun v => 1 ≤ v ∧ v ≤ rdEvery ns k) (lawBy_nn (by omega)) (lawBy_lt (by omega)) (by omega) (by omega) (by omega) (by omega)
def B_round : Ss := (.cons (.asg 2 (.bin .add (.int 1) (.call "_law_by" (.cons (.var 0) (.cons (.var 1) (.cons (.int 24) .nil)))))) (.cons (.ifs (.cmp .eq (.call "_law_by" (.cons (.var 0) (.cons (.bin .add (.var 1) (.int 1)) (.cons (.int 3) .nil)))) (.int 0)) (.cons (.asg 2 (.bin .add (.int 1) (.bin .mod (.call "_law_cell_at" (.cons (.var 0) (.cons (.bin .add (.var 1) (.int 1)) .nil))) (.bin .pow (.int 10) (.int 30))))) .nil) .nil) (.cons (.asg 3 (.fz (.lst (.cons (.int 1) (.cons (.var 2) (.cons (.bin .add (.int 1) (.bin .mod (.call "_law_by" (.cons (.var 0) (.cons (.bin .add (.var 1) (.int 2)) (.cons (.int 40) .nil)))) (.var 2))) (.cons (.bin .add (.int 1) (.bin .mod (.call "_law_cell_at" (.cons (.var 0) (.cons (.bin .add (.var 1) (.int 2)) .nil))) (.var 2))) .nil))))))) (.cons (.asg 4 (.call "_law_by" (.cons (.var 0) (.cons (.bin .add (.var 1) (.int 3)) (.cons (.int 30) .nil))))) (.cons (.ifs (.cmp .eq (.call "_law_by" (.cons (.var 0) (.cons (.bin .add (.var 1) (.int 4)) (.cons (.int 3) .nil)))) (.int 0)) (.cons (.asg 4 (.bin .mod (.call "_law_cell_at" (.cons (.var 0) (.cons (.bin .add (.var 1) (.int 4)) .nil))) (.bin .pow (.int 10) (.int 40)))) .nil) .nil) (.cons (.ret (.tup (.cons (.var 4) (.cons (.var 2) (.cons (.sub (.var 3) (.call "_law_by" (.cons (.var 0) (.cons (.bin .add (.var 1) (.int 5)) (.cons (.int 4) .nil))))) .nil))))) .nil))))))
theorem round_ok {c : Calls} (dr : Draws c) (ns : List Int) (hl : ns.length ≤ 63) (k : Int) (hk : 0 ≤ k) (hk2 : k ≤ 10000) : evF c 2 5 B_round [.cl (scr ns), .cl (.int k)] = .ok (.cl (beatD (rdFirst ns k) (rdEvery ns k) (rdLong ns k))) := by
  have e1 := rdEvery_b ns k
  refine evF_rt rfl ?_
  unfold B_round
  unfold rdFirst rdLong
  have ee : rdEvery ns k = if lawBy ns (k + 1) 3 = 0 then 1 + cellAt ns (k + 1) % 1000000000000000000000000000000 else 1 + lawBy ns k 24 := rfl
  by_cases h1 : lawBy ns (k + 1) 3 = 0 <;> by_cases h2 : lawBy ns (k + 4) 3 = 0 <;> simp only [h1, if_true, if_false] at ee <;> rw [ee] at e1 ⊢ <;> simp (disch := omega) [dr.cell, dr.by_ ns _ _ hl, bopI_mod, h1, h2]
/-- a turn by the law -/
def tnEdge (ns : List Int) (k f e l : Int) : Int := f + pick [0, 1, lawBy ns k 9, cellAt ns k % 100000000000000000000] (lawBy ns (k + 1) 4) * e + pick [0, l] (lawBy ns (k + 2) 2)
def tnNear (ns : List Int) (k f e l : Int) : Int := pick [tnEdge ns k f e l, tnEdge ns k f e l - 1, tnEdge ns k f e l + 1, tnEdge ns k f e l + lawBy ns (k + 3) 50, lawBy ns (k + 4) 60] (lawBy ns (k + 5) 5)
def tnOf (ns : List Int) (k f e l : Int) : Int := if tnNear ns k f e l > 0 then tnNear ns k f e l else 0
def B_turn : Ss := (.cons (.asg 3 (.sub (.fz (.lst (.cons (.int 0) (.cons (.int 1) (.cons (.call "_law_by" (.cons (.var 0) (.cons (.var 1) (.cons (.int 9) .nil)))) (.cons (.bin .mod (.call "_law_cell_at" (.cons (.var 0) (.cons (.var 1) .nil))) (.bin .pow (.int 10) (.int 20))) .nil)))))) (.call "_law_by" (.cons (.var 0) (.cons (.bin .add (.var 1) (.int 1)) (.cons (.int 4) .nil)))))) (.cons (.asg 4 (.bin .add (.bin .add (.sub (.var 2) (.int 0)) (.bin .mul (.var 3) (.sub (.var 2) (.int 1)))) (.sub (.fz (.lst (.cons (.int 0) (.cons (.sub (.var 2) (.int 2)) .nil)))) (.call "_law_by" (.cons (.var 0) (.cons (.bin .add (.var 1) (.int 2)) (.cons (.int 2) .nil))))))) (.cons (.asg 5 (.fz (.lst (.cons (.var 4) (.cons (.bin .sub (.var 4) (.int 1)) (.cons (.bin .add (.var 4) (.int 1)) (.cons (.bin .add (.var 4) (.call "_law_by" (.cons (.var 0) (.cons (.bin .add (.var 1) (.int 3)) (.cons (.int 50) .nil))))) (.cons (.call "_law_by" (.cons (.var 0) (.cons (.bin .add (.var 1) (.int 4)) (.cons (.int 60) .nil)))) .nil)))))))) (.cons (.ret (.blt .max2 (.cons (.int 0) (.cons (.sub (.var 5) (.call "_law_by" (.cons (.var 0) (.cons (.bin .add (.var 1) (.int 5)) (.cons (.int 5) .nil))))) .nil)))) .nil))))
theorem turn_ok {c : Calls} (dr : Draws c) (ns : List Int) (hl : ns.length ≤ 63) (k : Int) (hk : 0 ≤ k) (hk2 : k ≤ 10000) {f e l : Int} (he : 1 ≤ e ∧ e ≤ 1000000000000000000000000000000) : evF c 3 6 B_turn [.cl (scr ns), .cl (.int k), .cl (beatD f e l)] = .ok (.cl (.int (tnOf ns k f e l))) := by
  have n0 := lawBy_nn (ns := ns) (k := k) (many := 9) (by omega)
  have n1 := lawBy_lt (ns := ns) (k := k) (many := 9) (by omega)
  have p := pick4 (P := fun v => 0 ≤ v ∧ v < 100000000000000000000) (a := 0) (b := 1) (c := lawBy ns k 9) (d := cellAt ns k % 100000000000000000000) (lawBy_nn (ns := ns) (k := k + 1) (many := 4) (by omega)) (lawBy_lt (by omega)) (by omega) (by omega) (by omega) (by omega)
  have m := bopI_mul (mul_okN 100 100 (i := pick [0, 1, lawBy ns k 9, cellAt ns k % 100000000000000000000] (lawBy ns (k + 1) 4)) (j := e) (by omega) (by omega))
  refine evF_rt rfl ?_
  unfold B_turn
  simp (disch := omega) [dr.cell, dr.by_ ns _ _ hl, bopI_mod, m, tnOf, tnNear, tnEdge]
theorem tnOf_nn (ns : List Int) (k f e l : Int) : 0 ≤ tnOf ns k f e l := by
  unfold tnOf
  split <;> omega
theorem mul_bd {a b : Int} {A B : Int} (a0 : 0 ≤ a) (a1 : a ≤ A) (b0 : 0 ≤ b) (b1 : b ≤ B) : 0 ≤ a * b ∧ a * b ≤ A * B :=
  ⟨Int.mul_nonneg a0 b0, Int.le_trans (Int.mul_le_mul_of_nonneg_right a1 b0) (Int.mul_le_mul_of_nonneg_left b1 (by omega))⟩
theorem tnOf_lt (ns : List Int) (k f e l : Int) (hf : 0 ≤ f ∧ f ≤ 10000000000000000000000000000000000000000) (he : 1 ≤ e ∧ e ≤ 1000000000000000000000000000000) (hl : 0 ≤ l ∧ l ≤ e) : tnOf ns k f e l ≤ 3 * (1000000000000000000000000000000 * 100000000000000000000) := by
  have n0 := lawBy_nn (ns := ns) (k := k) (many := 9) (by omega)
  have n1 := lawBy_lt (ns := ns) (k := k) (many := 9) (by omega)
  have p := pick4 (P := fun v => 0 ≤ v ∧ v ≤ 100000000000000000000) (a := 0) (b := 1) (c := lawBy ns k 9) (d := cellAt ns k % 100000000000000000000) (lawBy_nn (ns := ns) (k := k + 1) (many := 4) (by omega)) (lawBy_lt (by omega)) (by omega) (by omega) (by omega) (by omega)
  have q := pick2 (P := fun v => 0 ≤ v ∧ v ≤ 1000000000000000000000000000000) (a := 0) (b := l) (lawBy_nn (ns := ns) (k := k + 2) (many := 2) (by omega)) (lawBy_lt (by omega)) (by omega) (by omega)
  have m := mul_bd p.1 p.2 (show 0 ≤ e by omega) he.2
  have ed : -1 ≤ tnEdge ns k f e l ∧ tnEdge ns k f e l ≤ 2 * (1000000000000000000000000000000 * 100000000000000000000) := by unfold tnEdge; omega
  have a0 := lawBy_nn (ns := ns) (k := k + 3) (many := 50) (by omega)
  have a1 := lawBy_lt (ns := ns) (k := k + 3) (many := 50) (by omega)
  have b0 := lawBy_nn (ns := ns) (k := k + 4) (many := 60) (by omega)
  have b1 := lawBy_lt (ns := ns) (k := k + 4) (many := 60) (by omega)
  have w := pick5 (P := fun v => v ≤ 3 * (1000000000000000000000000000000 * 100000000000000000000)) (a := tnEdge ns k f e l) (b := tnEdge ns k f e l - 1) (c := tnEdge ns k f e l + 1) (d := tnEdge ns k f e l + lawBy ns (k + 3) 50) (e := lawBy ns (k + 4) 60) (lawBy_nn (ns := ns) (k := k + 5) (many := 5) (by omega)) (lawBy_lt (by omega)) (by omega) (by omega) (by omega) (by omega) (by omega)
  unfold tnOf tnNear
  split
  · exact w
  · omega
/-- a round's bounds -/
def BtOk (f e l : Int) : Prop := (0 ≤ f ∧ f ≤ 10000000000000000000000000000000000000000) ∧ (1 ≤ e ∧ e ≤ 1000000000000000000000000000000) ∧ (1 ≤ l ∧ l ≤ e)
theorem rd_ok (ns : List Int) (k : Int) : BtOk (rdFirst ns k) (rdEvery ns k) (rdLong ns k) := ⟨rdFirst_b ns k, rdEvery_b ns k, rdLong_b ns k⟩
theorem beat_at {f e l f' e' l' : Int} (h : BtOk f e l) (h' : BtOk f' e' l') (k : Int) : ∃ g d m, BtOk g d m ∧ idx (.cl (.lst [beatD f e l, beatD f' e' l'])) (.cl (.int (k % 2))) = some (.cl (beatD g d m)) := by
  rcases Int.emod_two_eq k with q | q <;> rw [q]
  · exact ⟨f, e, l, h, idxS0⟩
  · exact ⟨f', e', l', h', idxS1⟩
/-- whether a round is open in a turn -/
def openAt (f e l t : Int) : Bool := decide (f ≤ t) && decide ((t - f) % e < l)
end Mo
namespace Mo
open PySem PySem.Spec PyProof.Rows L2
/-! ### data alike themselves -/
mutual
def plD : Nat → D → Bool
  | _, .non => true
  | _, .bl _ => true
  | _, .int _ => true
  | _, .str s => s.cps.all fun c => decide (c < 0x110000)
  | 0, _ => false
  | n + 1, .tup ds => plDL n ds
  | n + 1, .lst ds => plDL n ds
  | _, _ => false
def plDL : Nat → List D → Bool
  | _, [] => true
  | n, d :: ds => plD n d && plDL n ds
end
mutual
theorem plD_ok : ∀ (d : D) (n : Nat), plD n d = true → ∃ p, d.py = some p ∧ p.canLay0 = true ∧ p.depth ≤ n
  | .non, n, _ => ⟨.none, rfl, rfl, by simp [PyData.depth]⟩
  | .bl b, n, _ => ⟨.bool b, rfl, rfl, by simp [PyData.depth]⟩
  | .int i, n, _ => ⟨.int i, rfl, rfl, by simp [PyData.depth]⟩
  | .str s, n, h => by
    refine ⟨.str s, rfl, ?_, by simp [PyData.depth]⟩
    have h' : (s.cps.all fun c => decide (c < 0x110000)) = true := by cases n <;> exact h
    simp only [PyData.canLay0]
    exact h'
  | .dct _ _, n, h => by cases n <;> (unfold plD at h; cases h)
  | .ins _ _ _, n, h => by cases n <;> (unfold plD at h; cases h)
  | .exn _, n, h => by cases n <;> (unfold plD at h; cases h)
  | .tup ds, 0, h => by unfold plD at h; cases h
  | .lst ds, 0, h => by unfold plD at h; cases h
  | .tup ds, n + 1, h => by
    unfold plD at h
    obtain ⟨ps, h1, h2, h3⟩ := plDL_ok ds n h
    exact ⟨.tuple ps, by unfold D.py; rw [h1]; rfl, by simp only [PyData.canLay0]; exact h2, by simp only [PyData.depth]; omega⟩
  | .lst ds, n + 1, h => by
    unfold plD at h
    obtain ⟨ps, h1, h2, h3⟩ := plDL_ok ds n h
    exact ⟨.list ps, by unfold D.py; rw [h1]; rfl, by simp only [PyData.canLay0]; exact h2, by simp only [PyData.depth]; omega⟩
theorem plDL_ok : ∀ (ds : List D) (n : Nat), plDL n ds = true → ∃ ps, D.pyL ds = some ps ∧ PyData.canLayAll0 ps = true ∧ PyData.depthAll ps ≤ n
  | [], n, _ => ⟨[], rfl, rfl, by simp [PyData.depthAll]⟩
  | d :: ds, n, h => by
    unfold plDL at h
    rw [Bool.and_eq_true] at h
    obtain ⟨p, h1, h2, h3⟩ := plD_ok d n h.1
    obtain ⟨ps, g1, g2, g3⟩ := plDL_ok ds n h.2
    refine ⟨p :: ps, by unfold D.pyL; rw [h1, g1], by simp only [PyData.canLayAll0, h2, g2]; rfl, ?_⟩
    simp only [PyData.depthAll]
    omega
end
theorem eqD_refl {d : D} (h : plD 60 d = true) : eqD d d = some true := by
  obtain ⟨p, h1, h2, h3⟩ := plD_ok d 60 h
  unfold eqD
  rw [h1]
  have s : PySem.SeqAt.shaped p = true := by
    unfold PySem.SeqAt.shaped
    rw [h2]
    simp; omega
  simp only
  rw [if_pos ⟨s, s⟩, PySem.SeqAt.eqv_refl p h2]
theorem cmpF_refl {d : D} (h : plD 60 d = true) : cmpF .eq (.cl d) (.cl d) = .ok (.cl (.bl true)) := by
  show (R.of (eqD d d)).bind _ = _
  rw [eqD_refl h]; rfl
theorem cmpF_nrefl {d : D} (h : plD 60 d = true) : cmpF .ne (.cl d) (.cl d) = .ok (.cl (.bl false)) := by
  show (R.of ((eqD d d).map (!·))).bind _ = _
  rw [eqD_refl h]; rfl
theorem plDL_map {β : Type} (f : β → D) (n : Nat) : ∀ xs : List β, (∀ x ∈ xs, plD n (f x) = true) → plDL n (xs.map f) = true
  | [], _ => by unfold plDL; rfl
  | x :: xs, h => by
    rw [List.map_cons]
    unfold plDL
    rw [h x List.mem_cons_self, plDL_map f n xs (fun x hx => h x (List.mem_cons_of_mem _ hx))]
    rfl
theorem plD_lst {β : Type} (f : β → D) (xs : List β) (h : ∀ x ∈ xs, plD 59 (f x) = true) : plD 60 (.lst (xs.map f)) = true := by
  unfold plD
  exact plDL_map f 59 xs h
end Mo
namespace Mo
open PySem PySem.Spec PyProof.Rows L2
/-! ### spans -/
abbrev Span := Int × Option Int
def optD : Option Int → D
  | some e => .int e
  | none => .non
def spD (s : Span) : D := .tup [.int s.1, optD s.2]
def below (t : Int) : Option Int → Bool
  | none => true
  | some e => decide (t < e)
def inB (s : Span) (t : Int) : Bool := decide (s.1 ≤ t) && below t s.2
def Valid (s : Span) : Prop := ∀ e, s.2 = some e → s.1 < e
def laterO : Option Int → Option Int → Option Int
  | some a, some b => some (if b > a then b else a)
  | _, _ => none
def touch (c : Int) : Option Int → Bool
  | none => true
  | some e => decide (c ≤ e)
/-- joined, from behind -/
def jstep : List Span → Span → List Span
  | [], s => [s]
  | (b, u) :: r, s => if touch s.1 u then (b, laterO u s.2) :: r else s :: (b, u) :: r
def joinR (ps : List Span) : List Span := ps.foldl jstep []
def joinF (ps : List Span) : List Span := (joinR ps).reverse
/-- whether the last one, the first from behind, has no end -/
def endR : List Span → Bool
  | [] => false
  | s :: _ => s.2.isNone
structure Jn (R P : List Span) : Prop where
  apart : R.Pairwise fun s' s => ∃ e, s.2 = some e ∧ e < s'.1
  valid : ∀ s ∈ R, Valid s
  in_ : ∀ t, R.any (inB · t) = P.any (inB · t)
  end_ : R.any (·.2.isNone) = P.any (·.2.isNone)
theorem jn_step {R P : List Span} {s : Span} (h : Jn R P) (hb : ∀ q ∈ R, q.1 ≤ s.1) (hv : Valid s) : Jn (jstep R s) (P ++ [s]) ∧ ∀ q ∈ jstep R s, q.1 ≤ s.1 := by
  obtain ⟨c, v⟩ := s
  have any2 : ∀ (f : Span → Bool), (P ++ [(c, v)]).any f = (P.any f || f (c, v)) := fun f => by simp
  cases R with
  | nil =>
    refine ⟨⟨by simp [jstep], fun q hq => ?_, fun t => ?_, ?_⟩, fun q hq => ?_⟩
    · simp [jstep] at hq; subst hq; exact hv
    · rw [any2, ← h.in_]; simp [jstep]
    · rw [any2, ← h.end_]; simp [jstep]
    · simp [jstep] at hq; subst hq; exact Int.le_refl _
  | cons a r =>
    obtain ⟨b, u⟩ := a
    have hbc : b ≤ c := hb (b, u) List.mem_cons_self
    have ap := List.pairwise_cons.mp h.apart
    have va : Valid (b, u) := h.valid _ List.mem_cons_self
    unfold jstep
    by_cases ht : touch c u = true
    · simp only [ht, if_true]
      refine ⟨⟨?_, fun q hq => ?_, fun t => ?_, ?_⟩, fun q hq => ?_⟩
      · exact List.pairwise_cons.mpr ⟨ap.1, ap.2⟩
      · rcases List.mem_cons.mp hq with z | z
        · subst z
          intro e he
          cases u with
          | none => simp [laterO] at he
          | some e0 =>
            cases v with
            | none => simp [laterO] at he
            | some f =>
              have := va e0 rfl
              simp only [laterO, Option.some.injEq] at he
              simp only at this ⊢
              split at he <;> omega
        · exact h.valid q (List.mem_cons_of_mem _ z)
      · rw [any2, ← h.in_ t]
        simp only [List.any_cons]
        have key : inB (b, laterO u v) t = (inB (b, u) t || inB (c, v) t) := by
          rw [Bool.eq_iff_iff]
          cases u with
          | none => simp [inB, below, laterO]; cases v <;> simp <;> omega
          | some e0 =>
            have := va e0 rfl
            simp [touch] at ht
            simp only at this
            cases v with
            | none => simp [inB, below, laterO]; omega
            | some f =>
              simp only [inB, below, laterO, Bool.and_eq_true, Bool.or_eq_true, decide_eq_true_eq]
              split <;> omega
        rw [key]
        cases inB (b, u) t <;> cases inB (c, v) t <;> cases r.any (inB · t) <;> rfl
      · rw [any2, ← h.end_]
        simp only [List.any_cons]
        have key : (laterO u v).isNone = (u.isNone || v.isNone) := by cases u <;> cases v <;> rfl
        rw [key]
        cases u.isNone <;> cases v.isNone <;> cases r.any (·.2.isNone) <;> rfl
      · rcases List.mem_cons.mp hq with z | z
        · subst z; exact hbc
        · exact hb q (List.mem_cons_of_mem _ z)
    · simp only [ht]
      cases u with
      | none => exact absurd rfl ht
      | some e0 =>
        simp [touch] at ht
        refine ⟨⟨?_, fun q hq => ?_, fun t => ?_, ?_⟩, fun q hq => ?_⟩
        · refine List.pairwise_cons.mpr ⟨fun q hq => ?_, h.apart⟩
          rcases List.mem_cons.mp hq with z | z
          · subst z; exact ⟨e0, rfl, ht⟩
          · obtain ⟨e, h1, h2⟩ := ap.1 q z
            simp only at h2 ⊢
            exact ⟨e, h1, by omega⟩
        · rcases List.mem_cons.mp hq with z | z
          · subst z; exact hv
          · exact h.valid q z
        · rw [any2, ← h.in_ t, List.any_cons]; exact Bool.or_comm _ _
        · rw [any2, ← h.end_, List.any_cons]; exact Bool.or_comm _ _
        · rcases List.mem_cons.mp hq with z | z
          · subst z; exact Int.le_refl _
          · exact hb q z
theorem joinR_ok : ∀ {ps : List Span} {R P : List Span}, Jn R P → (∀ q ∈ R, ∀ s ∈ ps, q.1 ≤ s.1) → ps.Pairwise (fun a b => a.1 ≤ b.1) → (∀ s ∈ ps, Valid s) → Jn (ps.foldl jstep R) (P ++ ps)
  | [], R, P, h, _, _, _ => by simpa using h
  | s :: ps, R, P, h, hb, hs, hv => by
    have s1 := List.pairwise_cons.mp hs
    obtain ⟨h1, h2⟩ := jn_step h (fun q hq => hb q hq s List.mem_cons_self) (hv s List.mem_cons_self)
    have := joinR_ok (ps := ps) h1 (fun q hq s' hs' => Int.le_trans (h2 q hq) (s1.1 s' hs')) s1.2 (fun s hs => hv s (List.mem_cons_of_mem _ hs))
    simpa using this
/-- rising, from a turn on -/
def Rise : Int → List Span → Prop
  | _, [] => True
  | l, s :: J => l < s.1 ∧ Valid s ∧ match s.2 with
    | none => J = []
    | some e => Rise e J
theorem rise_of : ∀ {J : List Span} {l : Int}, J.Pairwise (fun s s' => ∃ e, s.2 = some e ∧ e < s'.1) → (∀ s ∈ J, Valid s) → (∀ s ∈ J, l < s.1) → Rise l J
  | [], _, _, _, _ => trivial
  | s :: J, l, h, hv, hl => by
    have s1 := List.pairwise_cons.mp h
    refine ⟨hl s List.mem_cons_self, hv s List.mem_cons_self, ?_⟩
    obtain ⟨b, u⟩ := s
    cases u with
    | none =>
      cases J with
      | nil => rfl
      | cons q J => obtain ⟨e, z, _⟩ := s1.1 q List.mem_cons_self; cases z
    | some e =>
      refine rise_of s1.2 (fun s hs => hv s (List.mem_cons_of_mem _ hs)) fun q hq => ?_
      obtain ⟨e', z, w⟩ := s1.1 q hq
      cases z; exact w
/-- how many of some spans have a turn -/
def cnt (ps : List Span) (t : Int) : Nat := (ps.filter (inB · t)).length
theorem cnt_any (ps : List Span) (t : Int) : min 1 (cnt ps t) = if ps.any (inB · t) then 1 else 0 := by
  unfold cnt
  induction ps with
  | nil => rfl
  | cons s r ih =>
    rw [List.filter_cons, List.any_cons]
    cases inB s t with
    | true => simp
    | false => rw [Bool.false_or]; exact ih
theorem rise_below : ∀ {J : List Span} {l t : Int}, Rise l J → t ≤ l → cnt J t = 0
  | [], _, _, _, _ => rfl
  | s :: J, l, t, h, ht => by
    obtain ⟨h1, h2, h3⟩ := h
    have e1 : inB s t = false := by
      unfold inB
      have : decide (s.1 ≤ t) = false := by simp; omega
      rw [this]; rfl
    unfold cnt
    rw [List.filter_cons, e1]
    simp only [Bool.false_eq_true, if_false]
    obtain ⟨b, u⟩ := s
    cases u with
    | none => simp only at h3; subst h3; rfl
    | some e => exact rise_below (l := e) h3 (by have := h2 e rfl; simp only at h1 this; omega)
theorem rise_cnt : ∀ {J : List Span} {l : Int} (t : Int), Rise l J → cnt J t ≤ 1
  | [], _, _, _ => Nat.zero_le _
  | s :: J, l, t, h => by
    obtain ⟨h1, h2, h3⟩ := h
    obtain ⟨b, u⟩ := s
    have rest : ∀ e, u = some e → cnt J t ≤ 1 := fun e z => by subst z; exact rise_cnt t h3
    unfold cnt
    rw [List.filter_cons]
    cases u with
    | none => simp only at h3; subst h3; split <;> simp
    | some e =>
      split
      · rename_i q
        have : cnt J t = 0 := rise_below (l := e) h3 (by unfold inB below at q; simp at q; omega)
        unfold cnt at this
        rw [List.length_cons, this]
        exact Nat.le_refl _
      · exact rest e rfl
theorem cnt_one {J P : List Span} {l t : Int} (h : Rise l J) (e : J.any (inB · t) = P.any (inB · t)) : cnt J t = min 1 (cnt P t) := by
  have := rise_cnt t h
  rw [cnt_any, ← e, ← cnt_any]
  omega
/-- all that is asked of joined -/
theorem joinF_ok {ps sps : List Span} (hp : ps.Perm sps) (hs : ps.Pairwise (fun a b => a.1 ≤ b.1)) (hv : ∀ s ∈ sps, Valid s) {l : Int} (hl : ∀ s ∈ sps, l < s.1) :
    Rise l (joinF ps) ∧ (∀ t, cnt (joinF ps) t = min 1 (cnt sps t)) ∧ sps.any (·.2.isNone) = endR (joinR ps) := by
  have hv' : ∀ s ∈ ps, Valid s := fun s h => hv s (hp.mem_iff.mp h)
  have J := joinR_ok (ps := ps) (R := []) (P := []) ⟨.nil, by simp, fun t => rfl, rfl⟩ (by simp) hs hv'
  rw [List.nil_append] at J
  have jb : ∀ {ps R : List Span}, (∀ q ∈ R, l < q.1) → (∀ q ∈ ps, l < q.1) → ∀ q ∈ ps.foldl jstep R, l < q.1 := fun {ps} => by
    induction ps with
    | nil => exact fun h _ => h
    | cons s ps ih =>
      intro R h h2
      refine ih (fun q hq => ?_) (fun q hq => h2 q (List.mem_cons_of_mem _ hq))
      cases R with
      | nil => simp [jstep] at hq; subst hq; exact h2 _ List.mem_cons_self
      | cons a r =>
        obtain ⟨b, u⟩ := a
        have e : jstep ((b, u) :: r) s = if touch s.1 u then (b, laterO u s.2) :: r else s :: (b, u) :: r := rfl
        rw [e] at hq
        by_cases ht : touch s.1 u = true
        · rw [if_pos ht] at hq
          rcases List.mem_cons.mp hq with z | z
          · subst z; exact h (b, u) List.mem_cons_self
          · exact h q (List.mem_cons_of_mem _ z)
        · rw [if_neg ht] at hq
          rcases List.mem_cons.mp hq with z | z
          · subst z; exact h2 _ List.mem_cons_self
          · exact h q z
  have ri : Rise l (joinF ps) := by
    refine rise_of ?_ (fun s hs => J.valid s (List.mem_reverse.mp hs)) (fun s hs => jb (by simp) (fun q hq => hl q (hp.mem_iff.mp hq)) s (List.mem_reverse.mp hs))
    unfold joinF
    rw [List.pairwise_reverse]
    exact J.apart
  refine ⟨ri, fun t => cnt_one ri ?_, ?_⟩
  · unfold joinF
    rw [List.any_reverse]
    show (joinR ps).any _ = _
    have := J.in_ t
    unfold joinR
    rw [this]
    exact hp.any_eq
  · have := J.end_
    have e : ps.any (·.2.isNone) = sps.any (·.2.isNone) := hp.any_eq
    rw [← e, ← this]
    show (joinR ps).any _ = _
    have ap := J.apart
    change (joinR ps).Pairwise _ at ap
    cases hj : joinR ps with
    | nil => rfl
    | cons s r =>
      rw [hj] at ap
      have s1 := List.pairwise_cons.mp ap
      rw [List.any_cons]
      have : r.any (·.2.isNone) = false := by
        rw [List.any_eq_false]
        intro q hq z
        obtain ⟨e, h1, _⟩ := s1.1 q hq
        rw [h1] at z; cases z
      rw [this, Bool.or_false]
      rfl
/-- sorted by the begin -/
def unD : D → Span
  | .tup [.int b, .int e] => (b, some e)
  | .tup [.int b, .non] => (b, none)
  | _ => (0, none)
theorem un_sp (s : Span) : unD (spD s) = s := by
  obtain ⟨b, u⟩ := s
  cases u <;> rfl
theorem keyJ_sp (s : Span) : keyJ 0 (spD s) = some s.1 := rfl
theorem sort_sp (sps : List Span) : ∃ ps : List Span, sortKD 0 (sps.map spD) = ps.map spD ∧ ps.Perm sps ∧ ps.Pairwise (fun a b => a.1 ≤ b.1) := by
  have pm : (sortKD 0 (sps.map spD)).Perm (sps.map spD) := List.mergeSort_perm _ _
  have so : (sortKD 0 (sps.map spD)).Pairwise (fun a b => decide (keyN 0 a ≤ keyN 0 b) = true) := List.pairwise_mergeSort (fun a b c h1 h2 => by simp only [decide_eq_true_eq] at *; omega) (fun a b => by simp only [Bool.or_eq_true, decide_eq_true_eq]; omega) _
  have all : ∀ d ∈ sortKD 0 (sps.map spD), spD (unD d) = d := fun d hd => by
    obtain ⟨s, _, rfl⟩ := List.mem_map.mp (pm.mem_iff.mp hd)
    rw [un_sp]
  have e : sortKD 0 (sps.map spD) = ((sortKD 0 (sps.map spD)).map unD).map spD := by
    rw [List.map_map]
    conv => lhs; rw [← List.map_id (sortKD 0 (sps.map spD))]
    exact List.map_congr_left fun d hd => (all d hd).symm
  refine ⟨_, e, ?_, ?_⟩
  · have := pm.map unD
    rw [List.map_map] at this
    have e2 : (unD ∘ spD) = id := funext un_sp
    rwa [e2, List.map_id] at this
  · rw [e, List.pairwise_map] at so
    exact so.imp fun {a b} h => by
      simp only [decide_eq_true_eq] at h
      exact h
end Mo
namespace Mo
open PySem PySem.Spec PyProof.Rows L2
/-! ### rows of spans in the interpreter -/
theorem ixN_last (n : Nat) : ixN (n + 1) (-1) = some n := by
  unfold ixN
  rw [if_neg (by omega), if_pos (by omega)]
  congr 1
  omega
theorem atI_last {α : Type} (xs : List α) (x : α) : atI (xs ++ [x]) (-1) = some x := by
  refine atI_of (j := xs.length) ?_ ?_
  · rw [List.length_append]; exact ixN_last _
  · simp
theorem idx_tmL (ms : List MO) (d : D) : idx (.tm (.lst (ms ++ [.cl d]))) (.cl (.int (-1))) = some (.cl d) := by
  simp [idx, atI_last]
theorem idx_lkL (ms : List MO) (d : D) : idx (.lk (.lst (ms ++ [.cl d]))) (.cl (.int (-1))) = some (.cl d) := by
  simp [idx, atI_last]
theorem idx_clL (ms : List D) (d : D) : idx (.cl (.lst (ms ++ [d]))) (.cl (.int (-1))) = some (.cl d) := idx_lst (atI_last _ _)
theorem evS_ins (c : Calls) {sl : Sl} {i : Nat} {a e : E} {ms : List MO} {n : Int} {x : XV} {m : MO} (h : sl[i]? = some (.ow (.lst ms))) (ha : evE c a sl = .ok (.cl (.int n))) (he : evE c e sl = .ok x) (hx : x.item = some m) (hl : ms.length < 1000000) (h0 : 0 ≤ n) (h1 : n < 2 ^ 63) : evS c (.pins (.v i) a e) sl = some (.nx (sl.set i (.ow (.lst (ms.take n.toNat ++ [m] ++ ms.drop n.toNat))))) := by
  have hl' : ms.length < sizeLine := Nat.lt_of_lt_of_le hl (by decide)
  simp only [evS_pins, plF_v, ptV_ow h, out_ok, isL_lst, if_true, ha, he]
  unfold pinsF
  simp only [hx]
  rw [if_pos ⟨hl', h0, h1⟩, putS_ow h]
theorem evS_stl (c : Calls) {sl : Sl} {i j : Nat} {k e : E} {ms : List MO} {n : Int} {x : XV} {m : MO} (h : sl[i]? = some (.ow (.lst ms))) (he : evE c e sl = .ok x) (hk : evE c k sl = .ok (.cl (.int n))) (hx : x.item = some m) (hj : ixN ms.length n = some j) : evS c (.pst (.v i) k e) sl = some (.nx (sl.set i (.ow (.lst (ms.set j m))))) := by
  simp only [evS_pst, he, out_ok, plF_v, ptV_ow h, hk]
  unfold pstF
  simp only [hx, hj]
  rw [putS_ow h]
@[simp] theorem isNF_opt (u : Option Int) : isNF (.cl (optD u)) = some u.isNone := by cases u <;> rfl
@[simp] theorem optD_none : optD none = .non := rfl
@[simp] theorem optD_some (e : Int) : optD (some e) = .int e := rfl
theorem jstep_len (R : List Span) (s : Span) : (jstep R s).length ≤ R.length + 1 := by
  cases R with
  | nil => simp [jstep]
  | cons a r =>
    have e : jstep (a :: r) s = if touch s.1 a.2 then (a.1, laterO a.2 s.2) :: r else s :: a :: r := rfl
    rw [e]
    split <;> simp
theorem joinR_len : ∀ (ps R : List Span), (ps.foldl jstep R).length ≤ R.length + ps.length
  | [], R => Nat.le_refl _
  | s :: ps, R => by
    have := joinR_len ps (jstep R s)
    have := jstep_len R s
    simp only [List.foldl_cons, List.length_cons]
    omega
abbrev spM (s : Span) : MO := .cl (spD s)
theorem idx_sp0 (s : Span) : idx (.cl (spD s)) (.cl (.int 0)) = some (.cl (.int s.1)) := idxT0
theorem idx_sp1 (s : Span) : idx (.cl (spD s)) (.cl (.int 1)) = some (.cl (optD s.2)) := idxT1
/-- a row of spans that is handed to a def -/
structure Row (a : SV) (x : XV) (J : List Span) : Prop where
  ax : a.x = some x
  arg : x.arg = some a
  no : noBo [a] = true
  bo : boOk 0 [a] = true
  it : itF x = .ok (.ds (J.map spD))
  lst : isiF .list x = .ok (.cl (.bl true))
  len : lenB [x] = some (.cl (.int J.length))
  last : ∀ q s, J = q ++ [s] → idx x (.cl (.int (-1))) = some (.cl (spD s))
theorem row_cl (J : List Span) : Row (.cl (.lst (J.map spD))) (.cl (.lst (J.map spD))) J :=
  ⟨rfl, rfl, rfl, rfl, rfl, rfl, by simp, fun q s e => by rw [e, List.map_append]; exact idx_clL _ _⟩
theorem row_lk (J : List Span) : Row (.lk (.lst (J.map spM))) (.lk (.lst (J.map spM))) J :=
  ⟨rfl, rfl, rfl, rfl, itF_lk spD J, rfl, by simp, fun q s e => by rw [e, List.map_append]; exact idx_lkL _ _⟩
theorem Row.args {a : SV} {x : XV} {J : List Span} (r : Row a x J) (xs : List XV) : argsOf (x :: xs) = (argsOf xs).map (a :: ·) := by
  cases h : argsOf xs <;> simp only [argsOf, r.arg, h] <;> rfl
theorem Row.no2 {a : SV} {x : XV} {J : List Span} (r : Row a x J) (xs : List SV) (h : noBo xs = true) : noBo (a :: xs) = true := by
  have := r.no
  cases a <;> first | (cases this; done) | exact h
theorem Row.bo2 {a : SV} {x : XV} {J : List Span} (r : Row a x J) (xs : List SV) (h : boOk 0 xs = true) : boOk 0 (a :: xs) = true := by
  have := r.no
  have := r.bo
  cases a <;> first | (cases ‹noBo _ = true›; done) | (cases ‹boOk _ _ = true›; done) | exact h
theorem pl_sp (s : Span) : plD 59 (spD s) = true := by
  obtain ⟨b, u⟩ := s
  cases u <;> rfl
theorem sps_ne (sps : List Span) : cmpF .ne (.cl (.lst (sps.map spD))) (.cl (.lst (sps.map spD))) = .ok (.cl (.bl false)) := cmpF_nrefl (plD_lst spD sps fun s _ => pl_sp s)
theorem toDL_comp {β : Type} (f : β → D) (xs : List β) : MO.toDL (xs.map (MO.cl ∘ f)) = xs.map f := toDL_map f xs
theorem rise_any : ∀ {J : List Span} {l : Int}, Rise l J → endR J.reverse = J.any (·.2.isNone)
  | [], _, _ => rfl
  | (b, u) :: J, l, h => by
    obtain ⟨h1, h2, h3⟩ := h
    cases u with
    | none =>
      simp only at h3
      subst h3
      rfl
    | some e =>
      have ih := rise_any h3
      rw [List.any_cons, ← ih, List.reverse_cons]
      cases J.reverse <;> rfl
/-! ### the gaps -/
def gapsF : Int → List Span → List Span
  | at_, [] => [(at_, none)]
  | at_, (b, u) :: J => (if b > at_ then [(at_, some b)] else []) ++ match u with
    | none => []
    | some e => gapsF e J
theorem gapsF_cons (at_ b : Int) (u : Option Int) (J : List Span) : gapsF at_ ((b, u) :: J) = (if b > at_ then [(at_, some b)] else []) ++ match u with
    | none => []
    | some e => gapsF e J := by
  conv => lhs; unfold gapsF
theorem rise_mono : ∀ {J : List Span} {l l' : Int}, Rise l J → l' ≤ l → Rise l' J
  | [], _, _, _, _ => trivial
  | s :: J, l, l', ⟨h1, h2, h3⟩, h => ⟨by omega, h2, h3⟩
theorem gaps_rise : ∀ {J : List Span} {l at_ : Int}, l < at_ → Rise (at_ - 1) J → Rise l (gapsF at_ J)
  | [], l, at_, h, _ => ⟨h, (fun e z => by cases z), rfl⟩
  | (b, u) :: J, l, at_, h, hr => by
    obtain ⟨h1, h2, h3⟩ := hr
    simp only at h1
    unfold gapsF
    by_cases z : b > at_
    · rw [if_pos z]
      refine ⟨h, fun e q => by cases q; exact z, ?_⟩
      cases u with
      | none => trivial
      | some e => 
        have q := h2 e rfl
        simp only at q
        refine gaps_rise q ?_
        exact rise_mono h3 (by omega)
    · rw [if_neg z, List.nil_append]
      cases u with
      | none => trivial
      | some e =>
        have q := h2 e rfl
        simp only at q
        exact gaps_rise (by omega) (rise_mono h3 (by omega))
theorem cnt_cons (s : Span) (J : List Span) (t : Int) : cnt (s :: J) t = (if inB s t then 1 else 0) + cnt J t := by
  unfold cnt
  rw [List.filter_cons]
  cases inB s t <;> simp <;> omega
theorem gaps_cnt : ∀ {J : List Span} {at_ t : Int}, at_ ≤ t → Rise (at_ - 1) J → cnt (gapsF at_ J) t + cnt J t = 1
  | [], at_, t, h, _ => by
    unfold gapsF
    rw [cnt_cons]
    simp [inB, below, h, cnt]
  | (b, u) :: J, at_, t, h, hr => by
    have hr0 := hr
    obtain ⟨h1, h2, h3⟩ := hr
    simp only at h1
    have app : ∀ (q : List Span), cnt ((if b > at_ then [(at_, some b)] else []) ++ q) t = (if at_ < b ∧ t < b then 1 else 0) + cnt q t := fun q => by
      by_cases z : b > at_
      · rw [if_pos z, List.cons_append, List.nil_append, cnt_cons]
        congr 1
        by_cases w : t < b <;> simp [inB, below, h, w, z]
      · rw [if_neg z, List.nil_append, if_neg (by omega)]
        omega
    unfold gapsF
    rw [app, cnt_cons]
    cases u with
    | none =>
      simp only at h3
      subst h3
      by_cases z : t < b
      · have e1 : inB (b, none) t = false := by simp [inB]; omega
        rw [e1, if_pos ⟨by omega, z⟩]; rfl
      · have e1 : inB (b, none) t = true := by simp [inB, below]; omega
        rw [e1, if_neg (by omega)]; rfl
    | some e =>
      have q := h2 e rfl
      simp only at q
      by_cases z : t < e
      · have c1 : cnt J t = 0 := rise_below h3 (by omega)
        have c2 : cnt (gapsF e J) t = 0 := rise_below (l := e - 1) (gaps_rise (by omega) (rise_mono h3 (by omega))) (by omega)
        simp only
        rw [c1, c2]
        by_cases w : t < b
        · have e1 : inB (b, some e) t = false := by simp [inB]; omega
          rw [e1, if_pos ⟨by omega, w⟩]; rfl
        · have e1 : inB (b, some e) t = true := by simp [inB, below]; omega
          rw [e1, if_neg (by omega)]; rfl
      · have ih := gaps_cnt (J := J) (at_ := e) (t := t) (by omega) (rise_mono h3 (by omega))
        have e1 : inB (b, some e) t = false := by simp [inB, below]; omega
        simp only
        rw [e1, if_neg (by omega)]
        simp; omega
theorem gaps_end : ∀ {J : List Span} {at_ l : Int}, Rise l J → (gapsF at_ J).any (·.2.isNone) = !J.any (·.2.isNone)
  | [], _, _, _ => rfl
  | (b, u) :: J, at_, l, h => by
    obtain ⟨h1, h2, h3⟩ := h
    have app : ∀ (q : List Span), ((if b > at_ then [(at_, some b)] else []) ++ q).any (·.2.isNone) = q.any (·.2.isNone) := fun q => by
      split <;> simp
    unfold gapsF
    rw [app]
    cases u with
    | none => rfl
    | some e => simp only; rw [gaps_end h3]; rfl
theorem gaps_len : ∀ (J : List Span) (at_ : Int), (gapsF at_ J).length ≤ J.length + 1
  | [], _ => Nat.le_refl _
  | (b, u) :: J, at_ => by
    unfold gapsF
    cases u with
    | none => split <;> simp
    | some e =>
      have := gaps_len J e
      split <;> simp <;> omega
end Mo
namespace Mo
open PySem PySem.Spec PyProof.Rows L2
/-! ### loads -/
abbrev Load := Span × Int
def ldD (l : Load) : D := .tup [.int l.1.1, optD l.1.2, .int l.2]
/-- how much lies in a turn -/
def lyF (ls : List Load) (t : Int) : Int := ((ls.filter fun l => inB l.1 t).map (·.2)).sum
def kput (K : List Int) (k : Int) : List Int := if k ∈ K then K else K ++ [k]
def kstep (K : List Int) (l : Load) : List Int := match l.1.2 with
  | none => kput K l.1.1
  | some e => kput (kput K l.1.1) e
/-- the marks -/
def marksF (ls : List Load) : List Int := ls.foldl kstep []
theorem kput_mem {K : List Int} {k x : Int} : x ∈ kput K k ↔ x ∈ K ∨ x = k := by
  unfold kput
  split
  · rename_i h
    exact ⟨.inl, fun z => z.elim id fun e => e ▸ h⟩
  · simp
theorem kput_nd {K : List Int} {k : Int} (h : K.Nodup) : (kput K k).Nodup := by
  unfold kput
  split
  · exact h
  · rename_i q
    rw [List.nodup_append]
    exact ⟨h, by simp, fun a ha b hb => by simp at hb; subst hb; exact fun z => q (z ▸ ha)⟩
theorem kput_len (K : List Int) (k : Int) : (kput K k).length ≤ K.length + 1 := by
  unfold kput; split <;> simp
theorem kstep_mem {K : List Int} {l : Load} {x : Int} : x ∈ kstep K l ↔ x ∈ K ∨ x = l.1.1 ∨ l.1.2 = some x := by
  unfold kstep
  cases h : l.1.2 with
  | none => simp [kput_mem]
  | some e =>
    simp only [kput_mem, Option.some.injEq]
    constructor
    · rintro ((z | z) | z)
      · exact .inl z
      · exact .inr (.inl z)
      · exact .inr (.inr z.symm)
    · rintro (z | z | z)
      · exact .inl (.inl z)
      · exact .inl (.inr z)
      · exact .inr z.symm
theorem kstep_nd {K : List Int} {l : Load} (h : K.Nodup) : (kstep K l).Nodup := by
  unfold kstep
  cases l.1.2 with
  | none => exact kput_nd h
  | some e => exact kput_nd (kput_nd h)
theorem kstep_len (K : List Int) (l : Load) : (kstep K l).length ≤ K.length + 2 := by
  unfold kstep
  cases l.1.2 with
  | none => have := kput_len K l.1.1; simp only; omega
  | some e => have := kput_len K l.1.1; have := kput_len (kput K l.1.1) e; simp only; omega
theorem marks_all : ∀ (ls : List Load) (K : List Int), K.Nodup → (ls.foldl kstep K).Nodup ∧ (ls.foldl kstep K).length ≤ K.length + 2 * ls.length ∧ ∀ x, x ∈ ls.foldl kstep K ↔ x ∈ K ∨ ∃ l ∈ ls, x = l.1.1 ∨ l.1.2 = some x
  | [], K, h => ⟨h, by simp, fun x => by simp⟩
  | l :: ls, K, h => by
    obtain ⟨h1, h2, h3⟩ := marks_all ls (kstep K l) (kstep_nd h)
    have := kstep_len K l
    refine ⟨h1, by simp only [List.foldl_cons, List.length_cons]; omega, fun x => ?_⟩
    rw [List.foldl_cons, h3, kstep_mem]
    simp only [List.mem_cons, exists_eq_or_imp]
    exact or_assoc
/-- the marks in their order -/
theorem sort_marks {K : List Int} (h : K.Nodup) : (sortI K).Pairwise (· < ·) ∧ ∀ x, x ∈ sortI K ↔ x ∈ K := by
  have pm : (sortI K).Perm K := List.mergeSort_perm _ _
  have so : (sortI K).Pairwise (fun a b => decide (a ≤ b) = true) := List.pairwise_mergeSort (fun a b c h1 h2 => by simp only [decide_eq_true_eq] at *; omega) (fun a b => by simp only [Bool.or_eq_true, decide_eq_true_eq]; omega) _
  have nd : (sortI K).Nodup := pm.nodup_iff.mpr h
  refine ⟨?_, fun x => pm.mem_iff⟩
  exact (so.and nd).imp fun {a b} h => by
    have h1 := of_decide_eq_true h.1
    have h2 := h.2
    omega
/-- the crowded stretches -/
def crF (ly : Int → Int) (most : Int) : List Int → List Span
  | [] => []
  | t :: r => (if ly t > most then [(t, r.head?)] else []) ++ crF ly most r
theorem crF_mem {ly : Int → Int} {most : Int} : ∀ {R : List Int} {s : Span}, R.Pairwise (· < ·) → s ∈ crF ly most R → s.1 ∈ R ∧ Valid s
  | [], s, _, h => by cases h
  | t :: r, s, hp, h => by
    have p1 := List.pairwise_cons.mp hp
    unfold crF at h
    rcases List.mem_append.mp h with z | z
    · split at z
      · rw [List.mem_singleton] at z
        subst z
        refine ⟨List.mem_cons_self, fun e he => ?_⟩
        exact p1.1 e (List.mem_of_mem_head? he)
      · cases z
    · obtain ⟨h1, h2⟩ := crF_mem p1.2 z
      exact ⟨List.mem_cons_of_mem _ h1, h2⟩
theorem crF_len (ly : Int → Int) (most : Int) : ∀ R : List Int, (crF ly most R).length ≤ R.length
  | [] => Nat.le_refl _
  | t :: r => by
    have := crF_len ly most r
    unfold crF
    split <;> simp <;> omega
theorem crF_below {ly : Int → Int} {most : Int} : ∀ {R : List Int} {t : Int}, (∀ x ∈ R, t < x) → (crF ly most R).any (inB · t) = false := fun {R t} h => by
  rw [List.any_eq_false]
  intro s hs z
  have : s.1 ∈ R := by
    clear z h
    induction R with
    | nil => cases hs
    | cons a r ih =>
      unfold crF at hs
      rcases List.mem_append.mp hs with z | z
      · split at z
        · rw [List.mem_singleton] at z; subst z; exact List.mem_cons_self
        · cases z
      · exact List.mem_cons_of_mem _ (ih z)
  have := h _ this
  unfold inB at z
  simp only [Bool.and_eq_true, decide_eq_true_eq] at z
  omega
theorem crF_any {ly : Int → Int} {most : Int} {M : Int → Prop} (hc : ∀ a t, a ≤ t → (∀ x, M x → ¬ (a < x ∧ x ≤ t)) → ly a = ly t) : ∀ {R : List Int} {t0 t : Int}, (t0 :: R).Pairwise (· < ·) → (∀ x, M x → x ≤ t0 ∨ x ∈ R) → t0 ≤ t → (crF ly most (t0 :: R)).any (inB · t) = decide (ly t > most)
  | [], t0, t, hp, hm, h => by
    have e : ly t0 = ly t := hc t0 t h fun x hx z => by
      rcases hm x hx with q | q
      · omega
      · cases q
    unfold crF crF
    rw [e]
    by_cases z : ly t > most
    · rw [if_pos z]; simp [inB, below, h, z]
    · rw [if_neg z]; simp [z]
  | t1 :: R, t0, t, hp, hm, h => by
    have p1 := List.pairwise_cons.mp hp
    have lt := p1.1 t1 List.mem_cons_self
    have un : crF ly most (t0 :: t1 :: R) = (if ly t0 > most then [(t0, some t1)] else []) ++ crF ly most (t1 :: R) := rfl
    rw [un, List.any_append]
    by_cases q : t < t1
    · have e : ly t0 = ly t := hc t0 t h fun x hx z => by
        rcases hm x hx with w | w
        · omega
        · rcases List.mem_cons.mp w with w | w
          · omega
          · have := (List.pairwise_cons.mp p1.2).1 x w
            omega
      rw [crF_below (R := t1 :: R) (fun x hx => by
        rcases List.mem_cons.mp hx with w | w
        · omega
        · have := (List.pairwise_cons.mp p1.2).1 x w
          omega), e, Bool.or_false]
      by_cases z : ly t > most
      · rw [if_pos z]; simp [inB, below, h, q, z]
      · rw [if_neg z]; simp [z]
    · have ih := crF_any (most := most) hc (R := R) (t0 := t1) (t := t) p1.2 (fun x hx => by
        rcases hm x hx with w | w
        · exact .inl (by omega)
        · rcases List.mem_cons.mp w with w | w
          · exact .inl (by omega)
          · exact .inr w) (by omega)
      rw [ih]
      have : ((if ly t0 > most then [(t0, some t1)] else []) : List Span).any (inB · t) = false := by
        split
        · simp [inB, below]; omega
        · rfl
      rw [this, Bool.false_or]
theorem crF_end (ly : Int → Int) (most : Int) : ∀ R : List Int, (crF ly most R).any (·.2.isNone) = (match R.getLast? with | none => false | some t => decide (ly t > most))
  | [] => rfl
  | [t] => by
    unfold crF crF
    by_cases z : ly t > most
    · rw [if_pos z]; simp [z]
    · rw [if_neg z]; simp [z]
  | t :: t1 :: R => by
    have un : crF ly most (t :: t1 :: R) = (if ly t > most then [(t, some t1)] else []) ++ crF ly most (t1 :: R) := rfl
    rw [un, List.any_append, crF_end ly most (t1 :: R), List.getLast?_cons_cons]
    have : ((if ly t > most then [(t, some t1)] else []) : List Span).any (·.2.isNone) = false := by split <;> rfl
    rw [this, Bool.false_or]
theorem ly_const {ls : List Load} {a t : Int} (h : a ≤ t) (hm : ∀ l ∈ ls, ¬ (a < l.1.1 ∧ l.1.1 ≤ t) ∧ ∀ e, l.1.2 = some e → ¬ (a < e ∧ e ≤ t)) : lyF ls a = lyF ls t := by
  unfold lyF
  have : ls.filter (fun l => inB l.1 a) = ls.filter (fun l => inB l.1 t) := by
    refine List.filter_congr fun l hl => ?_
    obtain ⟨h1, h2⟩ := hm l hl
    obtain ⟨⟨b, u⟩, z⟩ := l
    rw [Bool.eq_iff_iff]
    cases u with
    | none => simp [inB, below] at *; omega
    | some e =>
      have := h2 e rfl
      simp [inB, below] at *
      omega
  rw [this]
theorem sum_nn : ∀ {l : List Int}, (∀ x ∈ l, 0 ≤ x) → 0 ≤ l.sum
  | [], _ => Int.le_refl _
  | x :: l, h => by
    have := sum_nn (l := l) fun x hx => h x (List.mem_cons_of_mem _ hx)
    have := h x List.mem_cons_self
    rw [List.sum_cons]
    omega
/-- all that is asked of crowded -/
theorem crowded_ok {ls : List Load} (hv : ∀ l ∈ ls, 0 ≤ l.1.1 ∧ Valid l.1) {most : Int} (h0 : 0 ≤ most) {ps : List Span} (hp : ps.Perm (crF (lyF ls) most (sortI (marksF ls)))) (hs : ps.Pairwise (fun a b => a.1 ≤ b.1)) :
    Rise (-2) (joinF ps) ∧ (∀ t, cnt (joinF ps) t = if lyF ls t > most then 1 else 0) ∧ decide (((ls.filter (·.1.2.isNone)).map (·.2)).sum > most) = endR (joinR ps) := by
  obtain ⟨nd, _, mm⟩ := marks_all ls [] List.nodup_nil
  change (marksF ls).Nodup at nd
  obtain ⟨s1, s2⟩ := sort_marks nd
  have mem : ∀ x, x ∈ sortI (marksF ls) ↔ ∃ l ∈ ls, x = l.1.1 ∨ l.1.2 = some x := fun x => by
    rw [s2]
    have := mm x
    rw [show marksF ls = ls.foldl kstep [] from rfl, this]
    simp
  have nn : ∀ x ∈ sortI (marksF ls), 0 ≤ x := fun x hx => by
    obtain ⟨l, hl, q | q⟩ := (mem x).mp hx
    · have := (hv l hl).1; omega
    · have := (hv l hl).1
      have := (hv l hl).2 x q
      omega
  have cm : ∀ s ∈ crF (lyF ls) most (sortI (marksF ls)), 0 ≤ s.1 ∧ Valid s := fun s hs => by
    obtain ⟨h1, h2⟩ := crF_mem s1 hs
    exact ⟨nn _ h1, h2⟩
  obtain ⟨k1, k2, k3⟩ := joinF_ok hp hs (fun s hs => (cm s hs).2) (l := -2) (fun s hs => by have := (cm s hs).1; omega)
  have hc : ∀ a t, a ≤ t → (∀ x, x ∈ sortI (marksF ls) → ¬ (a < x ∧ x ≤ t)) → lyF ls a = lyF ls t := fun a t h hx => ly_const h fun l hl => ⟨hx _ ((mem _).mpr ⟨l, hl, .inl rfl⟩), fun e he => hx e ((mem _).mpr ⟨l, hl, .inr he⟩)⟩
  have zero : ∀ t, (∀ l ∈ ls, t < l.1.1) → lyF ls t = 0 := fun t h => by
    unfold lyF
    rw [List.filter_eq_nil_iff.mpr fun l hl z => by
      have := h l hl
      unfold inB at z
      simp only [Bool.and_eq_true, decide_eq_true_eq] at z
      omega]
    rfl
  refine ⟨k1, fun t => ?_, ?_⟩
  · rw [k2, cnt_any]
    have : (crF (lyF ls) most (sortI (marksF ls))).any (inB · t) = decide (lyF ls t > most) := by
      cases hT : sortI (marksF ls) with
      | nil =>
        rw [zero t fun l hl => by
          have := (mem l.1.1).mpr ⟨l, hl, .inl rfl⟩
          rw [hT] at this; cases this]
        have : ¬ (0 > most) := by omega
        simp [crF, this]
      | cons t0 R =>
        rw [hT] at s1
        have p1 := List.pairwise_cons.mp s1
        by_cases q : t0 ≤ t
        · exact crF_any (M := fun x => x ∈ sortI (marksF ls)) hc s1 (fun x hx => by
            rw [hT] at hx
            rcases List.mem_cons.mp hx with w | w
            · exact .inl (by omega)
            · exact .inr w) q
        · rw [crF_below (R := t0 :: R) fun x hx => by
            rcases List.mem_cons.mp hx with w | w
            · omega
            · have := p1.1 x w
              omega]
          rw [zero t fun l hl => by
            have := (mem l.1.1).mpr ⟨l, hl, .inl rfl⟩
            rw [hT] at this
            rcases List.mem_cons.mp this with w | w
            · omega
            · have := p1.1 _ w
              omega]
          have : ¬ (0 > most) := by omega
          simp [this]
    rw [this]
    by_cases z : lyF ls t > most <;> simp [z]
  · rw [← k3, crF_end]
    cases hT : (sortI (marksF ls)).getLast? with
    | none =>
      have e : sortI (marksF ls) = [] := List.getLast?_eq_none_iff.mp hT
      have : ls = [] := by
        cases ls with
        | nil => rfl
        | cons l r =>
          have := (mem l.1.1).mpr ⟨l, List.mem_cons_self, .inl rfl⟩
          rw [e] at this; cases this
      subst this
      have : ¬ (0 > most) := by omega
      simp [this]
    | some tl =>
      have last : ∀ x ∈ sortI (marksF ls), x ≤ tl := fun x hx => by
        obtain ⟨q, hq⟩ := List.getLast?_eq_some_iff.mp hT
        rw [hq] at s1 hx
        rcases List.mem_append.mp hx with w | w
        · have := (List.pairwise_append.mp s1).2.2 x w tl (by simp)
          omega
        · rw [List.mem_singleton] at w; omega
      have : ls.filter (fun l => inB l.1 tl) = ls.filter (·.1.2.isNone) := by
        refine List.filter_congr fun l hl => ?_
        have b := last _ ((mem l.1.1).mpr ⟨l, hl, .inl rfl⟩)
        rw [Bool.eq_iff_iff]
        obtain ⟨⟨bg, u⟩, z⟩ := l
        cases u with
        | none => simp [inB, below] at *; exact b
        | some e =>
          have := last _ ((mem e).mpr ⟨_, hl, .inr rfl⟩)
          simp [inB, below] at *
          omega
      simp only
      unfold lyF
      rw [this]
/-! ### in the interpreter -/
theorem dfind_int (K : List Int) (k : Int) : (k ∉ K → dfind (K.map .int) (.int k) = none) ∧ (k ∈ K → ∃ j, dfind (K.map .int) (.int k) = some j ∧ j < K.length) := by
  constructor
  · intro h
    unfold dfind
    rw [List.findIdx?_eq_none_iff]
    intro d hd
    obtain ⟨x, hx, rfl⟩ := List.mem_map.mp hd
    simp [eqK]
    exact fun z => h (z ▸ hx)
  · intro h
    cases q : dfind (K.map .int) (.int k) with
    | none =>
      unfold dfind at q
      rw [List.findIdx?_eq_none_iff] at q
      have := q (.int k) (List.mem_map_of_mem h)
      simp [eqK] at this
    | some j =>
      refine ⟨j, rfl, ?_⟩
      unfold dfind at q
      have := (List.findIdx?_eq_some_iff_findIdx_eq.mp q).1
      simpa using this
abbrev dctT (K : List Int) : MO := .dct (K.map .int) (K.map fun _ => .cl (.bl true))
theorem dput_kput (K : List Int) (k : Int) : dput (K.map .int) (K.map fun _ => MO.cl (.bl true)) (.int k) (.cl (.bl true)) = ((kput K k).map .int, (kput K k).map fun _ => MO.cl (.bl true)) := by
  unfold dput kput
  by_cases h : k ∈ K
  · obtain ⟨j, h1, h2⟩ := (dfind_int K k).2 h
    rw [h1, if_pos h]
    simp only
    congr 1
    refine List.ext_getElem (by simp) fun i h3 h4 => ?_
    rw [List.getElem_set]
    split <;> simp
  · rw [(dfind_int K k).1 h, if_neg h]
    simp
theorem evS_stm (c : Calls) {sl : Sl} {i : Nat} {ke : E} {K : List Int} {k : Int} (h : sl[i]? = some (.ow (dctT K))) (hk : evE c ke sl = .ok (.cl (.int k))) (hl : K.length < 1000000) : evS c (.pst (.v i) ke (.bl true)) sl = some (.nx (sl.set i (.ow (dctT (kput K k))))) := by
  have hl' : (K.map D.int).length < sizeLine := by rw [List.length_map]; exact Nat.lt_of_lt_of_le hl (by decide)
  simp only [evS_pst, evE_bl, out_ok, plF_v, ptV_ow h, hk]
  unfold pstF
  simp only [item_cl, isK, hl', decide_true, Bool.and_self, if_true, dput_kput]
  rw [putS_ow h]
theorem intsD_map : ∀ K : List Int, intsD (K.map .int) = some K
  | [] => rfl
  | k :: K => by simp [intsD, intsD_map K]
theorem blt_sum (ns : List Int) : blt .sum [.cl (.lst (ns.map .int))] = some (.cl (.int ns.sum)) := by
  show (((XV.cl (.lst (ns.map .int))).rd.lds).bind intsD).map _ = _
  have : (XV.cl (.lst (ns.map .int))).rd.lds = some (ns.map .int) := by simp [XV.rd, XV.lds, MO.islst]; exact clM_mapD D.int ns
  rw [this]
  simp [intsD_map]
theorem blt_sortK {K : List Int} (h : K.length < 64) : blt .sortI [.tm (dctT K)] = some (.nw (.lst (((sortI K).map D.int).map .cl))) := by
  show ((XV.its (.tm (dctT K))).bind intsD).map _ = _
  have : XV.its (.tm (dctT K)) = some (K.map .int) := by
    simp [XV.its, XV.rd, XV.lds, MO.islst, h]
  rw [this]
  simp [intsD_map]
theorem idx_ld0 (l : Load) : idx (.cl (ldD l)) (.cl (.int 0)) = some (.cl (.int l.1.1)) := idxT0
theorem idx_ld1 (l : Load) : idx (.cl (ldD l)) (.cl (.int 1)) = some (.cl (optD l.1.2)) := idxT1
theorem idx_ld2 (l : Load) : idx (.cl (ldD l)) (.cl (.int 2)) = some (.cl (.int l.2)) := idxT2
theorem pl_ld (l : Load) : plD 59 (ldD l) = true := by
  obtain ⟨⟨b, u⟩, z⟩ := l
  cases u <;> rfl
theorem lds_ne (ls : List Load) : cmpF .ne (.cl (.lst (ls.map ldD))) (.cl (.lst (ls.map ldD))) = .ok (.cl (.bl false)) := cmpF_nrefl (plD_lst ldD ls fun s _ => pl_ld s)
end Mo
namespace Mo
open PySem PySem.Spec PyProof.Rows L2
/-! ### loops -/
theorem forL_findL {β : Type} {g : D → Sl → Option Sl} {b : Sl → RO} (P : Sl → Prop) (q : β → Bool) (v : β → XV) (dd : β → D) : ∀ {xs : List β} {sl : Sl}, (∀ x ∈ xs, ∀ sl, P sl → ∃ s1, g (dd x) sl = some s1 ∧ ((q x = true ∧ ∃ s2, b s1 = some (.rt (v x) s2)) ∨ (q x = false ∧ ∃ s2, b s1 = some (.nx s2) ∧ P s2))) → P sl →
    (∃ x s2, xs.find? q = some x ∧ forL g b (xs.map dd) sl = some (.rt (v x) s2)) ∨ (xs.find? q = none ∧ ∃ s2, forL g b (xs.map dd) sl = some (.nx s2) ∧ P s2)
  | [], sl, _, hp => .inr ⟨rfl, sl, rfl, hp⟩
  | x :: xs, sl, h, hp => by
    obtain ⟨s1, h1, h2⟩ := h x List.mem_cons_self sl hp
    rw [List.map_cons, forL_turn, h1]
    rcases h2 with ⟨q1, s2, r1⟩ | ⟨q1, s2, r1, r2⟩
    · exact .inl ⟨x, s2, by simp [List.find?_cons, q1], by show turnF (b s1) _ = _; rw [r1]; rfl⟩
    · rcases forL_findL P q v dd (xs := xs) (sl := s2) (fun x hx => h x (List.mem_cons_of_mem _ hx)) r2 with ⟨y, s3, k1, k2⟩ | ⟨k1, s3, k2, k3⟩
      · exact .inl ⟨y, s3, by simp [List.find?_cons, q1, k1], by show turnF (b s1) _ = _; rw [r1]; exact k2⟩
      · exact .inr ⟨by simp [List.find?_cons, q1, k1], s3, by show turnF (b s1) _ = _; rw [r1]; exact k2, k3⟩
/-- a while that goes on till it returns or its test fails -/
theorem whl_run {α : Type} {t : Sl → R XV} {b : Sl → RO} {Ψ : RO → Prop} (μ : α → Nat) (I : α → Sl → Prop) (h : ∀ a sl, I a sl → (t sl = .ok (.cl (.bl false)) ∧ Ψ (some (.nx sl))) ∨ (t sl = .ok (.cl (.bl true)) ∧ ((∃ x s', b sl = some (.rt x s') ∧ Ψ (some (.rt x s'))) ∨ ∃ a' s', b sl = some (.nx s') ∧ I a' s' ∧ μ a' < μ a))) : ∀ (n : Nat) (a : α) (sl : Sl), μ a < n → I a sl → Ψ (whl t b sl)
  | 0, a, sl, hn, _ => by omega
  | n + 1, a, sl, hn, hi => by
    rw [whl_eq]
    rcases h a sl hi with ⟨h1, h2⟩ | ⟨h1, ⟨x, s', h2, h3⟩ | ⟨a', s', h2, h3, h4⟩⟩
    · rw [h1]; exact h2
    · rw [h1]
      simp only [out_ok, xb_bl, h2]
      exact h3
    · rw [h1]
      simp only [out_ok, xb_bl, h2]
      exact whl_run μ I h n a' s' (by omega) h3
/-! ### the greatest -/
theorem maxL_ge : ∀ {ns : List Int} {a x : Int}, (x = a ∨ x ∈ ns) → x ≤ ns.foldl (fun a b => if a < b then b else a) a
  | [], a, x, h => by
    rcases h with h | h
    · exact Int.le_of_eq h
    · cases h
  | n :: ns, a, x, h => by
    rw [List.foldl_cons]
    have step : ∀ y, (y = (if a < n then n else a) ∨ y ∈ ns) → y ≤ ns.foldl (fun a b => if a < b then b else a) (if a < n then n else a) := fun y hy => maxL_ge hy
    have s0 := step _ (.inl rfl)
    have c1 : a ≤ (if a < n then n else a) ∧ n ≤ (if a < n then n else a) := by split <;> omega
    generalize (if a < n then n else a) = c at *
    rcases h with h | h
    · omega
    · rcases List.mem_cons.mp h with h | h
      · omega
      · exact step x (.inr h)
theorem maxL_mem {ns : List Int} {x : Int} (h : x ∈ ns) : x ≤ maxL ns := by
  cases ns with
  | nil => cases h
  | cons n ns => exact maxL_ge (List.mem_cons.mp h)
/-! ### the least start -/
def LeastIs (P : Int → Prop) : Option Int → Prop
  | some s => P s ∧ ∀ s', P s' → s ≤ s'
  | none => ∀ s, ¬ P s
theorem least_eq {P : Int → Prop} {r r' : Option Int} (h : LeastIs P r) (h' : LeastIs P r') : r = r' := by
  cases r with
  | none => cases r' with
    | none => rfl
    | some s => exact absurd h'.1 (h s)
  | some s => cases r' with
    | none => exact absurd h.1 (h' s)
    | some s' =>
      have a := h.2 s' h'.1
      have b := h'.2 s h.1
      congr 1
      omega
/-- open in so many turns in a row -/
def IsSt (f e l z s : Int) : Prop := ∀ i, 0 ≤ i → i < z → openAt f e l (s + i) = true
theorem isSt_iff {f e l z s : Int} (he : 1 ≤ e) (hl : 1 ≤ l) (hle : l ≤ e) (hz : 1 ≤ z) : IsSt f e l z s ↔ f ≤ s ∧ (l = e ∨ (s - f) % e + z ≤ l) := by
  have m0 := Int.emod_nonneg (s - f) (show e ≠ 0 by omega)
  have m1 := Int.emod_lt_of_pos (s - f) (show 0 < e by omega)
  have q := Int.mul_ediv_add_emod (s - f) e
  have rest : ∀ i, 0 ≤ i → (s - f) % e + i < e → (s + i - f) % e = (s - f) % e + i := fun i i0 i1 => by
    have : s + i - f = (s - f) % e + i + e * ((s - f) / e) := by omega
    rw [this, Int.add_mul_emod_self_left]
    exact Int.emod_eq_of_lt (by omega) i1
  constructor
  · intro h
    have h0 := h 0 (by omega) (by omega)
    unfold openAt at h0
    simp only [Bool.and_eq_true, decide_eq_true_eq, Int.add_zero] at h0
    refine ⟨h0.1, ?_⟩
    by_cases z1 : l = e
    · exact .inl z1
    · refine .inr ?_
      by_cases z2 : (s - f) % e + z ≤ l
      · exact z2
      · have h1 := h (l - (s - f) % e) (by omega) (by omega)
        unfold openAt at h1
        simp only [Bool.and_eq_true, decide_eq_true_eq] at h1
        rw [rest _ (by omega) (by omega)] at h1
        omega
  · intro ⟨h1, h2⟩ i i0 i1
    unfold openAt
    simp only [Bool.and_eq_true, decide_eq_true_eq]
    refine ⟨by omega, ?_⟩
    rcases h2 with h2 | h2
    · rw [h2]; exact Int.emod_lt_of_pos _ (by omega)
    · rw [rest i i0 (by omega)]; omega
def nxO (f e l t z : Int) : Option Int := if l = e then some (if f > t then f else t) else if l < z then none else if ((if f > t then f else t) - f) % e + z ≤ l then some (if f > t then f else t) else some ((if f > t then f else t) - ((if f > t then f else t) - f) % e + e)
theorem nxO_ok {f e l t z : Int} (he : 1 ≤ e) (hl : 1 ≤ l) (hle : l ≤ e) (hz : 1 ≤ z) : LeastIs (fun s => t ≤ s ∧ IsSt f e l z s) (nxO f e l t z) := by
  have iff := fun s => isSt_iff (f := f) (e := e) (l := l) (z := z) (s := s) he hl hle hz
  unfold nxO
  have hst : ∃ st, st = (if f > t then f else t) ∧ f ≤ st ∧ t ≤ st ∧ ∀ s, t ≤ s → f ≤ s → st ≤ s := ⟨_, rfl, by split <;> omega, by split <;> omega, fun s a b => by split <;> omega⟩
  obtain ⟨st, hst, s1, s2, s3⟩ := hst
  rw [← hst]
  by_cases h1 : l = e
  · rw [if_pos h1]
    exact ⟨⟨s2, (iff st).mpr ⟨s1, .inl h1⟩⟩, fun s' ⟨a, b⟩ => s3 s' a ((iff s').mp b).1⟩
  rw [if_neg h1]
  by_cases h2 : l < z
  · rw [if_pos h2]
    intro s ⟨a, b⟩
    have m0 := Int.emod_nonneg (s - f) (show e ≠ 0 by omega)
    rcases ((iff s).mp b).2 with c | c <;> omega
  rw [if_neg h2]
  have m0 := Int.emod_nonneg (st - f) (show e ≠ 0 by omega)
  have m1 := Int.emod_lt_of_pos (st - f) (show 0 < e by omega)
  have q := Int.mul_ediv_add_emod (st - f) e
  by_cases h3 : (st - f) % e + z ≤ l
  · rw [if_pos h3]
    exact ⟨⟨s2, (iff st).mpr ⟨s1, .inr h3⟩⟩, fun s' ⟨a, b⟩ => s3 s' a ((iff s').mp b).1⟩
  · rw [if_neg h3]
    have ev : st - (st - f) % e + e - f = e * ((st - f) / e + 1) := by rw [Int.mul_add, Int.mul_one]; omega
    refine ⟨⟨by omega, (iff _).mpr ⟨by omega, .inr ?_⟩⟩, fun s' ⟨a, b⟩ => ?_⟩
    · rw [ev, Int.mul_emod_right]; omega
    · obtain ⟨c, d⟩ := (iff s').mp b
      have d := d.resolve_left h1
      have ge := s3 s' a c
      by_cases lt : st - (st - f) % e + e ≤ s'
      · exact lt
      · have : (s' - f) % e = s' - f - e * ((st - f) / e) := by
          have e1 : s' - f = (s' - f - e * ((st - f) / e)) + e * ((st - f) / e) := by omega
          rw [e1, Int.add_mul_emod_self_left]
          rw [Int.emod_eq_of_lt (by omega) (by rw [Int.mul_add, Int.mul_one] at ev; omega)]
          omega
        omega
/-- whether a turn is blocked -/
def blk (ps : List Span) (t : Int) : Bool := ps.any (inB · t)
structure FreeAt (f e l z turn : Int) (ps : List Span) (s : Int) : Prop where
  ge : turn ≤ s
  st : IsSt f e l z s
  fr : ∀ i, 0 ≤ i → i < z → blk ps (s + i) = false
/-- the first of some walls that has one of so many turns -/
def hits (st z : Int) (s : Span) : Bool := decide (s.1 < st + z) && below st s.2
theorem hits_none {J : List Span} {st z : Int} (h : J.find? (hits st z) = none) {i : Int} (i0 : 0 ≤ i) (i1 : i < z) : blk J (st + i) = false := by
  unfold blk
  rw [List.any_eq_false]
  intro s hs q
  have := List.find?_eq_none.mp h s hs
  apply this
  obtain ⟨b, u⟩ := s
  cases u with
  | none => simp [inB, below, hits] at *; omega
  | some e => simp [inB, below, hits] at *; omega
theorem hits_end {J : List Span} {f e l z turn st b : Int} (h : J.find? (hits st z) = some (b, none)) (hz : 1 ≤ z) {s : Int} (g : FreeAt f e l z turn J s) : s < st := by
  have h1 := List.mem_of_find?_eq_some h
  have h2 := List.find?_some h
  simp [hits, below] at h2
  by_cases q : s < st
  · exact q
  · have f1 := g.fr (z - 1) (by omega) (by omega)
    unfold blk at f1
    rw [List.any_eq_false] at f1
    exact absurd (by simp [inB, below]; omega) (f1 _ h1)
theorem hits_on {J : List Span} {f e l z turn st b u : Int} (h : J.find? (hits st z) = some (b, some u)) (hv : b < u) (hz : 1 ≤ z) : st < u ∧ ∀ {s : Int}, st ≤ s → FreeAt f e l z turn J s → u ≤ s := by
  have h1 := List.mem_of_find?_eq_some h
  have h2 := List.find?_some h
  simp [hits, below] at h2
  refine ⟨h2.2, fun {s} ge g => ?_⟩
  by_cases q : u ≤ s
  · exact q
  · have f1 := g.fr ((if s < b then b else s) - s) (by split <;> omega) (by split <;> omega)
    unfold blk at f1
    rw [List.any_eq_false] at f1
    refine absurd ?_ (f1 _ h1)
    simp only [inB, below, Bool.and_eq_true, decide_eq_true_eq]
    split <;> omega
/-- how many walls end behind a turn -/
def ahead (J : List Span) (t : Int) : Nat := (J.filter fun s => below t s.2).length
theorem ahead_lt {J : List Span} {t u t' b : Int} (hm : (b, some u) ∈ J) (h : t < u) (h' : u ≤ t') : ahead J t' < ahead J t := by
  unfold ahead
  induction J with
  | nil => cases hm
  | cons s r ih =>
    rw [List.filter_cons, List.filter_cons]
    have mono : (r.filter fun s => below t' s.2).length ≤ (r.filter fun s => below t s.2).length := by
      clear ih hm
      induction r with
      | nil => exact Nat.le_refl _
      | cons q r ih2 =>
        rw [List.filter_cons, List.filter_cons]
        have im : below t' q.2 = true → below t q.2 = true := by
          obtain ⟨b, u⟩ := q
          cases u with
          | none => exact fun z => z
          | some v => simp only [below, decide_eq_true_eq]; omega
        by_cases z1 : below t' q.2 = true
        · rw [if_pos z1, if_pos (im z1), List.length_cons, List.length_cons]; omega
        · rw [if_neg z1]
          split
          · rw [List.length_cons]; omega
          · exact ih2
    rcases List.mem_cons.mp hm with z | z
    · subst z
      rw [if_neg (by simp [below]; omega), if_pos (by simp [below]; omega), List.length_cons]
      omega
    · have := ih z
      have im : below t' s.2 = true → below t s.2 = true := by
        obtain ⟨b, u⟩ := s
        cases u with
        | none => exact fun z => z
        | some v => simp only [below, decide_eq_true_eq]; omega
      by_cases z1 : below t' s.2 = true
      · rw [if_pos z1, if_pos (im z1), List.length_cons, List.length_cons]; omega
      · rw [if_neg z1]
        split
        · rw [List.length_cons]; omega
        · exact this
theorem good_congr {f e l z turn : Int} {J ps : List Span} (h : ∀ t, J.any (inB · t) = ps.any (inB · t)) (s : Int) : FreeAt f e l z turn J s ↔ FreeAt f e l z turn ps s :=
  ⟨fun g => ⟨g.ge, g.st, fun i a b => by rw [← g.fr i a b]; exact (h _).symm⟩, fun g => ⟨g.ge, g.st, fun i a b => by rw [← g.fr i a b]; exact h _⟩⟩
/-- far behind all ends there is none, if there is none sooner -/
theorem good_near {f e l z turn m : Int} {ps : List Span} (he : 1 ≤ e) (h1 : turn ≤ m) (h2 : f ≤ m) (h3 : ∀ s ∈ ps, s.1 ≤ m ∧ ∀ u, s.2 = some u → u ≤ m) (hz : 1 ≤ z) {s : Int} (g : FreeAt f e l z turn ps s) (hs : m ≤ s) : ∃ s', FreeAt f e l z turn ps s' ∧ s' < m + e := by
  have m0 := Int.emod_nonneg (s - m) (show e ≠ 0 by omega)
  have m1 := Int.emod_lt_of_pos (s - m) (show 0 < e by omega)
  have q := Int.mul_ediv_add_emod (s - m) e
  have nb : ∀ t, m ≤ t → blk ps t = false := fun t ht => by
    unfold blk
    rw [List.any_eq_false]
    intro x hx z1
    obtain ⟨a1, a2⟩ := h3 x hx
    have f0 := g.fr 0 (by omega) (by omega)
    unfold blk at f0
    rw [List.any_eq_false] at f0
    have f0 := f0 x hx
    obtain ⟨b, u⟩ := x
    cases u with
    | none => simp [inB, below] at *; omega
    | some v =>
      have := a2 v rfl
      simp [inB, below] at *
      omega
  refine ⟨m + (s - m) % e, ⟨by omega, fun i i0 i1 => ?_, fun i i0 i1 => nb _ (by omega)⟩, by omega⟩
  have o := g.st i i0 i1
  unfold openAt at o ⊢
  simp only [Bool.and_eq_true, decide_eq_true_eq] at o ⊢
  refine ⟨by omega, ?_⟩
  have : s + i - f = m + (s - m) % e + i - f + e * ((s - m) / e) := by omega
  rw [this, Int.add_mul_emod_self_left] at o
  exact o.2
end Mo
namespace Mo
open PySem PySem.Spec PyProof.Rows L2
/-! ### texts by their signs -/
theorem sgn_S (c : Nat) : sgn c = SX.S [c] := rfl
theorem chars_S (a : List Nat) : chars (SX.S a) = a.map fun c => D.str (SX.S [c]) := by
  unfold chars
  rfl
theorem S_app (a b : List Nat) : SX.S a ++ SX.S b = SX.S (a ++ b) := SX.S_cat a b
def OkS_ (a : List Nat) : Prop := ∀ c ∈ a, c < 128
theorem canLay_S {a : List Nat} (h : OkS_ a) : (PyData.str (SX.S a)).canLay0 = true := by
  unfold PyData.canLay0
  show (SX.S a).cps.all _ = true
  rw [Array.all_eq_true']
  intro c hc
  have := h c (by simpa using hc)
  simp
  omega
theorem eqD_S {a b : List Nat} (ha : OkS_ a) (hb : OkS_ b) : eqD (.str (SX.S a)) (.str (SX.S b)) = some (decide (a = b)) := by
  unfold eqD
  simp only [D.py]
  have s : ∀ {a : List Nat}, OkS_ a → PySem.SeqAt.shaped (.str (SX.S a)) = true := fun {a} h => by
    unfold PySem.SeqAt.shaped
    rw [canLay_S h]
    simp [PyData.depth]
  rw [if_pos ⟨s ha, s hb⟩]
  show some (SX.S a == SX.S b) = _
  rw [SX.S_beq_eq]
theorem cmpF_of {d e : D} {k : Bool} (h : eqD d e = some k) : cmpF .eq (.cl d) (.cl e) = .ok (.cl (.bl k)) := by
  show (R.of (eqD d e)).bind _ = _
  rw [h]; rfl
theorem cmpF_ofn {d e : D} {k : Bool} (h : eqD d e = some k) : cmpF .ne (.cl d) (.cl e) = .ok (.cl (.bl (!k))) := by
  show (R.of ((eqD d e).map (!·))).bind _ = _
  rw [h]; rfl
theorem cmpF_eqS {a b : List Nat} (ha : OkS_ a) (hb : OkS_ b) : cmpF .eq (.cl (.str (SX.S a))) (.cl (.str (SX.S b))) = .ok (.cl (.bl (decide (a = b)))) := by
  exact cmpF_of (eqD_S ha hb)
theorem cmpF_neS {a b : List Nat} (ha : OkS_ a) (hb : OkS_ b) : cmpF .ne (.cl (.str (SX.S a))) (.cl (.str (SX.S b))) = .ok (.cl (.bl (!decide (a = b)))) := by
  exact cmpF_ofn (eqD_S ha hb)
theorem inS_S (a : List Nat) (c : Nat) : inS (SX.S [c]) (SX.S a) = decide (c ∈ a) := SX.in_one a c
theorem cmpF_inS (a : List Nat) (c : Nat) : cmpF .in_ (.cl (.str (SX.S [c]))) (.cl (.str (SX.S a))) = .ok (.cl (.bl (decide (c ∈ a)))) := by
  have e := inS_S a c
  generalize SX.S [c] = s at *
  generalize SX.S a = u at *
  simp [cmpF, cop, e]
theorem cmpF_notInS (a : List Nat) (c : Nat) : cmpF .notIn (.cl (.str (SX.S [c]))) (.cl (.str (SX.S a))) = .ok (.cl (.bl (!decide (c ∈ a)))) := by
  have e := inS_S a c
  generalize SX.S [c] = s at *
  generalize SX.S a = u at *
  simp [cmpF, cop, e]
theorem lenB_S {a : List Nat} (h : a.length ≤ 1000000) : lenB [.cl (.str (SX.S a))] = some (.cl (.int a.length)) := by
  have e : (SX.S a).length = a.length := SX.S_len a
  have l : a.length ≤ sizeLine := Nat.le_trans h (by decide)
  simp [lenB, lenX, MO.kids, MO.dic, e, l]
theorem itF_S {a : List Nat} (h : a.length ≤ 1000000) : itF (.cl (.str (SX.S a))) = .ok (.ds (a.map fun c => D.str (SX.S [c]))) := by
  have e : (SX.S a).length = a.length := SX.S_len a
  have l : (SX.S a).length ≤ sizeLine := by rw [e]; exact Nat.le_trans h (by decide)
  unfold itF
  simp only
  rw [if_pos l, chars_S]
theorem idx_S {a : List Nat} {n : Int} {c : Nat} (h : a.length ≤ 1000000) (hc : atI a n = some c) : idx (.cl (.str (SX.S a))) (.cl (.int n)) = some (.cl (.str (SX.S [c]))) := by
  have e : (SX.S a).length = a.length := SX.S_len a
  have l : a.length ≤ sizeLine := Nat.le_trans h (by decide)
  simp [idx, MO.kids, MO.dic, e, l, hc, sgn]
theorem sliF_S {a : List Nat} {l h : Option Int} (hl : a.length ≤ 1000000) : sliF (.cl (.str (SX.S a))) l h = some (.cl (.str (SX.S (cutL a l h)))) := by
  have e : (SX.S a).length = a.length := SX.S_len a
  have l : a.length ≤ sizeLine := Nat.le_trans hl (by decide)
  simp [sliF, e, l]
theorem bopF_S {a b : List Nat} (h : a.length + b.length ≤ 1000000) : bopF .add (.cl (.str (SX.S a))) (.cl (.str (SX.S b))) = .ok (.cl (.str (SX.S (a ++ b)))) := by
  show R.of (bop .add (.str _) (.str _)) = _
  simp only [bop]
  rw [if_pos ⟨by trivial, by rw [SX.S_len, SX.S_len]; exact Nat.le_trans h (by decide)⟩, SX.S_cat]
  rfl
theorem repS_S (a : List Nat) (n : Nat) : repS (SX.S a) n = SX.S (List.replicate n a).flatten := rfl
theorem cut_to {α : Type} (a : List α) {i : Int} (h : 0 ≤ i) : cutL a none (some i) = a.take i.toNat := by
  obtain ⟨k, rfl⟩ : ∃ k : Nat, i = k := ⟨i.toNat, by omega⟩
  unfold cutL
  rw [HT.sIx_none, HT.sIx_nat]
  simp [Nat.sub_zero]
theorem cut_from {α : Type} (a : List α) {i : Int} (h : 0 ≤ i) : cutL a (some i) none = a.drop i.toNat := by
  obtain ⟨k, rfl⟩ : ∃ k : Nat, i = k := ⟨i.toNat, by omega⟩
  unfold cutL
  rw [HT.sIx_none, HT.sIx_nat]
  rcases Nat.le_total k a.length with q | q
  · rw [Nat.min_eq_left q]
    simp only [Int.toNat_natCast]
    exact List.take_of_length_le (by simp)
  · rw [Nat.min_eq_right q]
    simp only [Int.toNat_natCast]
    rw [List.drop_of_length_le q, List.drop_of_length_le (Nat.le_refl _)]
    exact List.take_nil
theorem intsD_str : ∀ K : List (List Nat), strsD (K.map fun a => .str (SX.S a)) = some (K.map SX.S)
  | [] => rfl
  | k :: K => by simp [strsD, intsD_str K]
theorem blsD_map : ∀ K : List Bool, blsD (K.map .bl) = some K
  | [] => rfl
  | k :: K => by simp [blsD, blsD_map K]
theorem blt_all (bs : List Bool) : blt .all [.cl (.lst (bs.map .bl))] = some (.cl (.bl (bs.all id))) := by
  show (((XV.cl (.lst (bs.map .bl))).rd.lds).bind blsD).map _ = _
  have : (XV.cl (.lst (bs.map .bl))).rd.lds = some (bs.map .bl) := by simp only [XV.rd, XV.lds, MO.islst, mo_cl, Option.bind_some]; exact clM_cl _
  rw [this]
  simp [blsD_map]
theorem join_S {s : List Nat} (ps : List (List Nat)) (h : (ps.map (·.length)).sum + ps.length * s.length ≤ 1000000) : sm1F .join (.cl (.str (SX.S s))) (.cl (.lst (ps.map fun a => .str (SX.S a)))) = .ok (.cl (.str (SX.S (TL.joinL s ps)))) := by
  have : (XV.cl (.lst (ps.map fun a => D.str (SX.S a)))).rd.lds = some (ps.map fun a => .str (SX.S a)) := by simp only [XV.rd, XV.lds, MO.islst, mo_cl, Option.bind_some]; exact clM_cl _
  unfold sm1F
  simp only
  rw [this]
  simp only [Option.bind_some, intsD_str]
  have e : ((ps.map SX.S).map (·.length)).sum + (ps.map SX.S).length * (SX.S s).length = (ps.map (·.length)).sum + ps.length * s.length := by
    rw [List.map_map, List.length_map, SX.S_len]
    rw [show (ps.map ((·.length) ∘ SX.S)) = ps.map (·.length) from List.map_congr_left fun a _ => SX.S_len a]
  rw [if_pos (by rw [e]; omega), SX.join_S]
/-- a number's signs -/
def numS (i : Int) : List Nat := TL.numL i.toNat
theorem numS_S {i : Int} (h : 0 ≤ i) : (Str.ofString (toString i)) = SX.S (numS i) := by
  obtain ⟨k, rfl⟩ : ∃ k : Nat, i = k := ⟨i.toNat, by omega⟩
  exact SX.num_S k
theorem numS_ok (i : Int) : OkS_ (numS i) := fun c hc => by
  have := TL.numL_digits i.toNat c hc
  omega
theorem numS_len {i : Int} {k : Nat} (hk : 0 < k) (h0 : 0 ≤ i) (h : i < 10 ^ k) : (numS i).length ≤ k := TL.numL_len hk (by
  have e : ((10 : Int) ^ k) = ((10 ^ k : Nat) : Int) := by simp
  omega)
theorem blt_str {i : Int} {k : Nat} (hk : 0 < k) (hk2 : k ≤ 400) (h0 : 0 ≤ i) (h : i < 10 ^ k) : blt .str1 [.cl (.int i)] = some (.cl (.str (SX.S (numS i)))) := by
  show str1B [.cl (.int i)] = _
  unfold str1B
  have : i.natAbs.log2 < 1920 := by
    refine Nat.lt_of_lt_of_le (log2_lt (k := 4 * k) ?_ (by omega)) (by omega)
    have e : ((10 : Int) ^ k) = ((10 ^ k : Nat) : Int) := by simp
    have : 10 ^ k ≤ 16 ^ k := Nat.pow_le_pow_left (by decide) k
    rw [show (2 : Nat) ^ (4 * k) = 16 ^ k by rw [Nat.pow_mul]]
    omega
  simp only
  rw [if_pos this]
  congr 3
  exact numS_S h0
theorem okS_app {a b : List Nat} (ha : OkS_ a) (hb : OkS_ b) : OkS_ (a ++ b) := fun c hc => (List.mem_append.mp hc).elim (ha c) (hb c)
theorem okS_all {a : List Nat} (h : a.all (fun c => decide (c < 128)) = true) : OkS_ a := fun c hc => of_decide_eq_true (List.all_eq_true.mp h c hc)
theorem pl_S {a : List Nat} (h : OkS_ a) (n : Nat) : plD n (.str (SX.S a)) = true := by
  have : ((SX.S a).cps.all fun c => decide (c < 0x110000)) = true := by
    rw [Array.all_eq_true']
    intro c hc
    have := h c (by simpa using hc)
    simp
    omega
  cases n <;> exact this
/-- True, False in a list of such -/
theorem inD_bl (b : Bool) (bs : List Bool) : inD (.bl b) (bs.map .bl) = some (bs.contains b) := by
  have e : ∀ l : List Bool, scL (l.map .bl) = some (l.map .bl) := fun l => by
    induction l with
    | nil => rfl
    | cons x l ih => simp [scL, D.sc, ih]
  unfold inD
  rw [e]
  show some (inV (.bl b) (bs.map .bl)) = _
  congr 1
  unfold inV
  rw [List.any_map, List.contains_eq_any_beq]
  congr 1
  funext y
  show eqV (.bl y) (.bl b) = _
  cases y <;> cases b <;> rfl
theorem cmpF_notInB (b : Bool) (bs : List Bool) : cmpF .notIn (.cl (.bl b)) (.cl (.lst (bs.map .bl))) = .ok (.cl (.bl (!bs.contains b))) := by
  have e := inD_bl b bs
  simp [cmpF, cop, e]
theorem joinL_nil : ∀ ps : List (List Nat), TL.joinL [] ps = ps.flatten
  | [] => rfl
  | [p] => by simp [TL.joinL]
  | p :: q :: r => by
    show p ++ ([] ++ TL.joinL [] (q :: r)) = _
    rw [joinL_nil (q :: r)]
    simp
theorem ptV_bo {sl : Sl} {i j : Nat} {m : MO} (h : sl[i]? = some (.bo j m)) : ptV sl i = .ok ⟨i, [], m⟩ := by unfold ptV; rw [h]
theorem putS_bo {sl : Sl} {i j : Nat} {m m' : MO} (h : sl[i]? = some (.bo j m)) : putS sl i [] m' = sl.set i (.bo j m') := by unfold putS; rw [h]; simp
/-- a field that is new -/
theorem evS_pfs0 (c : Calls) {sl : Sl} {i j : Nat} {cl f : String} {ns : List Str} {ms : List MO} {e : E} {d : D} (h : sl[i]? = some (.bo j (.ins (Str.ofString cl) ns ms))) (he : evE c e sl = .ok (.cl d)) (hn : ns.length < 1000) (hf : ns.findIdx? (fun g => decide (g = Str.ofString f)) = none) : evS c (.pfs (.v i) cl f e) sl = some (.nx (sl.set i (.bo j (.ins (Str.ofString cl) (ns ++ [Str.ofString f]) (ms ++ [.cl d]))))) := by
  simp only [evS_pfs, he, out_ok, plF_v, ptV_bo h]
  unfold pfsF fput
  simp only [item_cl]
  rw [if_pos ⟨by trivial, hn⟩, hf, putS_bo h]
theorem idx_mem (ds : List D) {i : Int} (h0 : 0 ≤ i) (h1 : i < ds.length) : ∃ d ∈ ds, idx (.cl (.lst ds)) (.cl (.int i)) = some (.cl d) := by
  have lt : i.toNat < ds.length := by omega
  exact ⟨ds[i.toNat], List.getElem_mem lt, idx_lst (atI_nn h0 (List.getElem?_eq_getElem lt))⟩
end Mo
namespace Mo
open PySem PySem.Spec PyProof.Rows L2
/-! ### open_ahead, open_turn -/
def ahOf (f e l t : Int) : Int := if t ≤ f then 0 else (t - f) / e * l + (if l < (t - f) % e then l else (t - f) % e)
def otOf (f e l n : Int) : Int := f + n / l * e + n % l
theorem log_of {j : Int} (n : Nat) (h : j.natAbs < 2 ^ n) (hn : 0 < n := by decide) (h9 : n ≤ 9000 := by decide) : j.natAbs.log2 < 9000 := Nat.lt_of_lt_of_le (log2_lt h hn) h9
theorem nn_mul {a b : Int} (ha : 0 ≤ a) (hb : 0 ≤ b) : 0 ≤ a * b := Int.mul_nonneg ha hb
theorem div_emod_of {a e q r : Int} (h : a = e * q + r) (h0 : 0 ≤ r) (h1 : r < e) : a / e = q ∧ a % e = r := by
  have hq : a / e = q := by
    rw [h, Int.add_comm, Int.add_mul_ediv_left _ _ (by omega), Int.ediv_eq_zero_of_lt h0 h1]; omega
  have hr : a % e = r := by
    rw [h, Int.add_comm, Int.add_mul_emod_self_left, Int.emod_eq_of_lt h0 h1]
  exact ⟨hq, hr⟩
/-- what is counted ahead, by whole rounds and a rest -/
theorem ahOf_of {f e l q r : Int} (hq : 0 ≤ q) (hr : 0 ≤ r) (hr2 : r < e) (hl : 0 ≤ l) : ahOf f e l (f + (e * q + r)) = q * l + (if l < r then l else r) := by
  obtain ⟨a, b⟩ := div_emod_of (a := e * q + r) (e := e) (q := q) (r := r) rfl hr hr2
  unfold ahOf
  have eq0 : 0 ≤ e * q := Int.mul_nonneg (by omega) hq
  split
  · have z1 : r = 0 := by omega
    have z2 : e * q = 0 := by omega
    have z3 : q = 0 := by
      rcases Int.mul_eq_zero.mp z2 with h | h
      · omega
      · exact h
    subst z1 z3
    split <;> omega
  · have e1 : f + (e * q + r) - f = e * q + r := by omega
    rw [e1, a, b]
theorem split_of {f e t : Int} (he : 1 ≤ e) (ht : f ≤ t) : ∃ q r, 0 ≤ q ∧ 0 ≤ r ∧ r < e ∧ t = f + (e * q + r) := by
  refine ⟨(t - f) / e, (t - f) % e, Int.ediv_nonneg (by omega) (by omega), Int.emod_nonneg _ (by omega), Int.emod_lt_of_pos _ (by omega), ?_⟩
  have := Int.mul_ediv_add_emod (t - f) e
  omega
theorem openAt_of {f e l q r : Int} (hq : 0 ≤ q) (hr : 0 ≤ r) (hr2 : r < e) : openAt f e l (f + (e * q + r)) = decide (r < l) := by
  have eq0 : 0 ≤ e * q := Int.mul_nonneg (by omega) hq
  unfold openAt
  have e1 : f + (e * q + r) - f = e * q + r := by omega
  rw [e1, (div_emod_of (a := e * q + r) (e := e) (q := q) (r := r) rfl hr hr2).2]
  simp
  omega
theorem ahOf_low {f e l t : Int} (h : t ≤ f) : ahOf f e l t = 0 := by unfold ahOf; rw [if_pos h]
/-- one more just behind an open turn -/
theorem ahOf_succ {f e l t : Int} (he : 1 ≤ e) (hl : 1 ≤ l) (hle : l ≤ e) : ahOf f e l (t + 1) = ahOf f e l t + (if openAt f e l t then 1 else 0) := by
  by_cases h : t < f
  · have o : openAt f e l t = false := by unfold openAt; simp; omega
    rw [ahOf_low (by omega), ahOf_low (by omega), o]; rfl
  · obtain ⟨q, r, hq, hr, hr2, rfl⟩ := split_of he (show f ≤ t by omega)
    rw [ahOf_of hq hr hr2 (by omega), openAt_of hq hr hr2]
    by_cases hn : r + 1 < e
    · have e1 : f + (e * q + r) + 1 = f + (e * q + (r + 1)) := by omega
      rw [e1, ahOf_of hq (by omega) hn (by omega)]
      by_cases hrl : r < l
      · simp only [hrl, decide_true, if_true]
        rw [if_neg (by omega), if_neg (by omega)]; omega
      · simp only [hrl, decide_false]
        rw [if_pos (by omega)]
        split <;> simp <;> omega
    · have e1 : f + (e * q + r) + 1 = f + (e * (q + 1) + 0) := by rw [Int.mul_add, Int.mul_one]; omega
      rw [e1, ahOf_of (by omega) (by omega) (by omega) (by omega), Int.add_mul, Int.one_mul]
      by_cases hrl : r < l
      · simp only [hrl, decide_true, if_true]
        rw [if_neg (by omega), if_neg (by omega)]; omega
      · simp only [hrl, decide_false]
        rw [if_neg (by omega)]
        split <;> simp <;> omega
theorem ahOf_nn {f e l t : Int} (he : 1 ≤ e) (hl : 1 ≤ l) (hle : l ≤ e) : 0 ≤ ahOf f e l t := by
  by_cases h : t < f
  · rw [ahOf_low (by omega)]; exact Int.le_refl 0
  · obtain ⟨q, r, hq, hr, hr2, rfl⟩ := split_of he (show f ≤ t by omega)
    rw [ahOf_of hq hr hr2 (by omega)]
    have := Int.mul_nonneg hq (show 0 ≤ l by omega)
    split <;> omega
/-- the turn of a number: its rounds and rest -/
theorem otOf_of {f e l q r : Int} (hr : 0 ≤ r) (hr2 : r < l) : otOf f e l (l * q + r) = f + (e * q + r) := by
  obtain ⟨a, b⟩ := div_emod_of (a := l * q + r) (e := l) (q := q) (r := r) rfl hr hr2
  unfold otOf
  rw [a, b, Int.mul_comm e q]
  omega
theorem ot_split {f e l n : Int} (hn : 0 ≤ n) (he : 1 ≤ e) (hl : 1 ≤ l) (hle : l ≤ e) : openAt f e l (otOf f e l n) = true ∧ ahOf f e l (otOf f e l n) = n := by
  obtain ⟨q, r, hq, hr, hr2, h⟩ := split_of (f := 0) (e := l) (t := n) hl hn
  have h' : n = l * q + r := by omega
  rw [h', otOf_of hr hr2, openAt_of hq hr (by omega), ahOf_of hq hr (by omega) (by omega)]
  refine ⟨by simpa using hr2, ?_⟩
  rw [if_neg (by omega), Int.mul_comm]
theorem ot_back {f e l t : Int} (he : 1 ≤ e) (hl : 1 ≤ l) (hle : l ≤ e) (ho : openAt f e l t = true) : otOf f e l (ahOf f e l t) = t := by
  have hft : f ≤ t := by unfold openAt at ho; simp at ho; omega
  obtain ⟨q, r, hq, hr, hr2, rfl⟩ := split_of he hft
  rw [openAt_of hq hr hr2] at ho
  simp at ho
  rw [ahOf_of hq hr hr2 (by omega), if_neg (by omega), Int.mul_comm, otOf_of hr ho]
theorem ahOf_le {f e l t : Int} (h : BtOk f e l) (ht : 0 ≤ t) : ahOf f e l t ≤ t := by
  obtain ⟨h1, h2, h3⟩ := h
  unfold ahOf
  split
  · exact ht
  · have q0 := Int.ediv_nonneg (show 0 ≤ t - f by omega) (show 0 ≤ e by omega)
    have := Int.mul_ediv_add_emod (t - f) e
    have m := Int.mul_le_mul_of_nonneg_left h3.2 q0
    rw [Int.mul_comm _ e] at m
    have m0 := Int.emod_nonneg (t - f) (show e ≠ 0 by omega)
    split <;> omega
def B_ahead : Ss := (.cons (.unp (.t [(.n 2), (.n 3), (.n 4)]) (.var 0)) (.cons (.ifs (.cmp .le (.var 1) (.var 2)) (.cons (.ret (.int 0)) .nil) .nil) (.cons (.unp (.t [(.n 5), (.n 6)]) (.blt .divmod (.cons (.bin .sub (.var 1) (.var 2)) (.cons (.var 3) .nil)))) (.cons (.ret (.bin .add (.bin .mul (.var 5) (.var 4)) (.blt .min2 (.cons (.var 6) (.cons (.var 4) .nil))))) .nil))))
theorem ahead_ok (c : Calls) {f e l t : Int} (h : BtOk f e l) (ht : t.natAbs < 2 ^ 1000) : evF c 2 7 B_ahead [.cl (beatD f e l), .cl (.int t)] = .ok (.cl (.int (ahOf f e l t))) := by
  obtain ⟨h1, h2, h3⟩ := h
  refine evF_rt rfl ?_
  unfold B_ahead ahOf
  by_cases ht2 : t ≤ f
  · simp [ht2]
  · have d1 := blt_divmod (i := t - f) (j := e) (by omega) (log_of 200 (by omega))
    have q0 := Int.ediv_nonneg (show 0 ≤ t - f by omega) (show 0 ≤ e by omega)
    have q1 : (t - f) / e ≤ t - f := Int.ediv_le_self _ (by omega)
    have m := bopI_mul (i := (t - f) / e) (j := l) (mul_okN 1001 200 (by omega) (by omega))
    simp [ht2, d1, m]
def B_oturn : Ss := (.cons (.unp (.t [(.n 2), (.n 3), (.n 4)]) (.var 0)) (.cons (.unp (.t [(.n 5), (.n 6)]) (.blt .divmod (.cons (.var 1) (.cons (.var 4) .nil)))) (.cons (.ret (.bin .add (.bin .add (.var 2) (.bin .mul (.var 5) (.var 3))) (.var 6))) .nil)))
theorem oturn_ok (c : Calls) {f e l n : Int} (h : BtOk f e l) (hn : 0 ≤ n) (ht : n.natAbs < 2 ^ 1000) : evF c 2 7 B_oturn [.cl (beatD f e l), .cl (.int n)] = .ok (.cl (.int (otOf f e l n))) := by
  obtain ⟨h1, h2, h3⟩ := h
  refine evF_rt rfl ?_
  unfold B_oturn otOf
  have d1 := blt_divmod (i := n) (j := l) (by omega) (log_of 200 (by omega))
  have q0 := Int.ediv_nonneg hn (show 0 ≤ l by omega)
  have q1 : n / l ≤ n := Int.ediv_le_self _ hn
  have m := bopI_mul (i := n / l) (j := e) (mul_okN 1001 200 (by omega) (by omega))
  simp [d1, m]
@[simp] theorem pow_25 : bopI .pow 10 25 = some (.int 10000000000000000000000000) := by rw [bopI_pow10 (by decide) (by decide)]; rfl
def farOf (ns : List Int) (k : Int) : Int := if lawBy ns k 3 = 0 then cellAt ns k % 10000000000000000000000000000000000000000 else 0
theorem farOf_b (ns : List Int) (k : Int) : 0 ≤ farOf ns k ∧ farOf ns k ≤ 10000000000000000000000000000000000000000 := by
  unfold farOf; split <;> omega
def B_far : Ss := (.cons (.ifs (.cmp .eq (.call "_law_by" (.cons (.var 0) (.cons (.var 1) (.cons (.int 3) .nil)))) (.int 0)) (.cons (.ret (.bin .mod (.call "_law_cell_at" (.cons (.var 0) (.cons (.var 1) .nil))) (.bin .pow (.int 10) (.int 40)))) .nil) .nil) (.cons (.ret (.int 0)) .nil))
theorem far_ok {c : Calls} (d : Draws c) (ns : List Int) (hl : ns.length ≤ 63) (k : Int) (hk : 0 ≤ k) (hk2 : k ≤ 10000) : evF c 2 2 B_far [.cl (scr ns), .cl (.int k)] = .ok (.cl (.int (farOf ns k))) := by
  refine evF_rt rfl ?_
  unfold B_far farOf
  by_cases h : lawBy ns k 3 = 0 <;> simp (disch := omega) [d.cell, d.by_ ns _ _ hl, bopI_mod, h]
def B_whole : Ss := (.cons (.ret (.and (.isi .int (.var 0)) (.and (.not (.isi .bool (.var 0))) (.cmp .eq (.var 0) (.var 1))))) .nil)
theorem whole_ok (c : Calls) (i j : Int) : evF c 2 2 B_whole [.cl (.int i), .cl (.int j)] = .ok (.cl (.bl (decide (i = j)))) := by
  refine evF_rt rfl ?_
  unfold B_whole
  simp [D.ty, isTy, Ty.nm]
def B_lopen : Ss := (.cons (.ret (.and (.cmp .ge (.var 1) (.sub (.var 0) (.int 0))) (.cmp .lt (.bin .mod (.bin .sub (.var 1) (.sub (.var 0) (.int 0))) (.sub (.var 0) (.int 1))) (.sub (.var 0) (.int 2))))) .nil)
theorem lopen_ok (c : Calls) {f e l t : Int} (h : 1 ≤ e) : evF c 2 2 B_lopen [.cl (beatD f e l), .cl (.int t)] = .ok (.cl (.bl (openAt f e l t))) := by
  refine evF_rt rfl ?_
  unfold B_lopen
  simp (disch := omega) [bopI_mod, openAt]
def B_isopen : Ss := (.cons (.unp (.t [(.n 2), (.n 3), (.n 4)]) (.var 0)) (.cons (.ret (.and (.cmp .ge (.var 1) (.var 2)) (.cmp .lt (.bin .mod (.bin .sub (.var 1) (.var 2)) (.var 3)) (.var 4)))) .nil))
theorem isopen_ok (c : Calls) {f e l t : Int} (h : 1 ≤ e) : evF c 2 5 B_isopen [.cl (beatD f e l), .cl (.int t)] = .ok (.cl (.bl (openAt f e l t))) := by
  refine evF_rt rfl ?_
  unfold B_isopen
  simp (disch := omega) [bopI_mod, openAt]
end Mo
namespace Mo
open PySem PySem.Spec PyProof.Rows L2
/-! ### rows of words and what stands for each -/
abbrev Wo := List Nat
abbrev kD (w : Wo) : D := .str (SX.S w)
theorem S_inj {a b : Wo} : SX.S a = SX.S b ↔ a = b := ⟨fun h => by
  have := congrArg (fun s : Str => s.cps.toList) h
  exact this, fun h => by rw [h]⟩
section
variable {β : Type}
def aget : List (Wo × β) → Wo → Option β
  | [], _ => none
  | p :: T, k => if p.1 = k then some p.2 else aget T k
def aput : List (Wo × β) → Wo → β → List (Wo × β)
  | [], k, v => [(k, v)]
  | p :: T, k, v => if p.1 = k then (p.1, v) :: T else p :: aput T k v
theorem aget_put (T : List (Wo × β)) (k j : Wo) (v : β) : aget (aput T k v) j = if k = j then some v else aget T j := by
  induction T with
  | nil => rfl
  | cons p T ih =>
    unfold aput
    by_cases h : p.1 = k
    · rw [if_pos h]
      show (if p.1 = j then some v else aget T j) = if k = j then some v else if p.1 = j then some p.2 else aget T j
      rw [h]
      by_cases q : k = j <;> simp [q]
    · rw [if_neg h]
      show (if p.1 = j then some p.2 else aget (aput T k v) j) = if k = j then some v else if p.1 = j then some p.2 else aget T j
      rw [ih]
      by_cases q : k = j
      · subst q; simp [h]
      · simp [q]
theorem aput_keys (T : List (Wo × β)) (k : Wo) (v : β) : (aput T k v).map (·.1) = if k ∈ T.map (·.1) then T.map (·.1) else T.map (·.1) ++ [k] := by
  induction T with
  | nil => rfl
  | cons p T ih =>
    unfold aput
    by_cases h : p.1 = k
    · rw [if_pos h]; simp [h]
    · rw [if_neg h]
      simp only [List.map_cons]
      rw [ih]
      have h' : ¬ k = p.1 := fun z => h z.symm
      by_cases q : k ∈ T.map (·.1)
      · rw [if_pos q, if_pos (List.mem_cons_of_mem _ q)]
      · rw [if_neg q, if_neg (fun z => (List.mem_cons.mp z).elim h' q)]; rfl
theorem aget_none {T : List (Wo × β)} {k : Wo} : aget T k = none ↔ k ∉ T.map (·.1) := by
  induction T with
  | nil => simp [aget]
  | cons p T ih =>
    unfold aget
    by_cases h : p.1 = k
    · simp [h]
    · rw [if_neg h, ih, List.map_cons, List.mem_cons]
      exact ⟨fun z q => q.elim (fun y => h y.symm) z, fun z q => z (.inr q)⟩
theorem aget_some {T : List (Wo × β)} {k : Wo} : (∃ v, aget T k = some v) ↔ k ∈ T.map (·.1) := by
  cases h : aget T k with
  | none => simp [aget_none.mp h]
  | some v =>
    refine ⟨fun _ => Classical.byContradiction fun z => ?_, fun _ => ⟨v, rfl⟩⟩
    rw [aget_none.mpr z] at h; cases h
theorem aget_isSome {T : List (Wo × β)} {k : Wo} : (aget T k).isSome = decide (k ∈ T.map (·.1)) := by
  by_cases h : k ∈ T.map (·.1)
  · obtain ⟨v, e⟩ := aget_some.mpr h
    rw [e]; simp [h]
  · rw [aget_none.mpr h]; simp [h]
theorem aput_len (T : List (Wo × β)) (k : Wo) (v : β) : (aput T k v).length ≤ T.length + 1 := by
  have := congrArg List.length (aput_keys T k v)
  rw [List.length_map] at this
  rw [this]
  split <;> simp
theorem aget_mem {T : List (Wo × β)} {k : Wo} {v : β} (h : aget T k = some v) : (k, v) ∈ T := by
  induction T with
  | nil => cases h
  | cons p T ih =>
    unfold aget at h
    by_cases q : p.1 = k
    · rw [if_pos q] at h; cases h; subst q; exact List.mem_cons_self
    · rw [if_neg q] at h; exact List.mem_cons_of_mem _ (ih h)
theorem aget_of {T : List (Wo × β)} (nd : (T.map (·.1)).Nodup) {k : Wo} {v : β} (h : (k, v) ∈ T) : aget T k = some v := by
  induction T with
  | nil => cases h
  | cons p T ih =>
    rw [List.map_cons, List.nodup_cons] at nd
    unfold aget
    rcases List.mem_cons.mp h with h | h
    · rw [← h]; simp
    · have hne : ¬ p.1 = k := fun z => nd.1 (by rw [z]; exact List.mem_map.mpr ⟨(k, v), h, rfl⟩)
      rw [if_neg hne]; exact ih nd.2 h
theorem aput_nd {T : List (Wo × β)} (nd : (T.map (·.1)).Nodup) (k : Wo) (v : β) : ((aput T k v).map (·.1)).Nodup := by
  rw [aput_keys]
  split
  · exact nd
  · rename_i h
    exact List.nodup_append.mpr ⟨nd, by simp, fun a ha b hb e => h (by rw [List.mem_singleton] at hb; rw [← hb, ← e]; exact ha)⟩
theorem aput_new {T : List (Wo × β)} {k : Wo} {v : β} (h : k ∉ T.map (·.1)) : aput T k v = T ++ [(k, v)] := by
  induction T with
  | nil => rfl
  | cons p T ih =>
    rw [List.map_cons, List.mem_cons] at h
    unfold aput
    rw [if_neg (fun z => h (.inl z.symm)), ih (fun z => h (.inr z))]; rfl
end
/-! ### dicts by words -/
def wD {β : Type} (f : β → D) (T : List (Wo × β)) : D := .dct (T.map fun p => kD p.1) (T.map fun p => f p.2)
def wM {β : Type} (f : β → D) (T : List (Wo × β)) : MO := .dct (T.map fun p => kD p.1) (T.map fun p => .cl (f p.2))
section
variable {β : Type} (f : β → D) (T : List (Wo × β))
theorem wM_toD : (wM f T).toD = wD f T := by
  unfold wM wD
  simp only [MO.toD]
  rw [toDL_map]
theorem dic_wM : MO.dic (wM f T) = some (T.map fun p => kD p.1, T.map fun p => .cl (f p.2)) := rfl
theorem dic_wD : MO.dic (.cl (wD f T)) = some (T.map fun p => kD p.1, T.map fun p => .cl (f p.2)) := by
  show some (_, (T.map fun p => f p.2).map MO.cl) = _
  rw [List.map_map]; rfl
theorem dget_w (k : Wo) : dget (T.map fun p => kD p.1) (T.map fun p => MO.cl (f p.2)) (kD k) = (aget T k).map fun v => .cl (f v) := by
  unfold dget dfind
  induction T with
  | nil => rfl
  | cons p T ih =>
    rw [List.map_cons, List.map_cons, List.findIdx?_cons]
    unfold aget
    by_cases h : p.1 = k
    · subst h; simp [eqK]
    · have : eqK (kD p.1) (kD k) = false := by simp [eqK, S_inj, h]
      rw [this, if_neg h]
      simp only [Bool.false_eq_true, if_false]
      rw [← ih]
      cases List.findIdx? (fun x => eqK x (kD k)) (T.map fun p => kD p.1) <;> simp
theorem dfind_w (k : Wo) : (dfind (T.map fun p => kD p.1) (kD k)).isSome = (aget T k).isSome := by
  unfold dfind
  induction T with
  | nil => rfl
  | cons p T ih =>
    rw [List.map_cons, List.findIdx?_cons]
    unfold aget
    by_cases h : p.1 = k
    · subst h; simp [eqK]
    · have : eqK (kD p.1) (kD k) = false := by simp [eqK, S_inj, h]
      rw [this, if_neg h]
      simp only [Bool.false_eq_true, if_false]
      rw [← ih]
      cases List.findIdx? (fun x => eqK x (kD k)) (T.map fun p => kD p.1) <;> simp
theorem dfind_wN (k : Wo) : (dfind (T.map fun p => kD p.1) (kD k)).isNone = (aget T k).isNone := by
  have := dfind_w T k
  cases h : dfind (T.map fun p => kD p.1) (kD k) <;> rw [h] at this <;> cases q : aget T k <;> rw [q] at this <;> simp_all
theorem dput_w (k : Wo) (v : β) : dput (T.map fun p => kD p.1) (T.map fun p => MO.cl (f p.2)) (kD k) (.cl (f v)) = ((aput T k v).map (fun p => kD p.1), (aput T k v).map fun p => MO.cl (f p.2)) := by
  induction T with
  | nil => rfl
  | cons p T ih =>
    unfold dput dfind at ih ⊢
    rw [List.map_cons, List.map_cons, List.findIdx?_cons]
    unfold aput
    by_cases h : p.1 = k
    · subst h; simp [eqK]
    · have : eqK (kD p.1) (kD k) = false := by simp [eqK, S_inj, h]
      rw [this, if_neg h]
      simp only [Bool.false_eq_true, if_false]
      cases q : List.findIdx? (fun x => eqK x (kD k)) (T.map fun p => kD p.1) with
      | none => rw [q] at ih; simp only [Option.map_none] at ih ⊢; rw [List.map_cons, List.map_cons]; rw [Prod.mk.injEq] at ih; rw [← ih.1, ← ih.2]; rfl
      | some j => rw [q] at ih; simp only [Option.map_some] at ih ⊢; rw [List.map_cons, List.map_cons]; rw [Prod.mk.injEq] at ih; rw [← ih.1, ← ih.2]; rfl
/-- what reads as such a dict -/
inductive WX_ (x : XV) : Prop
  | lk (h : x = .lk (wM f T)) | tm (h : x = .tm (wM f T)) | cl (h : x = .cl (wD f T))
variable {f T}
theorem idx_w {x : XV} (h : WX_ f T x) {k : Wo} {v : β} (hv : aget T k = some v) : idx x (.cl (kD k)) = some (.cl (f v)) := by
  rcases h with h | h | h <;> subst h
  · simp only [idx, mo_lk, dic_wM, isK, if_true, dget_w, hv, Option.map_some, sub_clS]
  · simp only [idx, mo_tm, dic_wM, isK, if_true, dget_w, hv, Option.map_some, sub_clS]
  · simp only [idx, mo_cl, dic_wD, isK, if_true, dget_w, hv, Option.map_some, sub_clS]
theorem in_w {x : XV} (h : WX_ f T x) (k : Wo) : cmpF .in_ (.cl (kD k)) x = .ok (.cl (.bl (aget T k).isSome)) := by
  have key : cmpF .in_ (.cl (kD k)) (.cl (wD f T)) = .ok (.cl (.bl (aget T k).isSome)) := by
    unfold cmpF wD
    simp only [xd_cl, cop, isK, if_true, R.of_some, R.bind_ok, dfind_w]
  rcases h with h | h | h <;> subst h
  · rw [← key]; unfold cmpF; simp only [xd_lk, xd_cl, wM_toD]
  · rw [← key]; unfold cmpF; simp only [xd_tm, xd_cl, wM_toD]
  · exact key
theorem notIn_w {x : XV} (h : WX_ f T x) (k : Wo) : cmpF .notIn (.cl (kD k)) x = .ok (.cl (.bl (aget T k).isNone)) := by
  have key : cmpF .notIn (.cl (kD k)) (.cl (wD f T)) = .ok (.cl (.bl (aget T k).isNone)) := by
    unfold cmpF wD
    simp only [xd_cl, cop, isK, if_true, R.of_some, R.bind_ok, dfind_wN]
  rcases h with h | h | h <;> subst h
  · rw [← key]; unfold cmpF; simp only [xd_lk, xd_cl, wM_toD]
  · rw [← key]; unfold cmpF; simp only [xd_tm, xd_cl, wM_toD]
  · exact key
theorem len_w {x : XV} (h : WX_ f T x) : lenB [x] = some (.cl (.int T.length)) := by
  rcases h with h | h | h <;> subst h
  · simp only [lenB, lenX, mo_lk, wM, MO.kids, MO.dic, List.length_map, Option.map_some]
  · simp only [lenB, lenX, mo_tm, wM, MO.kids, MO.dic, List.length_map, Option.map_some]
  · simp only [lenB, lenX, mo_cl, wD, MO.kids, MO.dic, List.length_map, Option.map_some]
theorem keys_lk : keysI (.lk (wM f T)) = .ok (T.map fun p => kD p.1) := rfl
theorem keys_cl : keysI (.cl (wD f T)) = .ok (T.map fun p => kD p.1) := rfl
theorem list_w {x : XV} (h : WX_ f T x) : blt .list1 [x] = some (.nw (.lst ((T.map fun p => kD p.1).map .cl))) := by
  rcases h with h | h | h <;> subst h <;> rfl
/-- a key put -/
theorem evS_stw (c : Calls) {sl : Sl} {i : Nat} {ke e : E} {k : Wo} {v : β} (h : sl[i]? = some (.ow (wM f T))) (he : evE c e sl = .ok (.cl (f v))) (hk : evE c ke sl = .ok (.cl (kD k))) (hl : T.length < 1000000) : evS c (.pst (.v i) ke e) sl = some (.nx (sl.set i (.ow (wM f (aput T k v))))) := by
  have hl' : (T.map fun p => kD p.1).length < sizeLine := by rw [List.length_map]; exact Nat.lt_of_lt_of_le hl (by decide)
  simp only [evS_pst, he, out_ok, plF_v, ptV_ow h, hk]
  show pstF sl ⟨i, [], .dct (T.map fun p => kD p.1) (T.map fun p => .cl (f p.2))⟩ _ _ = _
  unfold pstF
  simp only [item_cl, isK, hl', decide_true, Bool.and_self, if_true, dput_w]
  rw [putS_ow h]; rfl
end
end Mo
namespace Mo
open PySem PySem.Spec PyProof.Rows L2
/-! ### nets -/
structure Sg where
  a : Wo
  b : Wo
  f : Int
  e : Int
  l : Int
deriving Inhabited
def Sg.d (s : Sg) : D := .tup [kD s.a, kD s.b, beatD s.f s.e s.l]
structure SgOk (s : Sg) : Prop where
  a : OkS_ s.a
  b : OkS_ s.b
  ne : s.a ≠ s.b
  f : 0 ≤ s.f
  e : 1 ≤ s.e
  l : 1 ≤ s.l
  le : s.l ≤ s.e
abbrev Hs := List (Wo × (Bool × Int))
def roomD (p : Bool × Int) : D := .tup [.bl p.1, .int p.2]
def sgsM (ss : List Sg) : MO := .lst (ss.map fun s => .cl s.d)
def fHou : Str := Str.ofString "my_houses"
def fSig : Str := Str.ofString "my_sights"
def netM (hs : Hs) (ss : List Sg) : MO := .ins (Str.ofString "Net") [fHou, fSig] [wM roomD hs, sgsM ss]
theorem fne : (decide (fHou = fSig) : Bool) = false := by decide +kernel
theorem fne' : (decide (fSig = fHou) : Bool) = false := by decide +kernel
section
variable (hs : Hs) (ss : List Sg)
theorem inst_net : MO.inst (netM hs ss) = some (Str.ofString "Net", [fHou, fSig], [wM roomD hs, sgsM ss]) := rfl
theorem fi_h : List.findIdx? (fun g => decide (g = fHou)) [fHou, fSig] = some 0 := by simp [List.findIdx?_cons]
theorem fi_s : List.findIdx? (fun g => decide (g = fSig)) [fHou, fSig] = some 1 := by
  rw [List.findIdx?_cons, fne, List.findIdx?_cons]; simp
theorem fld_hL : fldF "Net" (Str.ofString "my_houses") (.lk (netM hs ss)) = some (.lk (wM roomD hs)) := by
  show fldF "Net" fHou _ = _
  simp only [fldF, mo_lk, Option.bind_some, inst_net, if_true, fi_h]
  rfl
theorem fld_hT : fldF "Net" (Str.ofString "my_houses") (.tm (netM hs ss)) = some (.tm (wM roomD hs)) := by
  show fldF "Net" fHou _ = _
  simp only [fldF, mo_tm, Option.bind_some, inst_net, if_true, fi_h]
  rfl
theorem fld_sL : fldF "Net" (Str.ofString "my_sights") (.lk (netM hs ss)) = some (.lk (sgsM ss)) := by
  show fldF "Net" fSig _ = _
  simp only [fldF, mo_lk, Option.bind_some, inst_net, if_true, fi_s]
  rfl
theorem fld_sT : fldF "Net" (Str.ofString "my_sights") (.tm (netM hs ss)) = some (.tm (sgsM ss)) := by
  show fldF "Net" fSig _ = _
  simp only [fldF, mo_tm, Option.bind_some, inst_net, if_true, fi_s]
  rfl
theorem isIns_L {m : String} (h : decide (fHou = Str.ofString m) = false) (h2 : decide (fSig = Str.ofString m) = false) : isIns "Net" (Str.ofString m) (.lk (netM hs ss)) = true := by
  simp only [isIns, mo_lk, inst_net, List.any_cons, List.any_nil, h, h2, decide_true]
  rfl
theorem isIns_T {m : String} (h : decide (fHou = Str.ofString m) = false) (h2 : decide (fSig = Str.ofString m) = false) : isIns "Net" (Str.ofString m) (.tm (netM hs ss)) = true := by
  simp only [isIns, mo_tm, inst_net, List.any_cons, List.any_nil, h, h2, decide_true]
  rfl
theorem isA1 : isIns "Net" (Str.ofString "known") (.lk (netM hs ss)) = true := isIns_L hs ss (by decide +kernel) (by decide +kernel)
theorem isA2 : isIns "Net" (Str.ofString "known") (.tm (netM hs ss)) = true := isIns_T hs ss (by decide +kernel) (by decide +kernel)
theorem isB1 : isIns "Net" (Str.ofString "sights_at") (.lk (netM hs ss)) = true := isIns_L hs ss (by decide +kernel) (by decide +kernel)
theorem isB2 : isIns "Net" (Str.ofString "sights_at") (.tm (netM hs ss)) = true := isIns_T hs ss (by decide +kernel) (by decide +kernel)
theorem isC1 : isIns "Net" (Str.ofString "sight") (.lk (netM hs ss)) = true := isIns_L hs ss (by decide +kernel) (by decide +kernel)
theorem isC2 : isIns "Net" (Str.ofString "sight") (.tm (netM hs ss)) = true := isIns_T hs ss (by decide +kernel) (by decide +kernel)
theorem isD1 : isIns "Net" (Str.ofString "houses") (.lk (netM hs ss)) = true := isIns_L hs ss (by decide +kernel) (by decide +kernel)
theorem isD2 : isIns "Net" (Str.ofString "houses") (.tm (netM hs ss)) = true := isIns_T hs ss (by decide +kernel) (by decide +kernel)
theorem isE2 : isIns "Net" (Str.ofString "add_house") (.tm (netM hs ss)) = true := isIns_T hs ss (by decide +kernel) (by decide +kernel)
theorem isF2 : isIns "Net" (Str.ofString "add_sight") (.tm (netM hs ss)) = true := isIns_T hs ss (by decide +kernel) (by decide +kernel)
theorem isG1 : isIns "Net" (Str.ofString "many") (.lk (netM hs ss)) = true := isIns_L hs ss (by decide +kernel) (by decide +kernel)
theorem isG2 : isIns "Net" (Str.ofString "many") (.tm (netM hs ss)) = true := isIns_T hs ss (by decide +kernel) (by decide +kernel)
theorem isH1 : isIns "Net" (Str.ofString "is_mast") (.lk (netM hs ss)) = true := isIns_L hs ss (by decide +kernel) (by decide +kernel)
theorem isH2 : isIns "Net" (Str.ofString "is_mast") (.tm (netM hs ss)) = true := isIns_T hs ss (by decide +kernel) (by decide +kernel)
theorem isI1 : isIns "Net" (Str.ofString "room_of") (.lk (netM hs ss)) = true := isIns_L hs ss (by decide +kernel) (by decide +kernel)
theorem isI2 : isIns "Net" (Str.ofString "room_of") (.tm (netM hs ss)) = true := isIns_T hs ss (by decide +kernel) (by decide +kernel)
/-- a sight's row -/
theorem atI_ss {i : Int} {s : Sg} (h0 : 0 ≤ i) (h : ss[i.toNat]? = some s) : atI (ss.map fun s => MO.cl s.d) i = some (.cl s.d) := atI_nn h0 (by rw [List.getElem?_map, h]; rfl)
variable {ss}
theorem idx_sL {i : Int} {s : Sg} (h0 : 0 ≤ i) (h : ss[i.toNat]? = some s) : idx (.lk (sgsM ss)) (.cl (.int i)) = some (.cl s.d) := by
  unfold sgsM
  simp only [idx, mo_lk, dic_lst', kids_lst', atI_ss ss h0 h, Option.map_some, sub_clS]
theorem idx_sT {i : Int} {s : Sg} (h0 : 0 ≤ i) (h : ss[i.toNat]? = some s) : idx (.tm (sgsM ss)) (.cl (.int i)) = some (.cl s.d) := by
  unfold sgsM
  simp only [idx, mo_tm, dic_lst', kids_lst', atI_ss ss h0 h, Option.map_some, sub_clS]
theorem len_sL : lenB [.lk (sgsM ss)] = some (.cl (.int ss.length)) := by unfold sgsM; rw [lenB_lk, List.length_map]
theorem len_sT : lenB [.tm (sgsM ss)] = some (.cl (.int ss.length)) := by unfold sgsM; rw [lenB_tm, List.length_map]
end
theorem idxG0 (s : Sg) : idx (.cl s.d) (.cl (.int 0)) = some (.cl (kD s.a)) := idxT0
theorem idxG1 (s : Sg) : idx (.cl s.d) (.cl (.int 1)) = some (.cl (kD s.b)) := idxT1
theorem idxG2 (s : Sg) : idx (.cl s.d) (.cl (.int 2)) = some (.cl (beatD s.f s.e s.l)) := idxT2
theorem sli2 (s : Sg) : sliF (.cl s.d) none (some 2) = some (.cl (.tup [kD s.a, kD s.b])) := by
  unfold sliF Sg.d
  simp only [mo_cl]
  rw [cut_to _ (by decide)]
  rfl
theorem in_two (w a b : Wo) : cmpF .in_ (.cl (kD w)) (.cl (.tup [kD a, kD b])) = .ok (.cl (.bl (decide (w = a) || decide (w = b)))) := by
  have : inD (kD w) [kD a, kD b] = some (decide (w = a) || decide (w = b)) := by
    show some (inV (.str (SX.S w)) [.str (SX.S a), .str (SX.S b)]) = _
    have e : ∀ a b : Wo, eqV (.str (SX.S a)) (.str (SX.S b)) = decide (b = a) := fun a b => by
      have : eqV (.str (SX.S a)) (.str (SX.S b)) = decide (SX.S a = SX.S b) := by first | rfl | (unfold eqV; rfl) | simp [eqV]
      rw [this]
      by_cases h : b = a
      · simp [h]
      · have : ¬ a = b := fun z => h z.symm
        simp [h, this, S_inj]
    unfold inV
    simp [e]
  unfold cmpF cop
  simp [this]
end Mo
namespace Mo
open PySem PySem.Spec PyProof.Rows L2
-- 0 self
def B_Net___init__ : Ss := (.cons (.pfs (.v 0) "Net" "my_houses" .dnew) (.cons (.pfs (.v 0) "Net" "my_sights" (.lst .nil)) .nil))
-- 0 word, 1 sign
def B_good_name : Ss := (.cons (.ifs (.or (.cmp .lt (.blt .len (.cons (.var 0) .nil)) (.int 1)) (.cmp .gt (.blt .len (.cons (.var 0) .nil)) (.int 8))) (.cons (.ret (.bl false)) .nil) .nil) (.cons (.for_ (.n 1) (.exp (.var 0)) (.cons (.ifs (.cmp .notIn (.var 1) (.gs "LETTERS" (Str.ofString "abcdefghijklmnopqrstuvwxyz"))) (.cons (.ret (.bl false)) .nil) .nil) .nil)) (.cons (.ret (.bl true)) .nil)))
-- 0 self, 1 name, 2 mast, 3 room
def B_Net_add_house : Ss := (.cons (.ifs (.not (.call "good_name" (.cons (.var 1) .nil))) (.cons (.rse "BadName") .nil) .nil) (.cons (.ifs (.cmp .in_ (.var 1) (.fld "Net" (.var 0) "my_houses")) (.cons (.rse "Twice") .nil) .nil) (.cons (.ifs (.cmp .lt (.var 3) (.int 0)) (.cons (.rse "BadRoom") .nil) .nil) (.cons (.pst (.f (.v 0) "Net" "my_houses") (.var 1) (.tup (.cons (.var 2) (.cons (.var 3) .nil)))) .nil))))
-- 0 self, 1 name
def B_Net_known : Ss := (.cons (.ifs (.cmp .notIn (.var 1) (.fld "Net" (.var 0) "my_houses")) (.cons (.rse "NoHouse") .nil) .nil) (.cons (.ret (.sub (.fld "Net" (.var 0) "my_houses") (.var 1))) .nil))
-- 0 beat, 1 first, 2 every, 3 long
def B_checked : Ss := (.cons (.unp (.t [(.n 1), (.n 2), (.n 3)]) (.var 0)) (.cons (.ifs (.or (.cmp .lt (.var 1) (.int 0)) (.or (.cmp .lt (.var 2) (.int 1)) (.or (.cmp .lt (.var 3) (.int 1)) (.cmp .gt (.var 3) (.var 2))))) (.cons (.rse "BadRound") .nil) .nil) (.cons (.ret (.tup (.cons (.var 1) (.cons (.var 2) (.cons (.var 3) .nil))))) .nil)))
-- 0 self, 1 one, 2 other, 3 turning
def B_Net_add_sight : Ss := (.cons (.ex (.mth "Net" "known" (.var 0) (.cons (.var 1) .nil))) (.cons (.ex (.mth "Net" "known" (.var 0) (.cons (.var 2) .nil))) (.cons (.ifs (.cmp .eq (.var 1) (.var 2)) (.cons (.rse "Twice") .nil) .nil) (.cons (.papp (.f (.v 0) "Net" "my_sights") (.tup (.cons (.var 1) (.cons (.var 2) (.cons (.call "checked" (.cons (.var 3) .nil)) .nil))))) (.cons (.ret (.bin .sub (.blt .len (.cons (.fld "Net" (.var 0) "my_sights") .nil)) (.int 1))) .nil)))))
-- 0 self, 1 name, 2 told, 3 number
def B_Net_sights_at : Ss := (.cons (.ex (.mth "Net" "known" (.var 0) (.cons (.var 1) .nil))) (.cons (.asg 2 (.lst .nil)) (.cons (.for_ (.n 3) (.rng1 (.blt .len (.cons (.fld "Net" (.var 0) "my_sights") .nil))) (.cons (.ifs (.cmp .in_ (.var 1) (.fz (.sli (.sub (.fld "Net" (.var 0) "my_sights") (.var 3)) .no (.so (.int 2))))) (.cons (.papp (.v 2) (.var 3)) .nil) .nil) .nil)) (.cons (.frz 2) (.cons (.ret (.var 2)) .nil)))))
-- 0 self
def B_Net_houses : Ss := (.cons (.ret (.fz (.blt .list1 (.cons (.fld "Net" (.var 0) "my_houses") .nil)))) .nil)
-- 0 turns, 1 done, 2 best, 3 name
def B_least_of : Ss := (.cons (.asg 2 .non) (.cons (.fork (.n 3) (.var 0) (.cons (.ifs (.and (.cmp .notIn (.var 3) (.var 1)) (.or (.isN (.var 2)) (.cmp .lt (.sub (.var 0) (.var 3)) (.sub (.var 0) (.var 2))))) (.cons (.asg 2 (.var 3)) .nil) .nil) .nil)) (.cons (.ret (.var 2)) .nil)))
-- 0 beat, 1 turn, 2 size, 3 start, 4 rest, 5 first, 6 every, 7 long
def B_next_start : Ss := (.cons (.unp (.t [(.n 5), (.n 6), (.n 7)]) (.var 0)) (.cons (.asg 3 (.blt .max2 (.cons (.var 1) (.cons (.var 5) .nil)))) (.cons (.ifs (.cmp .eq (.var 7) (.var 6)) (.cons (.ret (.var 3)) .nil) .nil) (.cons (.ifs (.cmp .gt (.var 2) (.var 7)) (.cons (.ret .non) .nil) .nil) (.cons (.asg 4 (.bin .mod (.bin .sub (.var 3) (.var 5)) (.var 6))) (.cons (.ifs (.cmp .le (.bin .add (.var 4) (.var 2)) (.var 7)) (.cons (.ret (.var 3)) .nil) .nil) (.cons (.ret (.bin .add (.bin .sub (.var 3) (.var 4)) (.var 6))) .nil)))))))
-- 0 self, 1 number
def B_Net_sight : Ss := (.cons (.ifs (.or (.cmp .lt (.var 1) (.int 0)) (.cmp .ge (.var 1) (.blt .len (.cons (.fld "Net" (.var 0) "my_sights") .nil)))) (.cons (.rse "NoSight") .nil) .nil) (.cons (.ret (.sub (.fld "Net" (.var 0) "my_sights") (.var 1))) .nil))
-- 0 net, 1 number, 2 house, 3 one, 4 other, 5 turning
def B_beyond : Ss := (.cons (.unp (.t [(.n 3), (.n 4), (.n 5)]) (.mth "Net" "sight" (.var 0) (.cons (.var 1) .nil))) (.cons (.ifs (.cmp .eq (.var 2) (.var 3)) (.cons (.ret (.var 4)) .nil) .nil) (.cons (.ret (.var 3)) .nil)))
-- 0 net, 1 house, 2 turn, 3 size, 4 turns, 5 back, 6 done, 7 here, 8 number, 9 start, 10 there
def B_spread : Ss := (.cons (.asg 4 (.disp (.cons (.var 1) (.var 2) .nil))) (.cons (.asg 5 .dnew) (.cons (.asg 6 .dnew) (.cons (.whl (.cmp .lt (.blt .len (.cons (.var 6) .nil)) (.blt .len (.cons (.var 4) .nil))) (.cons (.asg 7 (.call "least_of" (.cons (.var 4) (.cons (.var 6) .nil)))) (.cons (.pst (.v 6) (.var 7) (.bl true)) (.cons (.for_ (.n 8) (.exp (.mth "Net" "sights_at" (.var 0) (.cons (.var 7) .nil))) (.cons (.asg 9 (.call "next_start" (.cons (.sub (.mth "Net" "sight" (.var 0) (.cons (.var 8) .nil)) (.int 2)) (.cons (.sub (.var 4) (.var 7)) (.cons (.var 3) .nil))))) (.cons (.asg 10 (.call "beyond" (.cons (.var 0) (.cons (.var 8) (.cons (.var 7) .nil))))) (.cons (.ifs (.and (.notN (.var 9)) (.or (.cmp .notIn (.var 10) (.var 4)) (.cmp .lt (.bin .add (.var 9) (.var 3)) (.sub (.var 4) (.var 10))))) (.cons (.pst (.v 4) (.var 10) (.bin .add (.var 9) (.var 3))) (.cons (.pst (.v 5) (.var 10) (.tup (.cons (.var 8) (.cons (.var 9) (.cons (.var 7) .nil))))) .nil)) .nil) .nil)))) .nil)))) (.cons (.frz 4) (.cons (.frz 5) (.cons (.ret (.tup (.cons (.var 4) (.cons (.var 5) .nil)))) .nil)))))))
-- 0 net, 1 house, 2 turn, 3 size, 4 turns, 5 told, 6 name
def B_comings : Ss := (.cons (.ex (.mth "Net" "sights_at" (.var 0) (.cons (.var 1) .nil))) (.cons (.asg 4 (.sub (.call "spread" (.cons (.var 0) (.cons (.var 1) (.cons (.var 2) (.cons (.var 3) .nil))))) (.int 0))) (.cons (.asg 5 .dnew) (.cons (.for_ (.n 6) (.exp (.mth "Net" "houses" (.var 0) .nil)) (.cons (.ifs (.cmp .in_ (.var 6) (.var 4)) (.cons (.pst (.v 5) (.var 6) (.sub (.var 4) (.var 6))) .nil) .nil) .nil)) (.cons (.frz 5) (.cons (.ret (.var 5)) .nil))))))
/-! ### what the defs of nets tell -/
structure NetOk (hs : Hs) (ss : List Sg) : Prop where
  nd : (hs.map (·.1)).Nodup
  ok : ∀ k ∈ hs.map (·.1), OkS_ k
  hl : hs.length ≤ 1000
  sl : ss.length ≤ 1000
  sg : ∀ s ∈ ss, SgOk s
  a : ∀ s ∈ ss, s.a ∈ hs.map (·.1)
  b : ∀ s ∈ ss, s.b ∈ hs.map (·.1)
section
variable (c : Calls) {hs : Hs} {ss : List Sg}
theorem known_ok {w : Wo} {p : Bool × Int} (h : aget hs w = some p) : evF c 2 2 B_Net_known [.lk (netM hs ss), .cl (kD w)] = .ok (.cl (roomD p)) := by
  refine evF_rt rfl ?_
  unfold B_Net_known
  have n := notIn_w (f := roomD) (T := hs) (x := .lk (wM roomD hs)) (.lk rfl) w
  have i := idx_w (f := roomD) (T := hs) (x := .lk (wM roomD hs)) (.lk rfl) h
  simp [fld_hL, n, h, i]
theorem known_no {w : Wo} (h : aget hs w = none) : evF c 2 2 B_Net_known [.lk (netM hs ss), .cl (kD w)] = .exc ⟨"NoHouse", [], []⟩ := by
  refine evF_rt rfl ?_
  unfold B_Net_known
  have n := notIn_w (f := roomD) (T := hs) (x := .lk (wM roomD hs)) (.lk rfl) w
  simp [fld_hL, n, h]
theorem sight_ok {i : Int} {s : Sg} (h0 : 0 ≤ i) (h : ss[i.toNat]? = some s) : evF c 2 2 B_Net_sight [.lk (netM hs ss), .cl (.int i)] = .ok (.cl s.d) := by
  refine evF_rt rfl ?_
  have hl : i.toNat < ss.length := (List.getElem?_eq_some_iff.mp h).1
  have a : ¬ i < 0 := by omega
  have b : ¬ (ss.length : Int) ≤ i := by omega
  unfold B_Net_sight
  simp [fld_sL, len_sL, idx_sL h0 h, a, b]
theorem houses_ok : evF c 1 1 B_Net_houses [.lk (netM hs ss)] = .ok (.cl (.lst (hs.map fun p => kD p.1))) := by
  refine evF_rt rfl ?_
  unfold B_Net_houses
  have l := list_w (f := roomD) (T := hs) (x := .lk (wM roomD hs)) (.lk rfl)
  simp [fld_hL, l, toDL_comp]
  try rfl
/-- the numbers of a house's sights -/
def sAt (ss : List Sg) (w : Wo) : List Nat := (List.range ss.length).filter fun i => match ss[i]? with
  | some s => decide (w = s.a) || decide (w = s.b)
  | none => false
theorem sAt_mem {ss : List Sg} {w : Wo} {i : Nat} : i ∈ sAt ss w ↔ ∃ s, ss[i]? = some s ∧ (w = s.a ∨ w = s.b) := by
  unfold sAt
  rw [List.mem_filter, List.mem_range]
  constructor
  · rintro ⟨h1, h2⟩
    rw [List.getElem?_eq_getElem h1] at h2 ⊢
    exact ⟨_, rfl, by simpa using h2⟩
  · rintro ⟨s, h1, h2⟩
    refine ⟨(List.getElem?_eq_some_iff.mp h1).1, ?_⟩
    rw [h1]
    simpa using h2
theorem sightsAt_ok {w : Wo} {p : Bool × Int} (hk : c "Net.known" [.lk (netM hs ss), .cl (kD w)] = .ok (.cl (roomD p))) (hl : ss.length ≤ 1000) : evF c 2 4 B_Net_sights_at [.lk (netM hs ss), .cl (kD w)] = .ok (.cl (.lst ((sAt ss w).map fun i : Nat => .int i))) := by
  refine evF_rt rfl ?_
  unfold B_Net_sights_at
  rw [evSs_cons, show evS c (.ex (.mth "Net" "known" (.var 0) (.cons (.var 1) .nil))) ([SV.lk (netM hs ss), .cl (kD w)] ++ List.replicate (4 - 2) .no) = some (.nx [.lk (netM hs ss), .cl (kD w), .no, .no]) from by simp [isA1, hk], seqO_nx]
  rw [evSs_cons, show evS c (.asg 2 (.lst .nil)) [SV.lk (netM hs ss), .cl (kD w), .no, .no] = some (.nx [.lk (netM hs ss), .cl (kD w), .ow (.lst []), .no]) from by simp, seqO_nx]
  let q : Nat → Bool := fun i => match ss[i]? with
    | some s => decide (w = s.a) || decide (w = s.b)
    | none => false
  refine for_rangeO (lo := 0) (n := ss.length) (fun o => retR [] o = _) (fun i sl => ∃ b, sl = [.lk (netM hs ss), .cl (kD w), .ow (.lst (((List.range i).filter q).map fun i : Nat => .cl (.int i))), b]) ?_ ⟨_, rfl⟩ ?_ ?_
  · simp [fld_sL, len_sL]
  · rintro i hi sl ⟨b, rfl⟩
    have hs_ : ss[i]? = some ss[i] := List.getElem?_eq_getElem hi
    have ix := idx_sL (ss := ss) (i := 0 + (i : Int)) (s := ss[i]) (by omega) (by rw [show (0 + (i : Int)).toNat = i by omega]; exact hs_)
    refine ⟨_, tgo_n _ _ _, ?_⟩
    have qi : q i = (decide (w = ss[i].a) || decide (w = ss[i].b)) := by show (match ss[i]? with | some s => _ | none => _) = _; rw [hs_]
    have lf : ((List.range i).filter q).length ≤ i := Nat.le_trans (List.length_filter_le _ _) (by rw [List.length_range]; omega)
    have ap : ((List.range (i + 1)).filter q).map (fun i : Nat => MO.cl (.int i)) = ((List.range i).filter q).map (fun i : Nat => MO.cl (.int i)) ++ if q i then [.cl (.int i)] else [] := by
      rw [List.range_succ, List.filter_append, List.map_append, List.filter_cons, List.filter_nil]
      split <;> rfl
    rw [ap]
    cases hq : q i with
    | true =>
      rw [hq] at qi
      have hl2 : ((List.range i).filter q).length < sizeLine := Nat.lt_of_lt_of_le (show _ < 1001 by omega) (by decide)
      refine ⟨[.lk (netM hs ss), .cl (kD w), .ow (.lst (((List.range i).filter q).map (fun i : Nat => .cl (.int i)) ++ [.cl (.int (0 + (i : Int)))])), .cl (.int (0 + (i : Int)))], ?_, ⟨.cl (.int (0 + (i : Int))), ?_⟩⟩
      · simp only [evSs_cons, evS_ifs, evE_cmp, evE_var, List.getElem?_cons_succ, List.getElem?_cons_zero, sv_cl, sv_lk, R.of_some, R.bind_ok, evE_fz, evE_sli, evE_sub, evE_fld, fld_sL, ix, evO_no, evO_so, evE_int, Mo.bnd, sli2, fzF_cl, in_two, ← qi, tst_ok, out_ok, if_true, List.set_cons_succ, List.set_cons_zero]
        simp [pappF, ptV, putS, hl2]
      · simp
    | false =>
      rw [hq] at qi
      refine ⟨[.lk (netM hs ss), .cl (kD w), .ow (.lst (((List.range i).filter q).map (fun i : Nat => .cl (.int i)))), .cl (.int (0 + (i : Int)))], ?_, ⟨.cl (.int (0 + (i : Int))), ?_⟩⟩
      · simp only [evSs_cons, evS_ifs, evE_cmp, evE_var, List.getElem?_cons_succ, List.getElem?_cons_zero, sv_cl, sv_lk, R.of_some, R.bind_ok, evE_fz, evE_sli, evE_sub, evE_fld, fld_sL, ix, evO_no, evO_so, evE_int, Mo.bnd, sli2, fzF_cl, in_two, ← qi, tst_ok, out_ok, if_true, List.set_cons_succ, List.set_cons_zero]
        simp
      · simp
  · rintro s' ⟨b, rfl⟩
    have fz : MO.toDL (((List.range ss.length).filter q).map fun i : Nat => MO.cl (.int i)) = ((List.range ss.length).filter q).map fun i : Nat => D.int i := toDL_map (fun i : Nat => D.int i) _
    simp [frzF, fz]
    rfl
/-- the other house -/
def oth (s : Sg) (w : Wo) : Wo := if w = s.a then s.b else s.a
theorem beyond_ok {w : Wo} {i : Int} {s : Sg} (hc : c "Net.sight" [.lk (netM hs ss), .cl (.int i)] = .ok (.cl s.d)) (hw : OkS_ w) (ha : OkS_ s.a) : evF c 3 6 B_beyond [.lk (netM hs ss), .cl (.int i), .cl (kD w)] = .ok (.cl (kD (oth s w))) := by
  refine evF_rt rfl ?_
  unfold B_beyond oth
  have e := cmpF_eqS hw ha
  have u : ∀ sl, unpF (.t [.n 3, .n 4, .n 5]) sl (.cl s.d) = some (.nx (((sl.set 3 (.cl (kD s.a))).set 4 (.cl (kD s.b))).set 5 (.cl (beatD s.f s.e s.l)))) := fun sl => by simp [Sg.d]
  by_cases h : w = s.a
  · have e' : cmpF .eq (.cl (kD s.a)) (.cl (kD s.a)) = .ok (.cl (.bl true)) := by rw [h] at e; rw [e]; simp
    simp [isC1, hc, u, e', h]
  · simp [isC1, hc, u, e, h]
theorem next_ok {f e l t z : Int} (h : 1 ≤ e) : evF c 3 8 B_next_start [.cl (beatD f e l), .cl (.int t), .cl (.int z)] = .ok (.cl (optD (nxO f e l t z))) := by
  refine evF_rt rfl ?_
  unfold B_next_start nxO
  generalize e0 : (if f > t then f else t) = st
  by_cases h1 : l = e
  · simp [h1, e0]
  by_cases h2 : l < z
  · simp [h1, h2, e0]
  by_cases h3 : (st - f) % e + z ≤ l <;> simp (disch := omega) [h1, h2, h3, e0, bopI_mod]
end
end Mo
namespace Mo
open PySem PySem.Spec PyProof.Rows L2
/-! ### the least turn that is not done -/
def Tg_ (T : List (Wo × Int)) (k : Wo) : Int := (aget T k).getD 0
def lcond (T : List (Wo × Int)) (Dn : List (Wo × Bool)) (best : Option Wo) (k : Wo) : Bool := (aget Dn k).isNone && (match best with | none => true | some b => decide (Tg_ T k < Tg_ T b))
def lstep (T : List (Wo × Int)) (Dn : List (Wo × Bool)) (best : Option Wo) (k : Wo) : Option Wo := if lcond T Dn best k then some k else best
def leastO (T : List (Wo × Int)) (Dn : List (Wo × Bool)) : Option Wo := (T.map (·.1)).foldl (lstep T Dn) none
def woO : Option Wo → D
  | none => .non
  | some w => kD w
theorem least_ok (c : Calls) (T : List (Wo × Int)) (Dn : List (Wo × Bool)) : evF c 2 4 B_least_of [.lk (wM D.int T), .lk (wM D.bl Dn)] = .ok (.cl (woO (leastO T Dn))) := by
  refine evF_rt rfl ?_
  unfold B_least_of
  rw [evSs_cons, show evS c (.asg 2 .non) ([SV.lk (wM D.int T), .lk (wM D.bl Dn)] ++ List.replicate (4 - 2) .no) = some (.nx [.lk (wM D.int T), .lk (wM D.bl Dn), .cl .non, .no]) from by simp, seqO_nx]
  have key : ∀ k ∈ T.map (·.1), aget T k = some (Tg_ T k) := fun k hk => by
    obtain ⟨v, e⟩ := aget_some.mpr hk
    unfold Tg_; rw [e]; rfl
  obtain ⟨s', h1, b, h2, h3⟩ := forL_fold (g := tgo (.n 3)) (b := evSs c (.cons (.ifs (.and (.cmp .notIn (.var 3) (.var 1)) (.or (.isN (.var 2)) (.cmp .lt (.sub (.var 0) (.var 3)) (.sub (.var 0) (.var 2))))) (.cons (.asg 2 (.var 3)) .nil) .nil) .nil)) (fun (best : Option Wo) sl => ∃ b : SV, sl = [.lk (wM D.int T), .lk (wM D.bl Dn), .cl (woO best), b] ∧ ∀ w, best = some w → w ∈ T.map (·.1)) (lstep T Dn) kD (xs := T.map (·.1)) (a := none) (sl := [.lk (wM D.int T), .lk (wM D.bl Dn), .cl .non, .no]) (by
    rintro k hk best sl ⟨b, rfl, hb⟩
    refine ⟨_, tgo_n _ _ _, ?_⟩
    have n := notIn_w (f := D.bl) (T := Dn) (x := .lk (wM D.bl Dn)) (.lk rfl) k
    have i := idx_w (f := D.int) (T := T) (x := .lk (wM D.int T)) (.lk rfl) (key k hk)
    refine ⟨[.lk (wM D.int T), .lk (wM D.bl Dn), .cl (woO (lstep T Dn best k)), .cl (kD k)], ?_, ⟨.cl (kD k), rfl, fun w hw => ?_⟩⟩
    · unfold lstep lcond
      cases h : aget Dn k with
      | some d => simp [n, h]
      | none =>
        cases best with
        | none => simp [n, h, woO]
        | some w =>
          have j := idx_w (f := D.int) (T := T) (x := .lk (wM D.int T)) (.lk rfl) (key w (hb w rfl))
          by_cases q : Tg_ T k < Tg_ T w <;> simp [n, h, woO, i, j, q, isNF]
    · unfold lstep at hw
      split at hw
      · cases hw; exact hk
      · exact hb w hw) ⟨_, rfl, fun w h => by cases h⟩
  have e : forL (tgo (.n 3)) (evSs c (.cons (.ifs (.and (.cmp .notIn (.var 3) (.var 1)) (.or (.isN (.var 2)) (.cmp .lt (.sub (.var 0) (.var 3)) (.sub (.var 0) (.var 2))))) (.cons (.asg 2 (.var 3)) .nil) .nil) .nil)) (T.map fun p => kD p.1) [.lk (wM D.int T), .lk (wM D.bl Dn), .cl .non, .no] = some (.nx s') := by
    rw [← h1, List.map_map]; rfl
  rw [evSs_cons, evS_fork]
  simp only [evE_var, get_zero, sv_lk, R.of_some, out_ok, keys_lk]
  rw [e, h2]
  show retR [] (seqO (noxO (some (.nx _))) _) = _
  simp [noxO, leastO]
theorem nodup_le {α : Type} [DecidableEq α] : ∀ {l m : List α}, l.Nodup → (∀ x ∈ l, x ∈ m) → l.length ≤ m.length
  | [], _, _, _ => Nat.zero_le _
  | a :: l, m, nd, h => by
    rw [List.nodup_cons] at nd
    have ha := h a List.mem_cons_self
    have := nodup_le (l := l) (m := m.erase a) nd.2 fun x hx => (List.mem_erase_of_ne (fun z => nd.1 (by rw [← z]; exact hx))).mpr (h x (List.mem_cons_of_mem _ hx))
    rw [List.length_erase_of_mem ha] at this
    have := List.length_pos_of_mem ha
    rw [List.length_cons]
    omega
theorem lfold (T : List (Wo × Int)) (Dn : List (Wo × Bool)) : ∀ (ks : List Wo) (best : Option Wo), (∀ k ∈ ks, k ∈ T.map (·.1)) → (∀ b, best = some b → b ∈ T.map (·.1) ∧ aget Dn b = none) →
    (∀ r, ks.foldl (lstep T Dn) best = some r → r ∈ T.map (·.1) ∧ aget Dn r = none) ∧
    (∀ k, (best = some k ∨ (k ∈ ks ∧ aget Dn k = none)) → ∃ r, ks.foldl (lstep T Dn) best = some r ∧ Tg_ T r ≤ Tg_ T k)
  | [], best, _, hb => ⟨hb, fun k h => h.elim (fun h => ⟨k, h, Int.le_refl _⟩) fun h => by cases h.1⟩
  | x :: ks, best, hk, hb => by
    rw [List.foldl_cons]
    have hx := hk x List.mem_cons_self
    have hb' : ∀ b, lstep T Dn best x = some b → b ∈ T.map (·.1) ∧ aget Dn b = none := fun b h => by
      unfold lstep at h
      split at h
      · rename_i q
        cases h
        unfold lcond at q
        rw [Bool.and_eq_true] at q
        exact ⟨hx, by simpa using q.1⟩
      · exact hb b h
    obtain ⟨i1, i2⟩ := lfold T Dn ks (lstep T Dn best x) (fun k h => hk k (List.mem_cons_of_mem _ h)) hb'
    refine ⟨i1, fun k h => ?_⟩
    have old : ∀ b, best = some b → ∃ r, ks.foldl (lstep T Dn) (lstep T Dn best x) = some r ∧ Tg_ T r ≤ Tg_ T b := fun b e => by
      by_cases q : lcond T Dn best x
      · obtain ⟨r, r1, r2⟩ := i2 x (.inl (by unfold lstep; rw [if_pos q]))
        subst e
        unfold lcond at q
        simp only [Bool.and_eq_true, decide_eq_true_eq] at q
        exact ⟨r, r1, by omega⟩
      · exact i2 b (.inl (by unfold lstep; rw [if_neg q]; exact e))
    rcases h with h | ⟨h1, h2⟩
    · exact old k h
    · rcases List.mem_cons.mp h1 with h1 | h1
      · subst h1
        by_cases q : lcond T Dn best k
        · exact i2 k (.inl (by unfold lstep; rw [if_pos q]))
        · cases best with
          | none => simp [lcond, h2] at q
          | some b =>
            simp only [lcond, h2, Option.isNone_none, Bool.true_and, decide_eq_true_eq] at q
            obtain ⟨r, r1, r2⟩ := old b rfl
            exact ⟨r, r1, by omega⟩
      · exact i2 k (.inr ⟨h1, h2⟩)
/-- some that is not done: the least is told -/
theorem least_some {T : List (Wo × Int)} {Dn : List (Wo × Bool)} (nt : (T.map (·.1)).Nodup) (hl : Dn.length < T.length) : ∃ h v, leastO T Dn = some h ∧ aget T h = some v ∧ aget Dn h = none ∧ ∀ k w, aget T k = some w → aget Dn k = none → v ≤ w := by
  have ex : ∃ k, k ∈ T.map (·.1) ∧ aget Dn k = none := Classical.byContradiction fun z => by
    have := nodup_le (l := T.map (·.1)) (m := Dn.map (·.1)) nt fun x hx => Classical.byContradiction fun y => z ⟨x, hx, aget_none.mpr y⟩
    rw [List.length_map, List.length_map] at this
    omega
  obtain ⟨k, k1, k2⟩ := ex
  obtain ⟨i1, i2⟩ := lfold T Dn (T.map (·.1)) none (fun _ h => h) (fun b h => by cases h)
  obtain ⟨r, r1, r2⟩ := i2 k (.inr ⟨k1, k2⟩)
  obtain ⟨r3, r4⟩ := i1 r r1
  obtain ⟨v, hv⟩ := aget_some.mpr r3
  refine ⟨r, v, r1, hv, r4, fun k w hk hn => ?_⟩
  obtain ⟨r', s1, s2⟩ := i2 k (.inr ⟨aget_some.mp ⟨w, hk⟩, hn⟩)
  have : some r' = some r := s1.symm.trans r1
  cases this
  unfold Tg_ at s2
  rw [hv, hk] at s2
  exact s2
/-! ### the comings by steps -/
abbrev Bk := List (Wo × (Int × Int × Wo))
def backD (p : Int × Int × Wo) : D := .tup [.int p.1, .int p.2.1, kD p.2.2]
abbrev TB := List (Wo × Int) × Bk
def relax (ss : List Sg) (z : Int) (here : Wo) (st : TB) (n : Nat) : TB := match ss[n]? with
  | none => st
  | some s => match nxO s.f s.e s.l (Tg_ st.1 here) z with
    | none => st
    | some q => if (aget st.1 (oth s here)).isNone || decide (q + z < Tg_ st.1 (oth s here)) then (aput st.1 (oth s here) (q + z), aput st.2 (oth s here) ((n : Int), q, here)) else st
structure Sp where
  T : List (Wo × Int)
  B : Bk
  Dn : List (Wo × Bool)
def spStep (ss : List Sg) (z : Int) (st : Sp) : Sp :=
  let here := (leastO st.T st.Dn).getD []
  let r := (sAt ss here).foldl (relax ss z here) (st.T, st.B)
  ⟨r.1, r.2, aput st.Dn here true⟩
def spN (ss : List Sg) (z : Int) : Nat → Sp → Sp
  | 0, st => st
  | n + 1, st => if st.Dn.length < st.T.length then spN ss z n (spStep ss z st) else st
def sp0 (house : Wo) (turn : Int) : Sp := ⟨[(house, turn)], [], []⟩
def spF (hs : Hs) (ss : List Sg) (house : Wo) (turn z : Int) : Sp := spN ss z hs.length (sp0 house turn)
/-- what holds of keys alone -/
structure SI (hs : Hs) (st : Sp) : Prop where
  nt : (st.T.map (·.1)).Nodup
  nd : (st.Dn.map (·.1)).Nodup
  sub : ∀ k ∈ st.T.map (·.1), k ∈ hs.map (·.1)
  dn : ∀ k ∈ st.Dn.map (·.1), k ∈ st.T.map (·.1)
theorem SI.len {hs : Hs} {st : Sp} (h : SI hs st) : st.T.length ≤ hs.length ∧ st.Dn.length ≤ st.T.length := by
  have a := nodup_le h.nt h.sub
  have b := nodup_le h.nd h.dn
  simp only [List.length_map] at a b
  exact ⟨a, b⟩
theorem relax_keys {ss : List Sg} {z : Int} {here : Wo} {st : TB} {n : Nat} {M : List Wo} (hM : ∀ s ∈ ss, s.a ∈ M ∧ s.b ∈ M) (nt : (st.1.map (·.1)).Nodup) (sub : ∀ k ∈ st.1.map (·.1), k ∈ M) : ((relax ss z here st n).1.map (·.1)).Nodup ∧ (∀ k ∈ (relax ss z here st n).1.map (·.1), k ∈ M) ∧ ∀ k ∈ st.1.map (·.1), k ∈ (relax ss z here st n).1.map (·.1) := by
  unfold relax
  split
  · exact ⟨nt, sub, fun _ h => h⟩
  · rename_i s hs
    split
    · exact ⟨nt, sub, fun _ h => h⟩
    · split
      · refine ⟨aput_nd nt _ _, fun k hk => ?_, fun k hk => ?_⟩
        · simp only [aput_keys] at hk
          split at hk
          · exact sub k hk
          · rcases List.mem_append.mp hk with h | h
            · exact sub k h
            · rw [List.mem_singleton] at h
              subst h
              have := hM s (List.mem_of_getElem? hs)
              unfold oth; split
              · exact this.2
              · exact this.1
        · simp only [aput_keys]
          split
          · exact hk
          · exact List.mem_append_left _ hk
      · exact ⟨nt, sub, fun _ h => h⟩
theorem fold_keys {ss : List Sg} {z : Int} {here : Wo} {M : List Wo} (hM : ∀ s ∈ ss, s.a ∈ M ∧ s.b ∈ M) : ∀ (ns : List Nat) {st : TB}, (st.1.map (·.1)).Nodup → (∀ k ∈ st.1.map (·.1), k ∈ M) → ((ns.foldl (relax ss z here) st).1.map (·.1)).Nodup ∧ (∀ k ∈ (ns.foldl (relax ss z here) st).1.map (·.1), k ∈ M) ∧ ∀ k ∈ st.1.map (·.1), k ∈ (ns.foldl (relax ss z here) st).1.map (·.1)
  | [], _, nt, sub => ⟨nt, sub, fun _ h => h⟩
  | n :: ns, st, nt, sub => by
    obtain ⟨a, b, c⟩ := relax_keys (z := z) (here := here) (n := n) hM nt sub
    obtain ⟨a', b', c'⟩ := fold_keys hM ns a b
    exact ⟨a', b', fun k h => c' k (c k h)⟩
theorem SI.step {hs : Hs} {ss : List Sg} {z : Int} {st : Sp} (N : NetOk hs ss) (h : SI hs st) (hl : st.Dn.length < st.T.length) : SI hs (spStep ss z st) ∧ (spStep ss z st).Dn.length = st.Dn.length + 1 := by
  obtain ⟨w, v, h1, h2, h3, _⟩ := least_some h.nt hl
  have e : (leastO st.T st.Dn).getD [] = w := by rw [h1]; rfl
  have hw : w ∉ st.Dn.map (·.1) := aget_none.mp h3
  obtain ⟨a, b, c⟩ := fold_keys (z := z) (here := w) (fun s hs => ⟨N.a s hs, N.b s hs⟩) (sAt ss w) (st := (st.T, st.B)) h.nt h.sub
  unfold spStep
  rw [e]
  refine ⟨⟨a, aput_nd h.nd _ _, b, fun k hk => ?_⟩, ?_⟩
  · simp only [aput_keys, if_neg hw] at hk
    rcases List.mem_append.mp hk with q | q
    · exact c k (h.dn k q)
    · rw [List.mem_singleton] at q
      subst q
      exact c k (aget_some.mp ⟨v, h2⟩)
  · simp only [aput_new hw, List.length_append, List.length_cons, List.length_nil]
theorem SI.init {hs : Hs} {house : Wo} {turn : Int} (h : house ∈ hs.map (·.1)) : SI hs (sp0 house turn) := ⟨by simp [sp0], by simp [sp0], fun k hk => by simp [sp0] at hk; subst hk; exact h, fun k hk => by simp [sp0] at hk⟩
theorem spN_ind {hs : Hs} {ss : List Sg} {z : Int} (N : NetOk hs ss) (P : Sp → Prop) (hp : ∀ st, SI hs st → st.Dn.length < st.T.length → P st → P (spStep ss z st)) : ∀ (n : Nat) (st : Sp), SI hs st → P st → hs.length ≤ n + st.Dn.length → SI hs (spN ss z n st) ∧ P (spN ss z n st) ∧ (spN ss z n st).T.length ≤ (spN ss z n st).Dn.length
  | 0, st, h, p, hn => ⟨h, p, by have := h.len; show st.T.length ≤ st.Dn.length; omega⟩
  | n + 1, st, h, p, hn => by
    unfold spN
    split
    · rename_i hl
      obtain ⟨a, b⟩ := SI.step (z := z) N h hl
      exact spN_ind N P hp n _ a (hp st h hl p) (by omega)
    · exact ⟨h, p, by omega⟩
theorem SI.all {hs : Hs} {st : Sp} (h : SI hs st) (hl : st.T.length ≤ st.Dn.length) : ∀ k ∈ st.T.map (·.1), k ∈ st.Dn.map (·.1) := fun k hk => Classical.byContradiction fun z => by
  have := nodup_le (l := k :: st.Dn.map (·.1)) (m := st.T.map (·.1)) (List.nodup_cons.mpr ⟨z, h.nd⟩) fun x hx => by
    rcases List.mem_cons.mp hx with e | e
    · subst e; exact hk
    · exact h.dn x e
  simp only [List.length_cons, List.length_map] at this
  omega
end Mo
namespace Mo
open PySem PySem.Spec PyProof.Rows L2
/-- what the calls of a net's defs tell -/
structure NetC (c : Calls) (hs : Hs) (ss : List Sg) : Prop where
  known : ∀ w p, aget hs w = some p → c "Net.known" [.lk (netM hs ss), .cl (kD w)] = .ok (.cl (roomD p))
  least : ∀ T Dn, c "least_of" [.lk (wM D.int T), .lk (wM D.bl Dn)] = .ok (.cl (woO (leastO T Dn)))
  at_ : ∀ w p, aget hs w = some p → c "Net.sights_at" [.lk (netM hs ss), .cl (kD w)] = .ok (.cl (.lst ((sAt ss w).map fun i : Nat => .int i)))
  sight : ∀ i s, 0 ≤ i → ss[i.toNat]? = some s → c "Net.sight" [.lk (netM hs ss), .cl (.int i)] = .ok (.cl s.d)
  beyond : ∀ w i s, 0 ≤ i → ss[i.toNat]? = some s → OkS_ w → c "beyond" [.lk (netM hs ss), .cl (.int i), .cl (kD w)] = .ok (.cl (kD (oth s w)))
  next : ∀ f e l t z, 1 ≤ e → c "next_start" [.cl (beatD f e l), .cl (.int t), .cl (.int z)] = .ok (.cl (optD (nxO f e l t z)))
  houses : c "Net.houses" [.lk (netM hs ss)] = .ok (.cl (.lst (hs.map fun p => kD p.1)))
/-- unlike names of houses -/
def WK (hs : Hs) (l : List Wo) : Prop := l.Nodup ∧ ∀ k ∈ l, k ∈ hs.map (·.1)
theorem WK.len {hs : Hs} {β : Type} {T : List (Wo × β)} (N : hs.length ≤ 1000) (h : WK hs (T.map (·.1))) : T.length < 1000000 := by
  have := nodup_le h.1 h.2
  simp only [List.length_map] at this
  omega
theorem WK.put {hs : Hs} {β : Type} {T : List (Wo × β)} (h : WK hs (T.map (·.1))) {k : Wo} (hk : k ∈ hs.map (·.1)) (v : β) : WK hs ((aput T k v).map (·.1)) := by
  refine ⟨aput_nd h.1 _ _, fun j hj => ?_⟩
  rw [aput_keys] at hj
  split at hj
  · exact h.2 j hj
  · rcases List.mem_append.mp hj with q | q
    · exact h.2 j q
    · rw [List.mem_singleton] at q; subst q; exact hk
theorem oth_mem {hs : Hs} {ss : List Sg} (N : NetOk hs ss) {n : Nat} {s : Sg} (h : ss[n]? = some s) (w : Wo) : oth s w ∈ hs.map (·.1) := by
  have := List.mem_of_getElem? h
  unfold oth; split
  · exact N.b s this
  · exact N.a s this
def B_relax : Ss := (.cons (.asg 9 (.call "next_start" (.cons (.sub (.mth "Net" "sight" (.var 0) (.cons (.var 8) .nil)) (.int 2)) (.cons (.sub (.var 4) (.var 7)) (.cons (.var 3) .nil))))) (.cons (.asg 10 (.call "beyond" (.cons (.var 0) (.cons (.var 8) (.cons (.var 7) .nil))))) (.cons (.ifs (.and (.notN (.var 9)) (.or (.cmp .notIn (.var 10) (.var 4)) (.cmp .lt (.bin .add (.var 9) (.var 3)) (.sub (.var 4) (.var 10))))) (.cons (.pst (.v 4) (.var 10) (.bin .add (.var 9) (.var 3))) (.cons (.pst (.v 5) (.var 10) (.tup (.cons (.var 8) (.cons (.var 9) (.cons (.var 7) .nil))))) .nil)) .nil) .nil)))
def B_spTest : E := (.cmp .lt (.blt .len (.cons (.var 6) .nil)) (.blt .len (.cons (.var 4) .nil)))
def B_spTurn : Ss := (.cons (.asg 7 (.call "least_of" (.cons (.var 4) (.cons (.var 6) .nil)))) (.cons (.pst (.v 6) (.var 7) (.bl true)) (.cons (.for_ (.n 8) (.exp (.mth "Net" "sights_at" (.var 0) (.cons (.var 7) .nil))) B_relax) .nil)))
section
variable {c : Calls} {hs : Hs} {ss : List Sg} (N : NetOk hs ss) (C : NetC c hs ss)
include N C
theorem relax_ok {h0 : Wo} {t0 z : Int} {Dn : List (Wo × Bool)} {here : Wo} (hh : here ∈ hs.map (·.1)) {tb : TB} {n : Nat} (hn : n ∈ sAt ss here) (w1 : WK hs (tb.1.map (·.1))) (w2 : WK hs (tb.2.map (·.1))) (hT : here ∈ tb.1.map (·.1)) (x y : SV) :
    ∃ y' z', evSs c B_relax [.lk (netM hs ss), .cl (kD h0), .cl (.int t0), .cl (.int z), .ow (wM D.int tb.1), .ow (wM backD tb.2), .ow (wM D.bl Dn), .cl (kD here), .cl (.int (n : Int)), x, y] = some (.nx [.lk (netM hs ss), .cl (kD h0), .cl (.int t0), .cl (.int z), .ow (wM D.int (relax ss z here tb n).1), .ow (wM backD (relax ss z here tb n).2), .ow (wM D.bl Dn), .cl (kD here), .cl (.int (n : Int)), y', z']) := by
  obtain ⟨s, hs_, hw⟩ := sAt_mem.mp hn
  obtain ⟨v, hv⟩ := aget_some.mpr hT
  have sm := List.mem_of_getElem? hs_
  have so := N.sg s sm
  have c1 := C.sight (n : Int) s (by omega) (by simpa using hs_)
  have c2 := C.beyond here (n : Int) s (by omega) (by simpa using hs_) (N.ok here hh)
  have c3 := C.next s.f s.e s.l v z so.e
  have i1 := idx_w (f := D.int) (T := tb.1) (x := .tm (wM D.int tb.1)) (.tm rfl) hv
  have tg : Tg_ tb.1 here = v := by unfold Tg_; rw [hv]; rfl
  have om := oth_mem N hs_ here
  unfold B_relax relax
  rw [hs_, tg]
  simp only
  rw [evSs_cons, show evS c (.asg 9 _) [.lk (netM hs ss), .cl (kD h0), .cl (.int t0), .cl (.int z), .ow (wM D.int tb.1), .ow (wM backD tb.2), .ow (wM D.bl Dn), .cl (kD here), .cl (.int (n : Int)), x, y] = some (.nx [.lk (netM hs ss), .cl (kD h0), .cl (.int t0), .cl (.int z), .ow (wM D.int tb.1), .ow (wM backD tb.2), .ow (wM D.bl Dn), .cl (kD here), .cl (.int (n : Int)), .cl (optD (nxO s.f s.e s.l v z)), y]) from by simp [isC1, c1, idxG2, i1, c3], seqO_nx]
  rw [evSs_cons, show evS c (.asg 10 _) [.lk (netM hs ss), .cl (kD h0), .cl (.int t0), .cl (.int z), .ow (wM D.int tb.1), .ow (wM backD tb.2), .ow (wM D.bl Dn), .cl (kD here), .cl (.int (n : Int)), .cl (optD (nxO s.f s.e s.l v z)), y] = some (.nx [.lk (netM hs ss), .cl (kD h0), .cl (.int t0), .cl (.int z), .ow (wM D.int tb.1), .ow (wM backD tb.2), .ow (wM D.bl Dn), .cl (kD here), .cl (.int (n : Int)), .cl (optD (nxO s.f s.e s.l v z)), .cl (kD (oth s here))]) from by simp [c2], seqO_nx]
  refine ⟨.cl (optD (nxO s.f s.e s.l v z)), .cl (kD (oth s here)), ?_⟩
  generalize oth s here = th at *
  cases hq : nxO s.f s.e s.l v z with
  | none => simp [optD]
  | some q =>
    have nn := notIn_w (f := D.int) (T := tb.1) (x := .tm (wM D.int tb.1)) (.tm rfl) th
    have e1 : evE c (.bin .add (.var 9) (.var 3)) [.lk (netM hs ss), .cl (kD h0), .cl (.int t0), .cl (.int z), .ow (wM D.int tb.1), .ow (wM backD tb.2), .ow (wM D.bl Dn), .cl (kD here), .cl (.int (n : Int)), .cl (optD (some q)), .cl (kD th)] = .ok (.cl (.int (q + z))) := by simp [optD]
    have p1 := evS_stw (f := D.int) (T := tb.1) c (sl := [.lk (netM hs ss), .cl (kD h0), .cl (.int t0), .cl (.int z), .ow (wM D.int tb.1), .ow (wM backD tb.2), .ow (wM D.bl Dn), .cl (kD here), .cl (.int (n : Int)), .cl (optD (some q)), .cl (kD th)]) (i := 4) (ke := .var 10) (e := .bin .add (.var 9) (.var 3)) (k := th) (v := q + z) rfl e1 (by simp) (w1.len N.hl)
    have e2 : evE c (.tup (.cons (.var 8) (.cons (.var 9) (.cons (.var 7) .nil)))) [.lk (netM hs ss), .cl (kD h0), .cl (.int t0), .cl (.int z), .ow (wM D.int (aput tb.1 th (q + z))), .ow (wM backD tb.2), .ow (wM D.bl Dn), .cl (kD here), .cl (.int (n : Int)), .cl (optD (some q)), .cl (kD th)] = .ok (.cl (backD ((n : Int), q, here))) := by
      simp [optD, backD, tupF_small]
    have p2 := evS_stw (f := backD) (T := tb.2) c (sl := [.lk (netM hs ss), .cl (kD h0), .cl (.int t0), .cl (.int z), .ow (wM D.int (aput tb.1 th (q + z))), .ow (wM backD tb.2), .ow (wM D.bl Dn), .cl (kD here), .cl (.int (n : Int)), .cl (optD (some q)), .cl (kD th)]) (i := 5) (ke := .var 10) (e := (.tup (.cons (.var 8) (.cons (.var 9) (.cons (.var 7) .nil))))) (k := th) (v := ((n : Int), q, here)) rfl e2 (by simp) (w2.len N.hl)
    cases hT2 : aget tb.1 th with
    | none =>
      have g : tst (evE c (.and (.notN (.var 9)) (.or (.cmp .notIn (.var 10) (.var 4)) (.cmp .lt (.bin .add (.var 9) (.var 3)) (.sub (.var 4) (.var 10))))) [.lk (netM hs ss), .cl (kD h0), .cl (.int t0), .cl (.int z), .ow (wM D.int tb.1), .ow (wM backD tb.2), .ow (wM D.bl Dn), .cl (kD here), .cl (.int (n : Int)), .cl (optD (some q)), .cl (kD th)]) = .ok true := by simp [optD, nn, hT2]
      rw [evSs_cons, evS_ifs, g]
      simp only [out_ok, if_true]
      rw [evSs_cons, p1, seqO_nx]
      show (seqO (evSs c _ [.lk (netM hs ss), .cl (kD h0), .cl (.int t0), .cl (.int z), .ow (wM D.int (aput tb.1 th (q + z))), .ow (wM backD tb.2), .ow (wM D.bl Dn), .cl (kD here), .cl (.int (n : Int)), .cl (optD (some q)), .cl (kD th)]) _) = _
      rw [evSs_cons, p2]
      simp
    | some w =>
      have i2 := idx_w (f := D.int) (T := tb.1) (x := .tm (wM D.int tb.1)) (.tm rfl) hT2
      have tg2 : Tg_ tb.1 th = w := by unfold Tg_; rw [hT2]; rfl
      have g : tst (evE c (.and (.notN (.var 9)) (.or (.cmp .notIn (.var 10) (.var 4)) (.cmp .lt (.bin .add (.var 9) (.var 3)) (.sub (.var 4) (.var 10))))) [.lk (netM hs ss), .cl (kD h0), .cl (.int t0), .cl (.int z), .ow (wM D.int tb.1), .ow (wM backD tb.2), .ow (wM D.bl Dn), .cl (kD here), .cl (.int (n : Int)), .cl (optD (some q)), .cl (kD th)]) = .ok (decide (q + z < w)) := by simp [optD, nn, hT2, i2]
      rw [evSs_cons, evS_ifs, g]
      by_cases hlt : q + z < w
      · simp only [out_ok, hlt, decide_true, if_true]
        rw [evSs_cons, p1, seqO_nx]
        show (seqO (evSs c _ [.lk (netM hs ss), .cl (kD h0), .cl (.int t0), .cl (.int z), .ow (wM D.int (aput tb.1 th (q + z))), .ow (wM backD tb.2), .ow (wM D.bl Dn), .cl (kD here), .cl (.int (n : Int)), .cl (optD (some q)), .cl (kD th)]) _) = _
        rw [evSs_cons, p2]
        simp [tg2, hlt]
      · simp [tg2, hlt]
theorem relax_wk {z : Int} {here : Wo} {tb : TB} {n : Nat} (w1 : WK hs (tb.1.map (·.1))) (w2 : WK hs (tb.2.map (·.1))) : WK hs ((relax ss z here tb n).1.map (·.1)) ∧ WK hs ((relax ss z here tb n).2.map (·.1)) ∧ ∀ k ∈ tb.1.map (·.1), k ∈ (relax ss z here tb n).1.map (·.1) := by
  unfold relax
  split
  · exact ⟨w1, w2, fun _ h => h⟩
  · rename_i s hs_
    split
    · exact ⟨w1, w2, fun _ h => h⟩
    · split
      · refine ⟨w1.put (oth_mem N hs_ here) _, w2.put (oth_mem N hs_ here) _, fun k hk => ?_⟩
        simp only [aput_keys]
        split
        · exact hk
        · exact List.mem_append_left _ hk
      · exact ⟨w1, w2, fun _ h => h⟩
/-- one turn of the while -/
theorem spTurn_ok {h0 : Wo} {t0 z : Int} {st : Sp} (I : SI hs st) (w2 : WK hs (st.B.map (·.1))) (hl : st.Dn.length < st.T.length) (a b d e : SV) :
    (∃ a' b' d' e', evSs c B_spTurn [.lk (netM hs ss), .cl (kD h0), .cl (.int t0), .cl (.int z), .ow (wM D.int st.T), .ow (wM backD st.B), .ow (wM D.bl st.Dn), a, b, d, e] = some (.nx [.lk (netM hs ss), .cl (kD h0), .cl (.int t0), .cl (.int z), .ow (wM D.int (spStep ss z st).T), .ow (wM backD (spStep ss z st).B), .ow (wM D.bl (spStep ss z st).Dn), a', b', d', e'])) ∧ WK hs ((spStep ss z st).B.map (·.1)) := by
  obtain ⟨w, v, h1, h2, h3, _⟩ := least_some I.nt hl
  have hT : w ∈ st.T.map (·.1) := aget_some.mp ⟨v, h2⟩
  have hH := I.sub w hT
  obtain ⟨p, hp⟩ := aget_some.mpr hH
  have cl := C.least st.T st.Dn
  have ca := C.at_ w p hp
  rw [h1] at cl
  have wd : WK hs (st.Dn.map (·.1)) := ⟨I.nd, fun k hk => I.sub k (I.dn k hk)⟩
  have e0 : (leastO st.T st.Dn).getD [] = w := by rw [h1]; rfl
  have p1 := evS_stw (f := D.bl) (T := st.Dn) c (sl := [.lk (netM hs ss), .cl (kD h0), .cl (.int t0), .cl (.int z), .ow (wM D.int st.T), .ow (wM backD st.B), .ow (wM D.bl st.Dn), .cl (kD w), b, d, e]) (i := 6) (ke := .var 7) (e := .bl true) (k := w) (v := true) rfl (by simp) (by simp) (wd.len N.hl)
  obtain ⟨s', f1, ⟨x, y, q, f2⟩, f3, f4, f5⟩ := forL_fold (g := tgo (.n 8)) (b := evSs c B_relax) (fun (tb : TB) sl => (∃ x y q : SV, sl = [.lk (netM hs ss), .cl (kD h0), .cl (.int t0), .cl (.int z), .ow (wM D.int tb.1), .ow (wM backD tb.2), .ow (wM D.bl (aput st.Dn w true)), .cl (kD w), x, y, q]) ∧ WK hs (tb.1.map (·.1)) ∧ WK hs (tb.2.map (·.1)) ∧ w ∈ tb.1.map (·.1)) (relax ss z w) (fun n : Nat => D.int (n : Int)) (xs := sAt ss w) (a := (st.T, st.B)) (sl := [.lk (netM hs ss), .cl (kD h0), .cl (.int t0), .cl (.int z), .ow (wM D.int st.T), .ow (wM backD st.B), .ow (wM D.bl (aput st.Dn w true)), .cl (kD w), b, d, e]) (by
    rintro n hn tb sl ⟨⟨x, y, q, rfl⟩, k1, k2, k3⟩
    refine ⟨_, tgo_n _ _ _, ?_⟩
    obtain ⟨y', z', r⟩ := relax_ok N C (h0 := h0) (t0 := t0) (z := z) (Dn := aput st.Dn w true) hH hn k1 k2 k3 y q
    obtain ⟨g1, g2, g3⟩ := relax_wk N C (z := z) (here := w) (n := n) k1 k2
    exact ⟨_, r, ⟨_, _, _, rfl⟩, g1, g2, g3 w k3⟩) ⟨⟨_, _, _, rfl⟩, ⟨I.nt, I.sub⟩, w2, hT⟩
  have es : spStep ss z st = ⟨((sAt ss w).foldl (relax ss z w) (st.T, st.B)).1, ((sAt ss w).foldl (relax ss z w) (st.T, st.B)).2, aput st.Dn w true⟩ := by unfold spStep; rw [e0]
  rw [es]
  refine ⟨⟨.cl (kD w), x, y, q, ?_⟩, f4⟩
  unfold B_spTurn
  rw [evSs_cons, show evS c (.asg 7 _) [.lk (netM hs ss), .cl (kD h0), .cl (.int t0), .cl (.int z), .ow (wM D.int st.T), .ow (wM backD st.B), .ow (wM D.bl st.Dn), a, b, d, e] = some (.nx [.lk (netM hs ss), .cl (kD h0), .cl (.int t0), .cl (.int z), .ow (wM D.int st.T), .ow (wM backD st.B), .ow (wM D.bl st.Dn), .cl (kD w), b, d, e]) from by simp [cl, woO], seqO_nx]
  rw [evSs_cons, p1, seqO_nx]
  show seqO (evS c (.for_ _ _ _) [.lk (netM hs ss), .cl (kD h0), .cl (.int t0), .cl (.int z), .ow (wM D.int st.T), .ow (wM backD st.B), .ow (wM D.bl (aput st.Dn w true)), .cl (kD w), b, d, e]) _ = _
  rw [evS_for, show evIt c _ [.lk (netM hs ss), .cl (kD h0), .cl (.int t0), .cl (.int z), .ow (wM D.int st.T), .ow (wM backD st.B), .ow (wM D.bl (aput st.Dn w true)), .cl (kD w), b, d, e] = .ok (.ds ((sAt ss w).map fun n : Nat => D.int (n : Int))) from by simp [isB1, ca]]
  simp only [out_ok, forI_ds]
  rw [f1, f2]
  rfl
theorem spread_ok {h0 : Wo} (hh : h0 ∈ hs.map (·.1)) {t0 z : Int} : evF c 4 11 B_spread [.lk (netM hs ss), .cl (kD h0), .cl (.int t0), .cl (.int z)] = .ok (.cl (.tup [wD D.int (spF hs ss h0 t0 z).T, wD backD (spF hs ss h0 t0 z).B])) := by
  refine evF_rt rfl ?_
  show retR [] (evSs c (.cons (.asg 4 (.disp (.cons (.var 1) (.var 2) .nil))) (.cons (.asg 5 .dnew) (.cons (.asg 6 .dnew) (.cons (.whl B_spTest B_spTurn) (.cons (.frz 4) (.cons (.frz 5) (.cons (.ret (.tup (.cons (.var 4) (.cons (.var 5) .nil)))) .nil))))))) _) = _
  have dk : distK [kD h0] = true := by simp [distK, isK]
  rw [evSs_cons, show evS c (.asg 4 (.disp (.cons (.var 1) (.var 2) .nil))) ([SV.lk (netM hs ss), .cl (kD h0), .cl (.int t0), .cl (.int z)] ++ List.replicate (11 - 4) .no) = some (.nx [.lk (netM hs ss), .cl (kD h0), .cl (.int t0), .cl (.int z), .ow (wM D.int (sp0 h0 t0).T), .no, .no, .no, .no, .no, .no]) from by simp [dispF, dk]; rfl, seqO_nx]
  rw [evSs_cons, show evS c (.asg 5 .dnew) [.lk (netM hs ss), .cl (kD h0), .cl (.int t0), .cl (.int z), .ow (wM D.int (sp0 h0 t0).T), .no, .no, .no, .no, .no, .no] = some (.nx [.lk (netM hs ss), .cl (kD h0), .cl (.int t0), .cl (.int z), .ow (wM D.int (sp0 h0 t0).T), .ow (wM backD (sp0 h0 t0).B), .no, .no, .no, .no, .no]) from by simp; rfl, seqO_nx]
  rw [evSs_cons, show evS c (.asg 6 .dnew) [.lk (netM hs ss), .cl (kD h0), .cl (.int t0), .cl (.int z), .ow (wM D.int (sp0 h0 t0).T), .ow (wM backD (sp0 h0 t0).B), .no, .no, .no, .no, .no] = some (.nx [.lk (netM hs ss), .cl (kD h0), .cl (.int t0), .cl (.int z), .ow (wM D.int (sp0 h0 t0).T), .ow (wM backD (sp0 h0 t0).B), .ow (wM D.bl (sp0 h0 t0).Dn), .no, .no, .no, .no]) from by simp; rfl, seqO_nx]
  rw [evSs_cons, evS_whl]
  refine whl_run (α := Sp) (Ψ := fun o => retR [] (seqO o _) = _) (fun st => hs.length - st.Dn.length) (fun st sl => (∃ a b d e : SV, sl = [.lk (netM hs ss), .cl (kD h0), .cl (.int t0), .cl (.int z), .ow (wM D.int st.T), .ow (wM backD st.B), .ow (wM D.bl st.Dn), a, b, d, e]) ∧ SI hs st ∧ WK hs (st.B.map (·.1)) ∧ spN ss z (hs.length - st.Dn.length) st = spF hs ss h0 t0 z) ?_ (hs.length + 1) (sp0 h0 t0) _ (by show hs.length - 0 < _; omega) ⟨⟨.no, .no, .no, .no, rfl⟩, SI.init hh, ⟨by simp [sp0], fun k hk => by simp [sp0] at hk⟩, rfl⟩
  rintro st sl ⟨⟨a, b, d, e, rfl⟩, I, w2, fin⟩
  have l1 := len_w (f := D.int) (T := st.T) (x := .tm (wM D.int st.T)) (.tm rfl)
  have l2 := len_w (f := D.bl) (T := st.Dn) (x := .tm (wM D.bl st.Dn)) (.tm rfl)
  have le := I.len
  by_cases hl : st.Dn.length < st.T.length
  · right
    refine ⟨by simp [B_spTest, l1, l2, hl], .inr ?_⟩
    obtain ⟨⟨a', b', d', e', r⟩, w3⟩ := spTurn_ok N C (h0 := h0) (t0 := t0) (z := z) I w2 hl a b d e
    obtain ⟨I', le'⟩ := SI.step (z := z) N I hl
    refine ⟨spStep ss z st, _, r, ⟨⟨_, _, _, _, rfl⟩, I', w3, ?_⟩, by rw [le']; omega⟩
    rw [← fin, le', show hs.length - st.Dn.length = (hs.length - (st.Dn.length + 1)) + 1 by omega]
    show _ = (if st.Dn.length < st.T.length then _ else _)
    rw [if_pos hl]
  · left
    refine ⟨by simp [B_spTest, l1, l2, hl], ?_⟩
    have ef : st = spF hs ss h0 t0 z := by
      rw [← fin]
      cases hs.length - st.Dn.length with
      | zero => rfl
      | succ n => show st = (if st.Dn.length < st.T.length then _ else _); rw [if_neg hl]
    rw [← ef]
    have tp := tupF_small (xs := [.cl (wD D.int st.T), .cl (wD backD st.B)]) (by simp) rfl
    simp [frzF, wM_toD, tp]
end
end Mo
namespace Mo
open PySem PySem.Spec PyProof.Rows L2
/-! ### names -/
def LETs : List Nat := [97, 98, 99, 100, 101, 102, 103, 104, 105, 106, 107, 108, 109, 110, 111, 112, 113, 114, 115, 116, 117, 118, 119, 120, 121, 122]
theorem sLet : Str.ofString "abcdefghijklmnopqrstuvwxyz" = SX.S LETs := by decide +kernel
theorem let_ok : OkS_ LETs := okS_all (by decide)
def nameP (w : Wo) : Bool := decide (0 < w.length) && (decide (w.length < 9) && w.all fun c => decide (c ∈ LETs))
theorem good_ok (c : Calls) (w : Wo) (hw : w.length ≤ 100) : evF c 1 2 B_good_name [.cl (kD w)] = .ok (.cl (.bl (nameP w))) := by
  refine evF_rt rfl ?_
  unfold B_good_name nameP
  have ln := lenB_S (a := w) (by omega)
  by_cases h1 : w.length < 1
  · have e : w = [] := List.eq_nil_of_length_eq_zero (by omega)
    subst e
    simp at ln
    simp [ln]
  by_cases h2 : 8 < w.length
  · have a1 : ¬ ((w.length : Nat) : Int) < 1 := by omega
    have a2 : (8 : Int) < ((w.length : Nat) : Int) := by omega
    have a3 : ¬ w.length < 9 := by omega
    simp [ln, a1, a2, a3]
  have a1 : ¬ ((w.length : Nat) : Int) < 1 := by omega
  have a2 : ¬ (8 : Int) < ((w.length : Nat) : Int) := by omega
  have a3 : w.length < 9 := by omega
  have a4 : 0 < w.length := by omega
  rw [evSs_cons, show evS c (.ifs _ _ _) ([SV.cl (.str (SX.S w))] ++ List.replicate (2 - 1) .no) = some (.nx [.cl (.str (SX.S w)), .no]) from by simp [ln, a1, a2], seqO_nx, evSs_cons, evS_for]
  have it := itF_S (a := w) (by omega)
  simp only [evIt_exp, evE_var, get_zero, sv_cl, R.of_some, R.bind_ok, it, out_ok, forI_ds]
  refine Or.elim (forL_findL (g := tgo (.n 1)) (b := evSs c (.cons (.ifs (.cmp .notIn (.var 1) (.gs "LETTERS" (Str.ofString "abcdefghijklmnopqrstuvwxyz"))) (.cons (.ret (.bl false)) .nil) .nil) .nil)) (fun sl => ∃ b : SV, sl = [.cl (.str (SX.S w)), b]) (fun c => !decide (c ∈ LETs)) (fun _ => .cl (.bl false)) (fun c => D.str (SX.S [c])) (xs := w) (sl := [.cl (.str (SX.S w)), .no]) ?_ ⟨_, rfl⟩) ?_ ?_
  · intro x hx sl ⟨b, hs⟩
    subst hs
    have i := cmpF_notInS LETs x
    refine ⟨_, tgo_n _ _ _, ?_⟩
    by_cases q : x ∈ LETs
    · exact .inr ⟨by simp [q], [.cl (.str (SX.S w)), .cl (.str (SX.S [x]))], by simp [sLet, i, q], _, rfl⟩
    · exact .inl ⟨by simp [q], [.cl (.str (SX.S w)), .cl (.str (SX.S [x]))], by simp [sLet, i, q]⟩
  · rintro ⟨x, s2, k1, k2⟩
    rw [k2]
    have hc := List.mem_of_find?_eq_some k1
    have hq := List.find?_some k1
    have al : (w.all fun c => decide (c ∈ LETs)) = false := by
      rw [List.all_eq_false]
      exact ⟨x, hc, by simpa using hq⟩
    rw [al]
    simp
  · rintro ⟨k1, s2, k2, b, hs⟩
    subst hs
    have al : (w.all fun c => decide (c ∈ LETs)) = true := List.all_eq_true.mpr fun c hc => by
      have := List.find?_eq_none.mp k1 c hc
      simpa using this
    rw [k2, al]
    simp [a3, a4]
theorem nameP_ok {w : Wo} (h : nameP w = true) : OkS_ w := fun c hc => by
  unfold nameP at h
  simp only [Bool.and_eq_true, List.all_eq_true, decide_eq_true_eq] at h
  exact let_ok c (h.2.2 c hc)
/-! ### a net that is changed -/
@[simp] theorem sv_bo (i : Nat) (m : MO) : SV.x (.bo i m) = some (.tm m) := rfl
theorem ptfld_h (i : Nat) (hs : Hs) (ss : List Sg) : (Pt.mk i [] (netM hs ss)).fld "Net" (Str.ofString "my_houses") = .ok ⟨i, [0], wM roomD hs⟩ := by
  show Pt.fld _ "Net" fHou = _
  unfold Pt.fld netM
  simp only [if_true, fi_h]
  rfl
theorem ptfld_s (i : Nat) (hs : Hs) (ss : List Sg) : (Pt.mk i [] (netM hs ss)).fld "Net" (Str.ofString "my_sights") = .ok ⟨i, [1], sgsM ss⟩ := by
  show Pt.fld _ "Net" fSig = _
  unfold Pt.fld netM
  simp only [if_true, fi_s]
  rfl
theorem put_h (hs hs' : Hs) (ss : List Sg) : (netM hs ss).put [0] (wM roomD hs') = netM hs' ss := by
  unfold netM
  simp [MO.put, MO.ms, MO.wth]
theorem put_s (hs : Hs) (ss ss' : List Sg) : (netM hs ss).put [1] (sgsM ss') = netM hs ss' := by
  unfold netM
  simp [MO.put, MO.ms, MO.wth]
section
variable (c : Calls) {hs : Hs} {ss : List Sg}
theorem init_ok : evF c 1 1 B_Net___init__ [.bo 0 (.ins (Str.ofString "Net") [] [])] = .ok (.mu (.cl .non) [netM [] []]) := by
  unfold evF
  rw [if_pos ⟨rfl, rfl⟩]
  unfold B_Net___init__
  rw [evSs_cons, show evS c (.pfs (.v 0) "Net" "my_houses" .dnew) ([SV.bo 0 (.ins (Str.ofString "Net") [] [])] ++ List.replicate (1 - 1) .no) = some (.nx [.bo 0 (.ins (Str.ofString "Net") [fHou] [wM roomD []])]) from by
    simp [ptV, pfsF, fput, putS]; exact ⟨rfl, rfl⟩, seqO_nx]
  rw [evSs_cons, show evS c (.pfs (.v 0) "Net" "my_sights" (.lst .nil)) [.bo 0 (.ins (Str.ofString "Net") [fHou] [wM roomD []])] = some (.nx [.bo 0 (netM [] [])]) from by
    have : List.findIdx? (fun g => decide (g = Str.ofString "my_sights")) [fHou] = none := by
      rw [List.findIdx?_cons, show (decide (fHou = Str.ofString "my_sights") : Bool) = false from fne]; rfl
    simp [ptV, pfsF, fput, putS, this]; rfl, seqO_nx]
  rfl
theorem addHouse_ok {w : Wo} {b : Bool} {r : Int} (hg : c "good_name" [.cl (kD w)] = .ok (.cl (.bl true))) (hn : aget hs w = none) (hr : 0 ≤ r) (hl : hs.length ≤ 1000) : evF c 4 4 B_Net_add_house [.bo 0 (netM hs ss), .cl (kD w), .cl (.bl b), .cl (.int r)] = .ok (.mu (.cl .non) [netM (aput hs w (b, r)) ss]) := by
  unfold evF
  rw [if_pos ⟨rfl, rfl⟩]
  unfold B_Net_add_house
  have n := in_w (f := roomD) (T := hs) (x := .tm (wM roomD hs)) (.tm rfl) w
  rw [hn] at n
  have h1 : ¬ r < 0 := by omega
  have hl' : (hs.map fun p => kD p.1).length < sizeLine := by rw [List.length_map]; exact Nat.lt_of_lt_of_le (show _ < 1001 by omega) (by decide)
  have tp := tupF_small (xs := [.cl (.bl b), .cl (.int r)]) (by simp) rfl
  have ps : pstF [.bo 0 (netM hs ss), .cl (kD w), .cl (.bl b), .cl (.int r)] ⟨0, [0], wM roomD hs⟩ (.cl (kD w)) (.cl (.tup [.bl b, .int r])) = some (.nx [.bo 0 (netM (aput hs w (b, r)) ss), .cl (kD w), .cl (.bl b), .cl (.int r)]) := by
    show pstF _ ⟨0, [0], .dct (hs.map fun p => kD p.1) (hs.map fun p => .cl (roomD p.2))⟩ _ (.cl (roomD (b, r))) = _
    unfold pstF
    simp only [item_cl, isK, hl', decide_true, Bool.and_self, if_true, dput_w]
    show some (Out.nx (putS _ 0 [0] (wM roomD (aput hs w (b, r))))) = _
    unfold putS
    simp [put_h]
  have pv : ptV [.bo 0 (netM hs ss), .cl (kD w), .cl (.bl b), .cl (.int r)] 0 = .ok ⟨0, [], netM hs ss⟩ := rfl
  simp [hg, fld_hT, n, h1, tp, pv, ptfld_h, ps, -evS_pst, show evS c (.pst (.f (.v 0) "Net" "my_houses") (.var 1) (.tup (.cons (.var 2) (.cons (.var 3) .nil)))) [.bo 0 (netM hs ss), .cl (kD w), .cl (.bl b), .cl (.int r)] = some (.nx [.bo 0 (netM (aput hs w (b, r)) ss), .cl (kD w), .cl (.bl b), .cl (.int r)]) from by simp [tp, pv, ptfld_h, ps]]
  rfl
theorem checked_ok {f e l : Int} (h : 0 ≤ f ∧ 1 ≤ e ∧ 1 ≤ l ∧ l ≤ e) : evF c 1 4 B_checked [.cl (beatD f e l)] = .ok (.cl (beatD f e l)) := by
  refine evF_rt rfl ?_
  unfold B_checked
  have a1 : ¬ f < 0 := by omega
  have a2 : ¬ e < 1 := by omega
  have a3 : ¬ l < 1 := by omega
  have a4 : ¬ e < l := by omega
  have tp := tupF_small (xs := [.cl (.int f), .cl (.int e), .cl (.int l)]) (by simp) rfl
  simp [a1, a2, a3, a4, tp]
theorem addSight_ok {s : Sg} (so : SgOk s) {p q : Bool × Int} (ha : c "Net.known" [.lk (netM hs ss), .cl (kD s.a)] = .ok (.cl (roomD p))) (hb : c "Net.known" [.lk (netM hs ss), .cl (kD s.b)] = .ok (.cl (roomD q))) (hc : c "checked" [.cl (beatD s.f s.e s.l)] = .ok (.cl (beatD s.f s.e s.l))) (hl : ss.length ≤ 1000) : evF c 4 4 B_Net_add_sight [.bo 0 (netM hs ss), .cl (kD s.a), .cl (kD s.b), .cl (beatD s.f s.e s.l)] = .ok (.mu (.cl (.int ss.length)) [netM hs (ss ++ [s])]) := by
  unfold evF
  rw [if_pos ⟨rfl, rfl⟩]
  unfold B_Net_add_sight
  have hl' : ss.length < sizeLine := Nat.lt_of_lt_of_le (show _ < 1001 by omega) (by decide)
  have tp := tupF_small (xs := [.cl (kD s.a), .cl (kD s.b), .cl (beatD s.f s.e s.l)]) (by simp) rfl
  have pv : ptV [.bo 0 (netM hs ss), .cl (kD s.a), .cl (kD s.b), .cl (beatD s.f s.e s.l)] 0 = .ok ⟨0, [], netM hs ss⟩ := rfl
  have ne := cmpF_eqS so.a so.b
  rw [show (decide (s.a = s.b) : Bool) = false from decide_eq_false so.ne] at ne
  have ap : pappF [.bo 0 (netM hs ss), .cl (kD s.a), .cl (kD s.b), .cl (beatD s.f s.e s.l)] ⟨0, [1], sgsM ss⟩ (.cl (.tup [kD s.a, kD s.b, beatD s.f s.e s.l])) = some (.nx [.bo 0 (netM hs (ss ++ [s])), .cl (kD s.a), .cl (kD s.b), .cl (beatD s.f s.e s.l)]) := by
    show pappF _ ⟨0, [1], .lst (ss.map fun s => .cl s.d)⟩ (.cl s.d) = _
    unfold pappF
    simp only [item_cl, List.length_map, hl', if_true]
    rw [show (ss.map fun s => MO.cl s.d) ++ [.cl s.d] = (ss ++ [s]).map fun s => MO.cl s.d by simp]
    show some (Out.nx (putS _ 0 [1] (sgsM (ss ++ [s])))) = _
    unfold putS
    simp [put_s]
  have il : MO.isL (sgsM ss) = true := rfl
  have st : evS c (.papp (.f (.v 0) "Net" "my_sights") (.tup (.cons (.var 1) (.cons (.var 2) (.cons (.call "checked" (.cons (.var 3) .nil)) .nil))))) [.bo 0 (netM hs ss), .cl (kD s.a), .cl (kD s.b), .cl (beatD s.f s.e s.l)] = some (.nx [.bo 0 (netM hs (ss ++ [s])), .cl (kD s.a), .cl (kD s.b), .cl (beatD s.f s.e s.l)]) := by
    simp [pv, ptfld_s, hc, tp, ap, il]
  rw [evSs_cons, show evS c (.ex (.mth "Net" "known" (.var 0) (.cons (.var 1) .nil))) ([SV.bo 0 (netM hs ss), .cl (kD s.a), .cl (kD s.b), .cl (beatD s.f s.e s.l)] ++ List.replicate (4 - 4) .no) = some (.nx [.bo 0 (netM hs ss), .cl (kD s.a), .cl (kD s.b), .cl (beatD s.f s.e s.l)]) from by simp [SV.x, isA2, ha], seqO_nx]
  rw [evSs_cons, show evS c (.ex (.mth "Net" "known" (.var 0) (.cons (.var 2) .nil))) [SV.bo 0 (netM hs ss), .cl (kD s.a), .cl (kD s.b), .cl (beatD s.f s.e s.l)] = some (.nx [.bo 0 (netM hs ss), .cl (kD s.a), .cl (kD s.b), .cl (beatD s.f s.e s.l)]) from by simp [SV.x, isA2, hb], seqO_nx]
  rw [evSs_cons, show evS c (.ifs _ _ _) [SV.bo 0 (netM hs ss), .cl (kD s.a), .cl (kD s.b), .cl (beatD s.f s.e s.l)] = some (.nx [.bo 0 (netM hs ss), .cl (kD s.a), .cl (kD s.b), .cl (beatD s.f s.e s.l)]) from by simp [ne], seqO_nx]
  rw [evSs_cons, st, seqO_nx]
  simp [SV.x, fld_sT, len_sT]
  rfl
end
end Mo
namespace Mo
open PySem PySem.Spec PyProof.Rows L2
/-! ### the laws' names -/
-- 0 _law_script, 1 _law_k, 2 _law_many, 3 _law_letters, 4 _law_word, 5 _law_size, 6 _law_at, 7 _law_left, 8 _law_names_here, 9 _law_j
def B_law_names : Ss := (.cons (.asg 3 (.str (Str.ofString "abcdefghijklmnopqrstuvwxyz"))) (.cons (.asg 4 (.sm1 .join (.str (Str.ofString "")) (.fz (.comp (.sub (.var 3) (.call "_law_by" (.cons (.var 0) (.cons (.bin .add (.bin .add (.var 1) (.int 1)) (.var 9)) (.cons (.int 26) .nil))))) (.n 9) (.rng1 (.int 8)) .nil)))) (.cons (.asg 5 (.bin .add (.int 1) (.call "_law_by" (.cons (.var 0) (.cons (.bin .add (.var 1) (.int 9)) (.cons (.int 8) .nil)))))) (.cons (.asg 6 (.call "_law_by" (.cons (.var 0) (.cons (.bin .add (.var 1) (.int 10)) (.cons (.var 5) .nil))))) (.cons (.asg 7 (.comp (.fz (.bin .add (.fz (.bin .add (.fz (.sli (.var 4) .no (.so (.var 6)))) (.sub (.var 3) (.bin .mod (.bin .add (.call "_law_by" (.cons (.var 0) (.cons (.bin .add (.var 1) (.int 11)) (.cons (.int 26) .nil)))) (.bin .mul (.int 5) (.var 9))) (.int 26))))) (.fz (.sli (.var 4) (.so (.bin .add (.var 6) (.int 1))) (.so (.var 5)))))) (.n 9) (.rng1 (.var 2)) .nil)) (.cons (.ifs (.cmp .eq (.call "_law_by" (.cons (.var 0) (.cons (.var 1) (.cons (.int 3) .nil)))) (.int 0)) (.cons (.asg 7 (.comp (.fz (.sli (.var 4) .no (.so (.bin .add (.int 1) (.var 9))))) (.n 9) (.rng1 (.var 2)) .nil)) .nil) .nil) (.cons (.asg 8 (.lst .nil)) (.cons (.whl (.cmp .gt (.blt .len (.cons (.var 7) .nil)) (.int 0)) (.cons (.apop 8 7 (.call "_law_by" (.cons (.var 0) (.cons (.bin .add (.bin .add (.var 1) (.int 11)) (.blt .len (.cons (.var 7) .nil))) (.cons (.blt .len (.cons (.var 7) .nil)) .nil))))) .nil)) (.cons (.frz 8) (.cons (.ret (.var 8)) .nil))))))))))
theorem sEmpty : Str.ofString "" = SX.S [] := by decide +kernel
theorem erase_map {α β : Type} (f : α → β) : ∀ (l : List α) (n : Nat), (l.map f).eraseIdx n = (l.eraseIdx n).map f
  | [], _ => rfl
  | _ :: _, 0 => rfl
  | x :: l, n + 1 => by rw [List.map_cons, List.eraseIdx_cons_succ, List.eraseIdx_cons_succ, List.map_cons, erase_map f l n]
theorem erase_perm {α : Type} : ∀ {l : List α} {n : Nat} (h : n < l.length), (l[n] :: l.eraseIdx n).Perm l
  | [], _, h => absurd h (Nat.not_lt_zero _)
  | _ :: _, 0, _ => List.Perm.refl _
  | x :: l, n + 1, h => by
    rw [List.eraseIdx_cons_succ]
    exact (List.Perm.swap _ _ _).trans (List.Perm.cons x (erase_perm (l := l) (n := n) (by simpa using h)))
theorem apop_u1 {sl : Sl} {i j : Nat} {y : XV} {a b : MO} (ha : a.isL = true) (hb : b.isL = true) : ((R.ok ⟨i, [], a⟩ : R Pt).out sl fun p => if p.m.isL then (R.ok ⟨j, [], b⟩ : R Pt).out sl fun q => if q.m.isL then (R.ok y).out sl fun y => apopF sl i q y else none else none) = apopF sl i ⟨j, [], b⟩ y := by
  simp only [out_ok, ha, hb, if_true]
theorem evS_apopF (c : Calls) {sl : Sl} {i j : Nat} {e : E} {a b : MO} {y : XV} (hi : ptV sl i = .ok ⟨i, [], a⟩) (hj : ptV sl j = .ok ⟨j, [], b⟩) (he : evE c e sl = .ok y) (ha : a.isL = true) (hb : b.isL = true) : evS c (.apop i j e) sl = apopF sl i ⟨j, [], b⟩ y := by
  have := apop_u1 (sl := sl) (i := i) (j := j) (y := y) ha hb
  rw [← hi, ← hj, ← he] at this
  exact this
/-- an item popped from one list and put behind another -/
theorem evS_apopD (c : Calls) {sl : Sl} {i j : Nat} {e : E} {R L : List Wo} {n : Nat} (hij : i ≠ j) (hi : sl[i]? = some (.ow (.lst (R.map fun w => .cl (kD w))))) (hj : sl[j]? = some (.ow (.lst (L.map fun w => .cl (kD w))))) (he : evE c e sl = .ok (.cl (.int (n : Int)))) (hn : n < L.length) (hl : L.length < 1000000) (hR : R.length < 1000000) : evS c (.apop i j e) sl = some (.nx ((sl.set j (.ow (.lst ((L.eraseIdx n).map fun w => .cl (kD w))))).set i (.ow (.lst ((R ++ [L[n]]).map fun w => .cl (kD w)))))) := by
  rw [evS_apopF c (ptV_ow hi) (ptV_ow hj) he rfl rfl]
  unfold apopF
  have ix : ixN (L.map fun w => MO.cl (kD w)).length (n : Int) = some n := by
    unfold ixN
    rw [if_pos (by omega), if_pos (by rw [List.length_map]; omega)]
    simp
  have gt : (L.map fun w => MO.cl (kD w))[n]? = some (.cl (kD L[n])) := by rw [List.getElem?_map, List.getElem?_eq_getElem hn]; rfl
  have hjl : j < sl.length := (List.getElem?_eq_some_iff.mp hj).1
  have p2 : putS sl j [] (.lst ((L.map fun w => MO.cl (kD w)).eraseIdx n)) = sl.set j (.ow (.lst ((L.eraseIdx n).map fun w => .cl (kD w)))) := by
    rw [putS_ow hj, erase_map]
  have hi2 : (sl.set j (.ow (.lst ((L.eraseIdx n).map fun w => MO.cl (kD w)))))[i]? = some (.ow (.lst (R.map fun w => .cl (kD w)))) := by
    rw [List.getElem?_set_ne (fun z => hij z.symm)]; exact hi
  simp only [ix, gt, p2]
  have b63 : -(2 ^ 63) ≤ (n : Int) ∧ (n : Int) < 2 ^ 63 := ⟨by omega, by omega⟩
  rw [if_pos b63, ptV_ow hi2]
  simp only
  unfold pappF
  simp only [item_cl, List.length_map]
  rw [if_pos (Nat.lt_of_lt_of_le hR (by decide)), putS_ow hi2, List.map_append]
  rfl
theorem lets_get {i : Int} (h0 : 0 ≤ i) (h1 : i < 26) : ∃ x, x ∈ LETs ∧ LETs[i.toNat]? = some x := by
  have lt : i.toNat < LETs.length := by show _ < 26; omega
  exact ⟨LETs[i.toNat], List.getElem_mem lt, List.getElem?_eq_getElem lt⟩
theorem lets_at : ∀ i : Nat, i < 26 → LETs[i]? = some (97 + i) := by decide
theorem lets_inj {i j : Nat} {x : Nat} (hi : LETs[i]? = some x) (hj : LETs[j]? = some x) : i = j := by
  have a : i < 26 := (List.getElem?_eq_some_iff.mp hi).1
  have b : j < 26 := (List.getElem?_eq_some_iff.mp hj).1
  rw [lets_at i a] at hi
  rw [lets_at j b] at hj
  cases hi
  have := Option.some.inj hj
  omega
theorem cut_mid {α : Type} (a : List α) {i j : Int} (h : 0 ≤ i) (hj : 0 ≤ j) (hil : i.toNat ≤ a.length) : cutL a (some i) (some j) = (a.drop i.toNat).take (min j.toNat a.length - i.toNat) := by
  unfold cutL
  have e1 : HT.sIx a.length 0 (some i) = min i.toNat a.length := by
    show (if i < 0 then _ else _) = _
    rw [if_neg (by omega)]
  have e2 : HT.sIx a.length a.length (some j) = min j.toNat a.length := by
    show (if j < 0 then _ else _) = _
    rw [if_neg (by omega)]
  rw [e1, e2, Nat.min_eq_left hil]
/-- names, unlike -/
structure NmsOk (W : List Wo) : Prop where
  nd : W.Nodup
  nm : ∀ w ∈ W, nameP w = true
theorem nameP_of {w : Wo} (h0 : 0 < w.length) (h1 : w.length < 9) (h : ∀ c ∈ w, c ∈ LETs) : nameP w = true := by
  unfold nameP
  simp only [Bool.and_eq_true, decide_eq_true_eq, List.all_eq_true]
  exact ⟨h0, h1, h⟩
/-- the names of the first kind -/
def nmA (word : Wo) (p : Nat) (z : Nat) (b : Int) (j : Nat) : Wo := word.take p ++ [LETs.getD ((b + 5 * (j : Int)) % 26).toNat 97] ++ (word.drop (p + 1)).take (z - (p + 1))
theorem nmA_ok {word : Wo} (hw : word.length = 8) (hl : ∀ c ∈ word, c ∈ LETs) {p z : Nat} (hp : p < z) (hz : z ≤ 8) {b : Int} (b0 : 0 ≤ b) {m : Nat} (hm : m ≤ 8) : NmsOk ((List.range m).map (nmA word p z b)) := by
  have gx : ∀ j : Nat, ∃ x, x ∈ LETs ∧ LETs[((b + 5 * (j : Int)) % 26).toNat]? = some x := fun j => lets_get (by omega) (by omega)
  constructor
  · rw [List.nodup_iff_pairwise_ne, List.pairwise_map]
    refine (List.nodup_iff_pairwise_ne.mp List.nodup_range).imp_of_mem fun {i j} hi hj hne e => hne ?_
    rw [List.mem_range] at hi hj
    obtain ⟨x, x1, x2⟩ := gx i
    obtain ⟨y, y1, y2⟩ := gx j
    have gi : (nmA word p z b i)[p]? = some x := by
      unfold nmA
      rw [List.append_assoc, List.getElem?_append_right (by simp; omega), List.length_take, hw, show p - min p 8 = 0 by omega]
      simp [List.getD_eq_getElem?_getD, x2]
    have gj : (nmA word p z b j)[p]? = some y := by
      unfold nmA
      rw [List.append_assoc, List.getElem?_append_right (by simp; omega), List.length_take, hw, show p - min p 8 = 0 by omega]
      simp [List.getD_eq_getElem?_getD, y2]
    rw [e, gj] at gi
    cases gi
    have := lets_inj x2 y2
    omega
  · intro w hmem
    obtain ⟨j, _, rfl⟩ := List.mem_map.mp hmem
    obtain ⟨x, x1, x2⟩ := gx j
    refine nameP_of ?_ ?_ fun c hc => ?_
    · unfold nmA; simp; omega
    · unfold nmA; simp [hw]; omega
    · unfold nmA at hc
      rw [List.mem_append, List.mem_append, List.mem_singleton] at hc
      rcases hc with (hc | hc) | hc
      · exact hl c (List.mem_of_mem_take hc)
      · rw [hc, List.getD_eq_getElem?_getD, x2]; exact x1
      · exact hl c (List.mem_of_mem_drop (List.mem_of_mem_take hc))
theorem nmB_ok {word : Wo} (hw : word.length = 8) (hl : ∀ c ∈ word, c ∈ LETs) {m : Nat} (hm : m ≤ 8) : NmsOk ((List.range m).map fun j => word.take (1 + j)) := by
  constructor
  · rw [List.nodup_iff_pairwise_ne, List.pairwise_map]
    refine (List.nodup_iff_pairwise_ne.mp List.nodup_range).imp_of_mem fun {i j} hi hj hne e => hne ?_
    rw [List.mem_range] at hi hj
    have := congrArg List.length e
    simp only [List.length_take, hw] at this
    omega
  · intro w hmem
    obtain ⟨j, hj, rfl⟩ := List.mem_map.mp hmem
    rw [List.mem_range] at hj
    exact nameP_of (by simp; omega) (by simp; omega) fun c hc => hl c (List.mem_of_mem_take hc)
theorem NmsOk.perm {W V : List Wo} (h : NmsOk W) (p : V.Perm W) : NmsOk V := ⟨p.nodup_iff.mpr h.nd, fun w hw => h.nm w (p.mem_iff.mp hw)⟩
def B_nmLoop : S := (.whl (.cmp .gt (.blt .len (.cons (.var 7) .nil)) (.int 0)) (.cons (.apop 8 7 (.call "_law_by" (.cons (.var 0) (.cons (.bin .add (.bin .add (.var 1) (.int 11)) (.blt .len (.cons (.var 7) .nil))) (.cons (.blt .len (.cons (.var 7) .nil)) .nil))))) .nil))
/-- the names drawn one by one -/
theorem nmLoop_ok {c : Calls} (dr : Draws c) {ns : List Int} (hl : ns.length ≤ 63) {k : Int} (hk : 0 ≤ k) (hk2 : k ≤ 10000) (a2 a3 a4 a5 a6 a9 : SV) {W : List Wo} (hW : W.length ≤ 100) : ∃ V : List Wo, V.Perm W ∧ evS c B_nmLoop [.cl (scr ns), .cl (.int k), a2, a3, a4, a5, a6, .ow (.lst (W.map fun w => .cl (kD w))), .ow (.lst []), a9] = some (.nx [.cl (scr ns), .cl (.int k), a2, a3, a4, a5, a6, .ow (.lst []), .ow (.lst (V.map fun w => .cl (kD w))), a9]) := by
  unfold B_nmLoop
  rw [evS_whl]
  refine whl_run (α := List Wo × List Wo) (Ψ := fun o => ∃ V : List Wo, V.Perm W ∧ o = some (.nx [.cl (scr ns), .cl (.int k), a2, a3, a4, a5, a6, .ow (.lst []), .ow (.lst (V.map fun w => .cl (kD w))), a9])) (fun p => p.1.length) (fun p sl => sl = [.cl (scr ns), .cl (.int k), a2, a3, a4, a5, a6, .ow (.lst (p.1.map fun w => .cl (kD w))), .ow (.lst (p.2.map fun w => .cl (kD w))), a9] ∧ (p.2 ++ p.1).Perm W) ?_ (W.length + 1) (W, []) _ (by show W.length < _; omega) ⟨rfl, by simp⟩
  rintro ⟨L, V⟩ sl ⟨rfl, pm⟩
  have pl := pm.length_eq
  rw [List.length_append] at pl
  simp only
  cases L with
  | nil =>
    left
    refine ⟨by simp, ?_⟩
    rw [List.append_nil] at pm
    exact ⟨V, pm, rfl⟩
  | cons w L =>
    right
    refine ⟨by simp, .inr ?_⟩
    have lp : ((w :: L).length : Int) = (L.length : Int) + 1 := by simp
    have b0 := lawBy_nn (ns := ns) (k := k + 11 + ((w :: L).length : Int)) (many := ((w :: L).length : Int)) (by omega)
    have b1 := lawBy_lt (ns := ns) (k := k + 11 + ((w :: L).length : Int)) (many := ((w :: L).length : Int)) (by omega)
    have pl2 : V.length + (L.length + 1) = W.length := by simpa using pl
    have by_ := dr.by_ ns (k + 11 + ((w :: L).length : Int)) ((w :: L).length : Int) hl (by omega) (by omega) (by omega)
    generalize lawBy ns (k + 11 + ((w :: L).length : Int)) ((w :: L).length : Int) = n at *
    obtain ⟨m, rfl⟩ : ∃ m : Nat, n = (m : Int) := ⟨n.toNat, by omega⟩
    have hm : m < (w :: L).length := by omega
    have ap := evS_apopD c (sl := [.cl (scr ns), .cl (.int k), a2, a3, a4, a5, a6, .ow (.lst ((w :: L).map fun w => .cl (kD w))), .ow (.lst (V.map fun w => .cl (kD w))), a9]) (i := 8) (j := 7) (e := (.call "_law_by" (.cons (.var 0) (.cons (.bin .add (.bin .add (.var 1) (.int 11)) (.blt .len (.cons (.var 7) .nil))) (.cons (.blt .len (.cons (.var 7) .nil)) .nil))))) (R := V) (L := w :: L) (n := m) (by decide) rfl rfl (by
      have e2 : lenB [.tm (.lst ((w :: L).map fun w => MO.cl (kD w)))] = some (.cl (.int ((w :: L).length : Int))) := by rw [lenB_tm, List.length_map]
      simp only [evE_call, evEs_cons, evEs_nil, evE_var, evE_bin, evE_int, evE_blt, blt_len, List.getElem?_cons_succ, List.getElem?_cons_zero, sv_cl, sv_ow, R.of_some, R.bind_ok, e2, bopF_cl, bop_int, bopI_add, Option.map_some, args_cl, args_nil, by_, noMu_cl]) hm (by omega) (by omega)
    refine ⟨((w :: L).eraseIdx m, V ++ [(w :: L)[m]]), _, by rw [evSs_cons, ap]; rfl, ⟨rfl, ?_⟩, ?_⟩
    · refine List.Perm.trans ?_ pm
      rw [List.append_assoc]
      exact List.Perm.append_left V (erase_perm hm)
    · show ((w :: L).eraseIdx m).length < _
      rw [List.length_eraseIdx_of_lt hm]; omega
theorem names_ok {c : Calls} (dr : Draws c) {ns : List Int} (hl : ns.length ≤ 63) {k : Int} (hk : 0 ≤ k) (hk2 : k ≤ 9000) {many : Int} (h1 : 0 ≤ many) (h8 : many ≤ 8) : ∃ W : List Wo, NmsOk W ∧ (W.length : Int) = many ∧ evF c 3 10 B_law_names [.cl (scr ns), .cl (.int k), .cl (.int many)] = .ok (.cl (.lst (W.map kD))) := by
  let g : Nat → Nat := fun i => LETs.getD (lawBy ns (k + 1 + (0 + (i : Int))) 26).toNat 97
  let word : Wo := (List.range 8).map g
  have gl : ∀ i, g i ∈ LETs := fun i => by
    obtain ⟨x, x1, x2⟩ := lets_get (lawBy_nn (ns := ns) (k := k + 1 + (0 + (i : Int))) (many := 26) (by omega)) (lawBy_lt (by omega))
    show LETs.getD _ 97 ∈ LETs
    rw [List.getD_eq_getElem?_getD, x2]; exact x1
  have wl : word.length = 8 := rfl
  have wL : ∀ c ∈ word, c ∈ LETs := fun c hc => by
    obtain ⟨i, _, rfl⟩ := List.mem_map.mp hc
    exact gl i
  have z0 := lawBy_nn (ns := ns) (k := k + 9) (many := 8) (by omega)
  have z1 := lawBy_lt (ns := ns) (k := k + 9) (many := 8) (by omega)
  have bz := dr.by_ ns (k + 9) 8 hl (by omega) (by omega) (by omega)
  generalize lawBy ns (k + 9) 8 = zz at *
  obtain ⟨z, rfl⟩ : ∃ z : Nat, zz = (z : Int) := ⟨zz.toNat, by omega⟩
  have p0 := lawBy_nn (ns := ns) (k := k + 10) (many := 1 + (z : Int)) (by omega)
  have p1 := lawBy_lt (ns := ns) (k := k + 10) (many := 1 + (z : Int)) (by omega)
  have bp := dr.by_ ns (k + 10) (1 + (z : Int)) hl (by omega) (by omega) (by omega)
  generalize lawBy ns (k + 10) (1 + (z : Int)) = pp at *
  obtain ⟨p, rfl⟩ : ∃ p : Nat, pp = (p : Int) := ⟨pp.toNat, by omega⟩
  have c0 := lawBy_nn (ns := ns) (k := k + 11) (many := 26) (by omega)
  have bc := dr.by_ ns (k + 11) 26 hl (by omega) (by omega) (by omega)
  generalize lawBy ns (k + 11) 26 = b at *
  obtain ⟨m, rfl⟩ : ∃ m : Nat, many = (m : Int) := ⟨many.toNat, by omega⟩
  have b3 := dr.by_ ns k 3 hl (by omega) (by omega) (by omega)
  -- the word
  have cw : compF (tgo (.n 9)) (evCnd c .nil) (evE c (.sub (.var 3) (.call "_law_by" (.cons (.var 0) (.cons (.bin .add (.bin .add (.var 1) (.int 1)) (.var 9)) (.cons (.int 26) .nil)))))) [.cl (scr ns), .cl (.int k), .cl (.int (m : Int)), .cl (.str (SX.S LETs)), .no, .no, .no, .no, .no, .no] ((List.range 8).map fun i : Nat => D.int (0 + (i : Int))) = .ok (.nw (.lst (((List.range 8).filter fun _ => true).map fun i => .cl (.str (SX.S [g i]))))) := by
    refine compF_map (fun i : Nat => D.int (0 + (i : Int))) (fun _ => true) (fun i => .cl (.str (SX.S [g i]))) (by simp) fun i hi => ?_
    rw [List.mem_range] at hi
    have y0 := lawBy_nn (ns := ns) (k := k + 1 + (0 + (i : Int))) (many := 26) (by omega)
    have y1 := lawBy_lt (ns := ns) (k := k + 1 + (0 + (i : Int))) (many := 26) (by omega)
    have by_ := dr.by_ ns (k + 1 + (0 + (i : Int))) 26 hl (by omega) (by omega) (by omega)
    have lt : (lawBy ns (k + 1 + (0 + (i : Int))) 26).toNat < LETs.length := by show _ < 26; omega
    have ix := idx_S (a := LETs) (n := lawBy ns (k + 1 + (0 + (i : Int))) 26) (c := g i) (by decide) (atI_nn y0 (by
      show _ = some (LETs.getD _ 97)
      rw [List.getD_eq_getElem?_getD, List.getElem?_eq_getElem lt]; rfl))
    refine ⟨[.cl (scr ns), .cl (.int k), .cl (.int (m : Int)), .cl (.str (SX.S LETs)), .no, .no, .no, .no, .no, .cl (.int (0 + (i : Int)))], by simp, by simp [evCnd], fun _ => ⟨.cl (.str (SX.S [g i])), ?_, rfl⟩⟩
    simp only [evE_sub, evE_var, evE_call, evEs_cons, evEs_nil, evE_bin, evE_int, List.getElem?_cons_succ, get_zero, sv_cl, R.of_some, R.bind_ok, bopF_cl, bop_int, bopI_add, Option.map_some, args_cl, args_nil, by_, noMu_cl, ix]
  rw [show ((List.range 8).filter fun _ => true) = List.range 8 from List.filter_eq_self.mpr (fun _ _ => rfl)] at cw
  have fz : MO.toDL ((List.range 8).map fun i => MO.cl (.str (SX.S [g i]))) = ((List.range 8).map fun i => [g i]).map fun a => D.str (SX.S a) := by
    rw [toDL_map (fun i : Nat => D.str (SX.S [g i])), List.map_map]; rfl
  have jn := join_S (s := []) ((List.range 8).map fun i => [g i]) (by simp [List.range_succ])
  rw [joinL_nil] at jn
  have wf : ((List.range 8).map fun i => [g i]).flatten = word := rfl
  rw [wf] at jn
  -- the first kind
  have ca : compF (tgo (.n 9)) (evCnd c .nil) (evE c (.fz (.bin .add (.fz (.bin .add (.fz (.sli (.var 4) .no (.so (.var 6)))) (.sub (.var 3) (.bin .mod (.bin .add (.call "_law_by" (.cons (.var 0) (.cons (.bin .add (.var 1) (.int 11)) (.cons (.int 26) .nil)))) (.bin .mul (.int 5) (.var 9))) (.int 26))))) (.fz (.sli (.var 4) (.so (.bin .add (.var 6) (.int 1))) (.so (.var 5))))))) [.cl (scr ns), .cl (.int k), .cl (.int (m : Int)), .cl (.str (SX.S LETs)), .cl (.str (SX.S word)), .cl (.int (1 + (z : Int))), .cl (.int (p : Int)), .no, .no, .no] ((List.range m).map fun i : Nat => D.int (0 + (i : Int))) = .ok (.nw (.lst (((List.range m).filter fun _ => true).map fun i => .cl (kD (nmA word p (1 + z) b i))))) := by
    refine compF_map (fun i : Nat => D.int (0 + (i : Int))) (fun _ => true) (fun i => .cl (kD (nmA word p (1 + z) b i))) (by simp; omega) fun i hi => ?_
    rw [List.mem_range] at hi
    refine ⟨[.cl (scr ns), .cl (.int k), .cl (.int (m : Int)), .cl (.str (SX.S LETs)), .cl (.str (SX.S word)), .cl (.int (1 + (z : Int))), .cl (.int (p : Int)), .no, .no, .cl (.int (0 + (i : Int)))], by simp, by simp [evCnd], fun _ => ⟨.cl (kD (nmA word p (1 + z) b i)), ?_, rfl⟩⟩
    have s1 := sliF_S (a := word) (l := none) (h := some (p : Int)) (by rw [wl]; omega)
    have s2 := sliF_S (a := word) (l := some ((p : Int) + 1)) (h := some (1 + (z : Int))) (by rw [wl]; omega)
    rw [cut_to word (by omega), show ((p : Int)).toNat = p by omega] at s1
    rw [cut_mid word (by omega) (by omega) (by rw [wl]; omega), wl, show ((p : Int) + 1).toNat = p + 1 by omega, show min (1 + (z : Int)).toNat 8 - (p + 1) = 1 + z - (p + 1) by omega] at s2
    have m1 := bopI_mul (i := 5) (j := 0 + (i : Int)) (mul_ok64 (by decide) (by decide) (by omega) (by omega))
    have m2 := bopI_mod (i := b + 5 * (0 + (i : Int))) (j := 26) (by decide)
    obtain ⟨x, x1, x2⟩ := lets_get (i := (b + 5 * (0 + (i : Int))) % 26) (by omega) (by omega)
    have ix := idx_S (a := LETs) (n := (b + 5 * (0 + (i : Int))) % 26) (c := x) (by decide) (atI_nn (by omega) x2)
    have t1 := bopF_S (a := word.take p) (b := [x]) (by simp; omega)
    have t2 := bopF_S (a := word.take p ++ [x]) (b := (word.drop (p + 1)).take (1 + z - (p + 1))) (by simp [wl]; omega)
    have ex : nmA word p (1 + z) b i = word.take p ++ [x] ++ (word.drop (p + 1)).take (1 + z - (p + 1)) := by
      unfold nmA
      rw [show b + 5 * (i : Int) = b + 5 * (0 + (i : Int)) by omega, List.getD_eq_getElem?_getD, x2]; rfl
    rw [ex]
    simp only [evE_fz, evE_bin, evE_sli, evE_sub, evE_var, evE_call, evEs_cons, evEs_nil, evE_int, evO_no, evO_so, List.getElem?_cons_succ, get_zero, sv_cl, R.of_some, R.bind_ok, Mo.bnd, s1, s2, bopF_cl, bop_int, bopI_add, Option.map_some, args_cl, args_nil, bc, noMu_cl, m1, m2, ix, fzF_cl, t1, t2]
  rw [show ((List.range m).filter fun _ => true) = List.range m from List.filter_eq_self.mpr (fun _ _ => rfl)] at ca
  -- the second kind
  have cb : ∀ a7 : SV, compF (tgo (.n 9)) (evCnd c .nil) (evE c (.fz (.sli (.var 4) .no (.so (.bin .add (.int 1) (.var 9)))))) [.cl (scr ns), .cl (.int k), .cl (.int (m : Int)), .cl (.str (SX.S LETs)), .cl (.str (SX.S word)), .cl (.int (1 + (z : Int))), .cl (.int (p : Int)), a7, .no, .no] ((List.range m).map fun i : Nat => D.int (0 + (i : Int))) = .ok (.nw (.lst (((List.range m).filter fun _ => true).map fun i => .cl (kD (word.take (1 + i)))))) := fun a7 => by
    refine compF_map (fun i : Nat => D.int (0 + (i : Int))) (fun _ => true) (fun i => .cl (kD (word.take (1 + i)))) (by simp; omega) fun i hi => ?_
    rw [List.mem_range] at hi
    refine ⟨[.cl (scr ns), .cl (.int k), .cl (.int (m : Int)), .cl (.str (SX.S LETs)), .cl (.str (SX.S word)), .cl (.int (1 + (z : Int))), .cl (.int (p : Int)), a7, .no, .cl (.int (0 + (i : Int)))], by simp, by simp [evCnd], fun _ => ⟨.cl (kD (word.take (1 + i))), ?_, rfl⟩⟩
    have s1 := sliF_S (a := word) (l := none) (h := some (1 + (0 + (i : Int)))) (by rw [wl]; omega)
    rw [cut_to word (by omega), show (1 + (0 + (i : Int))).toNat = 1 + i by omega] at s1
    simp only [evE_fz, evE_bin, evE_sli, evE_var, evE_int, evO_no, evO_so, List.getElem?_cons_succ, get_zero, sv_cl, R.of_some, R.bind_ok, Mo.bnd, s1, bopF_cl, bop_int, bopI_add, Option.map_some, fzF_cl]
  rw [show ((List.range m).filter fun _ => true) = List.range m from List.filter_eq_self.mpr (fun _ _ => rfl)] at cb
  have fin : ∀ W0 : List Wo, NmsOk W0 → W0.length = m → ∀ a9 : SV, ∃ W : List Wo, NmsOk W ∧ (W.length : Int) = (m : Int) ∧ retR [] (evSs c (.cons (.asg 8 (.lst .nil)) (.cons B_nmLoop (.cons (.frz 8) (.cons (.ret (.var 8)) .nil)))) [.cl (scr ns), .cl (.int k), .cl (.int (m : Int)), .cl (.str (SX.S LETs)), .cl (.str (SX.S word)), .cl (.int (1 + (z : Int))), .cl (.int (p : Int)), .ow (.lst (W0.map fun w => .cl (kD w))), .no, a9]) = .ok (.cl (.lst (W.map kD))) := fun W0 ok0 len0 a9 => by
    obtain ⟨V, pv, e⟩ := nmLoop_ok dr hl hk (by omega) (.cl (.int (m : Int))) (.cl (.str (SX.S LETs))) (.cl (.str (SX.S word))) (.cl (.int (1 + (z : Int)))) (.cl (.int (p : Int))) a9 (W := W0) (by omega)
    refine ⟨V, ok0.perm pv, by rw [pv.length_eq, len0], ?_⟩
    rw [evSs_cons, show evS c (.asg 8 (.lst .nil)) [SV.cl (scr ns), .cl (.int k), .cl (.int (m : Int)), .cl (.str (SX.S LETs)), .cl (.str (SX.S word)), .cl (.int (1 + (z : Int))), .cl (.int (p : Int)), .ow (.lst (W0.map fun w => .cl (kD w))), .no, a9] = some (.nx [.cl (scr ns), .cl (.int k), .cl (.int (m : Int)), .cl (.str (SX.S LETs)), .cl (.str (SX.S word)), .cl (.int (1 + (z : Int))), .cl (.int (p : Int)), .ow (.lst (W0.map fun w => .cl (kD w))), .ow (.lst []), a9]) from by simp, seqO_nx]
    rw [evSs_cons, e, seqO_nx]
    have fz : MO.toDL (V.map fun w => MO.cl (kD w)) = V.map kD := toDL_map kD V
    simp [frzF, fz]
  have fa := fin _ (nmA_ok wl wL (p := p) (z := 1 + z) (by omega) (by omega) c0 (b := b) (m := m) (by omega)) (by simp) .no
  have fb := fin _ (nmB_ok wl wL (m := m) (by omega)) (by simp) .no
  rw [List.map_map] at fa fb
  have pre : ∀ Y : R XV, retR [] (evSs c (.cons (.ifs (.cmp .eq (.call "_law_by" (.cons (.var 0) (.cons (.var 1) (.cons (.int 3) .nil)))) (.int 0)) (.cons (.asg 7 (.comp (.fz (.sli (.var 4) .no (.so (.bin .add (.int 1) (.var 9))))) (.n 9) (.rng1 (.var 2)) .nil)) .nil) .nil) (.cons (.asg 8 (.lst .nil)) (.cons B_nmLoop (.cons (.frz 8) (.cons (.ret (.var 8)) .nil))))) [.cl (scr ns), .cl (.int k), .cl (.int (m : Int)), .cl (.str (SX.S LETs)), .cl (.str (SX.S word)), .cl (.int (1 + (z : Int))), .cl (.int (p : Int)), .ow (.lst ((List.range m).map fun i => .cl (kD (nmA word p (1 + z) b i)))), .no, .no]) = Y → evF c 3 10 B_law_names [.cl (scr ns), .cl (.int k), .cl (.int (m : Int))] = Y := fun Y h => by
    rw [← h]
    refine evF_rt rfl ?_
    unfold B_law_names
    rw [evSs_cons, show evS c (.asg 3 _) ([SV.cl (scr ns), .cl (.int k), .cl (.int (m : Int))] ++ List.replicate (10 - 3) .no) = some (.nx [.cl (scr ns), .cl (.int k), .cl (.int (m : Int)), .cl (.str (SX.S LETs)), .no, .no, .no, .no, .no, .no]) from by simp [sLet], seqO_nx]
    rw [evSs_cons, show evS c (.asg 4 _) [SV.cl (scr ns), .cl (.int k), .cl (.int (m : Int)), .cl (.str (SX.S LETs)), .no, .no, .no, .no, .no, .no] = some (.nx [.cl (scr ns), .cl (.int k), .cl (.int (m : Int)), .cl (.str (SX.S LETs)), .cl (.str (SX.S word)), .no, .no, .no, .no, .no]) from by
      simp only [evS_asg, evE_str, sEmpty, R.bind_ok, XV.isS, if_true, evE_sm1, evE_fz, evE_comp, evIt_rng1, evE_int, rng1F_int, compI_ds, wipeS, Tg.slots, List.set_cons_succ, List.set_cons_zero]
      rw [show rangeD 0 (8 : Int).toNat = (List.range 8).map fun i : Nat => D.int (0 + (i : Int)) from rfl, cw]
      simp only [R.bind_ok, fzF_nw, toD_lst, fz, jn, out_ok, keep_cl, List.set_cons_succ, List.set_cons_zero], seqO_nx]
    rw [evSs_cons, show evS c (.asg 5 _) [SV.cl (scr ns), .cl (.int k), .cl (.int (m : Int)), .cl (.str (SX.S LETs)), .cl (.str (SX.S word)), .no, .no, .no, .no, .no] = some (.nx [.cl (scr ns), .cl (.int k), .cl (.int (m : Int)), .cl (.str (SX.S LETs)), .cl (.str (SX.S word)), .cl (.int (1 + (z : Int))), .no, .no, .no, .no]) from by simp [bz], seqO_nx]
    rw [evSs_cons, show evS c (.asg 6 _) [SV.cl (scr ns), .cl (.int k), .cl (.int (m : Int)), .cl (.str (SX.S LETs)), .cl (.str (SX.S word)), .cl (.int (1 + (z : Int))), .no, .no, .no, .no] = some (.nx [.cl (scr ns), .cl (.int k), .cl (.int (m : Int)), .cl (.str (SX.S LETs)), .cl (.str (SX.S word)), .cl (.int (1 + (z : Int))), .cl (.int (p : Int)), .no, .no, .no]) from by simp [bp], seqO_nx]
    rw [evSs_cons, show evS c (.asg 7 _) [SV.cl (scr ns), .cl (.int k), .cl (.int (m : Int)), .cl (.str (SX.S LETs)), .cl (.str (SX.S word)), .cl (.int (1 + (z : Int))), .cl (.int (p : Int)), .no, .no, .no] = some (.nx [.cl (scr ns), .cl (.int k), .cl (.int (m : Int)), .cl (.str (SX.S LETs)), .cl (.str (SX.S word)), .cl (.int (1 + (z : Int))), .cl (.int (p : Int)), .ow (.lst ((List.range m).map fun i => .cl (kD (nmA word p (1 + z) b i)))), .no, .no]) from by
      simp only [evS_asg, evE_comp, evIt_rng1, evE_var, List.getElem?_cons_succ, get_zero, sv_cl, R.of_some, R.bind_ok, rng1F_int, compI_ds, wipeS, Tg.slots, List.set_cons_succ, List.set_cons_zero]
      rw [show rangeD 0 ((m : Int)).toNat = (List.range m).map fun i : Nat => D.int (0 + (i : Int)) from rfl, ca]
      simp only [out_ok, keep_nw, List.set_cons_succ, List.set_cons_zero], seqO_nx]
    rfl
  by_cases h0 : lawBy ns k 3 = 0
  · obtain ⟨W, w1, w2, w3⟩ := fb
    refine ⟨W, w1, w2, pre _ ?_⟩
    rw [evSs_cons, show evS c (.ifs _ _ _) [SV.cl (scr ns), .cl (.int k), .cl (.int (m : Int)), .cl (.str (SX.S LETs)), .cl (.str (SX.S word)), .cl (.int (1 + (z : Int))), .cl (.int (p : Int)), .ow (.lst ((List.range m).map fun i => .cl (kD (nmA word p (1 + z) b i)))), .no, .no] = some (.nx [.cl (scr ns), .cl (.int k), .cl (.int (m : Int)), .cl (.str (SX.S LETs)), .cl (.str (SX.S word)), .cl (.int (1 + (z : Int))), .cl (.int (p : Int)), .ow (.lst ((List.range m).map fun i => .cl (kD (word.take (1 + i))))), .no, .no]) from by
      rw [evS_ifs, show tst (evE c (.cmp .eq (.call "_law_by" (.cons (.var 0) (.cons (.var 1) (.cons (.int 3) .nil)))) (.int 0)) [SV.cl (scr ns), .cl (.int k), .cl (.int (m : Int)), .cl (.str (SX.S LETs)), .cl (.str (SX.S word)), .cl (.int (1 + (z : Int))), .cl (.int (p : Int)), .ow (.lst ((List.range m).map fun i => .cl (kD (nmA word p (1 + z) b i)))), .no, .no]) = .ok true from by simp [b3, h0]]
      simp only [out_ok, if_true, evSs_cons, evSs_nil, evS_asg, evE_comp, evIt_rng1, evE_var, List.getElem?_cons_succ, get_zero, sv_cl, R.of_some, R.bind_ok, rng1F_int, compI_ds, wipeS, Tg.slots, List.set_cons_succ, List.set_cons_zero]
      rw [show rangeD 0 ((m : Int)).toNat = (List.range m).map fun i : Nat => D.int (0 + (i : Int)) from rfl, cb]
      simp only [out_ok, keep_nw, List.set_cons_succ, List.set_cons_zero, seqO_nx, evSs_nil], seqO_nx]
    exact w3
  · obtain ⟨W, w1, w2, w3⟩ := fa
    refine ⟨W, w1, w2, pre _ ?_⟩
    rw [evSs_cons, show evS c (.ifs _ _ _) [SV.cl (scr ns), .cl (.int k), .cl (.int (m : Int)), .cl (.str (SX.S LETs)), .cl (.str (SX.S word)), .cl (.int (1 + (z : Int))), .cl (.int (p : Int)), .ow (.lst ((List.range m).map fun i => .cl (kD (nmA word p (1 + z) b i)))), .no, .no] = some (.nx [.cl (scr ns), .cl (.int k), .cl (.int (m : Int)), .cl (.str (SX.S LETs)), .cl (.str (SX.S word)), .cl (.int (1 + (z : Int))), .cl (.int (p : Int)), .ow (.lst ((List.range m).map fun i => .cl (kD (nmA word p (1 + z) b i)))), .no, .no]) from by simp [b3, h0], seqO_nx]
    exact w3
end Mo
namespace Mo
open PySem PySem.Spec PyProof.Rows L2
/-! ### what comings tells -/
def cmF (hs : Hs) (T : List (Wo × Int)) : List (Wo × Int) := (hs.map (·.1)).filterMap fun k => (aget T k).map fun v => (k, v)
def cmStep (T : List (Wo × Int)) (R : List (Wo × Int)) (k : Wo) : List (Wo × Int) := match aget T k with
  | some v => aput R k v
  | none => R
theorem cm_fold (T : List (Wo × Int)) : ∀ (ks : List Wo) (R : List (Wo × Int)), ks.Nodup → (∀ k ∈ ks, k ∉ R.map (·.1)) → ks.foldl (cmStep T) R = R ++ ks.filterMap fun k => (aget T k).map fun v => (k, v)
  | [], R, _, _ => by simp
  | k :: ks, R, nd, h => by
    rw [List.nodup_cons] at nd
    rw [List.foldl_cons, List.filterMap_cons]
    unfold cmStep
    cases e : aget T k with
    | none =>
      simp only [Option.map_none]
      exact cm_fold T ks R nd.2 fun x hx => h x (List.mem_cons_of_mem _ hx)
    | some v =>
      simp only [Option.map_some]
      rw [aput_new (h k List.mem_cons_self)]
      have := cm_fold T ks (R ++ [(k, v)]) nd.2 fun x hx => by
        rw [List.map_append, List.mem_append]
        rintro (q | q)
        · exact h x (List.mem_cons_of_mem _ hx) q
        · simp at q; subst q; exact nd.1 hx
      unfold cmStep at this
      rw [this, List.append_assoc]; rfl
def B_cmBody : Ss := (.cons (.ifs (.cmp .in_ (.var 6) (.var 4)) (.cons (.pst (.v 5) (.var 6) (.sub (.var 4) (.var 6))) .nil) .nil) .nil)
def B_cmPre (tail : Ss) : Ss := (.cons (.ex (.mth "Net" "sights_at" (.var 0) (.cons (.var 1) .nil))) (.cons (.asg 4 (.sub (.call "spread" (.cons (.var 0) (.cons (.var 1) (.cons (.var 2) (.cons (.var 3) .nil))))) (.int 0))) (.cons (.asg 5 .dnew) (.cons (.for_ (.n 6) (.exp (.mth "Net" "houses" (.var 0) .nil)) B_cmBody) tail))))
theorem cmPre_ok {c : Calls} {hs : Hs} {ss : List Sg} (N : NetOk hs ss) (C : NetC c hs ss) {w : Wo} (hw : w ∈ hs.map (·.1)) {t z : Int} {T : List (Wo × Int)} {B : Bk} (hS : c "spread" [.lk (netM hs ss), .cl (kD w), .cl (.int t), .cl (.int z)] = .ok (.cl (.tup [wD D.int T, wD backD B]))) (tail : Ss) :
    ∃ b, evSs c (B_cmPre tail) [.lk (netM hs ss), .cl (kD w), .cl (.int t), .cl (.int z), .no, .no, .no] = evSs c tail [.lk (netM hs ss), .cl (kD w), .cl (.int t), .cl (.int z), .cl (wD D.int T), .ow (wM D.int (cmF hs T)), b] := by
  obtain ⟨p, hp⟩ := aget_some.mpr hw
  have ca := C.at_ w p hp
  have ch := C.houses
  have ix : idx (.cl (.tup [wD D.int T, wD backD B])) (.cl (.int 0)) = some (.cl (wD D.int T)) := idxT0
  obtain ⟨s', f1, ⟨b, f2⟩, f3⟩ := forL_fold (g := tgo (.n 6)) (b := evSs c B_cmBody) (fun (R : List (Wo × Int)) sl => (∃ b : SV, sl = [.lk (netM hs ss), .cl (kD w), .cl (.int t), .cl (.int z), .cl (wD D.int T), .ow (wM D.int R), b]) ∧ WK hs (R.map (·.1))) (cmStep T) kD (xs := hs.map (·.1)) (a := []) (sl := [.lk (netM hs ss), .cl (kD w), .cl (.int t), .cl (.int z), .cl (wD D.int T), .ow (wM D.int []), .no]) (by
    rintro k hk R sl ⟨⟨b, rfl⟩, wk⟩
    refine ⟨_, tgo_n _ _ _, ?_⟩
    have n := in_w (f := D.int) (T := T) (x := .cl (wD D.int T)) (.cl rfl) k
    unfold cmStep B_cmBody
    cases e : aget T k with
    | none =>
      refine ⟨[.lk (netM hs ss), .cl (kD w), .cl (.int t), .cl (.int z), .cl (wD D.int T), .ow (wM D.int R), .cl (kD k)], ?_, ⟨_, rfl⟩, wk⟩
      simp [n, e]
    | some v =>
      have i := idx_w (f := D.int) (T := T) (x := .cl (wD D.int T)) (.cl rfl) e
      have p1 := evS_stw (f := D.int) (T := R) c (sl := [.lk (netM hs ss), .cl (kD w), .cl (.int t), .cl (.int z), .cl (wD D.int T), .ow (wM D.int R), .cl (kD k)]) (i := 5) (ke := .var 6) (e := .sub (.var 4) (.var 6)) (k := k) (v := v) rfl (by simp [i]) (by simp) (wk.len N.hl)
      refine ⟨[.lk (netM hs ss), .cl (kD w), .cl (.int t), .cl (.int z), .cl (wD D.int T), .ow (wM D.int (aput R k v)), .cl (kD k)], ?_, ⟨_, rfl⟩, wk.put hk v⟩
      rw [evSs_cons, evS_ifs, show tst (evE c (.cmp .in_ (.var 6) (.var 4)) ([SV.lk (netM hs ss), .cl (kD w), .cl (.int t), .cl (.int z), .cl (wD D.int T), .ow (wM D.int R), b].set 6 (.cl (kD k)))) = .ok true from by simp [n, e]]
      simp only [out_ok, if_true]
      rw [evSs_cons]
      show seqO (seqO (evS c _ [.lk (netM hs ss), .cl (kD w), .cl (.int t), .cl (.int z), .cl (wD D.int T), .ow (wM D.int R), .cl (kD k)]) _) _ = _
      rw [p1]
      rfl) ⟨⟨_, rfl⟩, by simp [WK]⟩
  have cf : (hs.map (·.1)).foldl (cmStep T) [] = cmF hs T := by
    rw [cm_fold T _ [] N.nd (by simp)]; rfl
  rw [cf] at f2
  refine ⟨b, ?_⟩
  unfold B_cmPre
  rw [evSs_cons, show evS c (.ex _) [SV.lk (netM hs ss), .cl (kD w), .cl (.int t), .cl (.int z), .no, .no, .no] = some (.nx [.lk (netM hs ss), .cl (kD w), .cl (.int t), .cl (.int z), .no, .no, .no]) from by simp [isB1, ca], seqO_nx]
  rw [evSs_cons, show evS c (.asg 4 _) [SV.lk (netM hs ss), .cl (kD w), .cl (.int t), .cl (.int z), .no, .no, .no] = some (.nx [.lk (netM hs ss), .cl (kD w), .cl (.int t), .cl (.int z), .cl (wD D.int T), .no, .no]) from by simp [hS, ix], seqO_nx]
  rw [evSs_cons, show evS c (.asg 5 .dnew) [SV.lk (netM hs ss), .cl (kD w), .cl (.int t), .cl (.int z), .cl (wD D.int T), .no, .no] = some (.nx [.lk (netM hs ss), .cl (kD w), .cl (.int t), .cl (.int z), .cl (wD D.int T), .ow (wM D.int []), .no]) from by simp; rfl, seqO_nx]
  rw [evSs_cons, evS_for, show evIt c _ [SV.lk (netM hs ss), .cl (kD w), .cl (.int t), .cl (.int z), .cl (wD D.int T), .ow (wM D.int []), .no] = .ok (.ds ((hs.map (·.1)).map kD)) from by simp [isD1, ch]]
  simp only [out_ok, forI_ds]
  rw [f1, f2]
  rfl
/-- told as data -/
theorem comings_ok {c : Calls} {hs : Hs} {ss : List Sg} (N : NetOk hs ss) (C : NetC c hs ss) {w : Wo} (hw : w ∈ hs.map (·.1)) {t z : Int} {T : List (Wo × Int)} {B : Bk} (hS : c "spread" [.lk (netM hs ss), .cl (kD w), .cl (.int t), .cl (.int z)] = .ok (.cl (.tup [wD D.int T, wD backD B]))) : evF c 4 7 B_comings [.lk (netM hs ss), .cl (kD w), .cl (.int t), .cl (.int z)] = .ok (.cl (wD D.int (cmF hs T))) := by
  refine evF_rt rfl ?_
  obtain ⟨b, e⟩ := cmPre_ok N C hw hS (.cons (.frz 5) (.cons (.ret (.var 5)) .nil))
  show retR [] (evSs c (B_cmPre (.cons (.frz 5) (.cons (.ret (.var 5)) .nil))) _) = _
  rw [show [SV.lk (netM hs ss), .cl (kD w), .cl (.int t), .cl (.int z)] ++ List.replicate (7 - 4) .no = [SV.lk (netM hs ss), .cl (kD w), .cl (.int t), .cl (.int z), .no, .no, .no] from rfl, e]
  simp [frzF, wM_toD]
/-! ### programs that have the defs of nets -/
def Pg.has (p : Pg) (f : String) (np n : Nat) (b : Ss) : Prop := ∃ d, p.fns.find? (fun d => d.nm == f) = some d ∧ d.ps.length = np ∧ d.N.length = n ∧ d.body = b
theorem run_has {p : Pg} {f : String} {np n : Nat} {b : Ss} (h : p.has f np n b) (k : Nat) (args : List SV) : run p (k + 1) f args = evF (run p k) np n b args := by
  obtain ⟨d, h1, h2, h3, h4⟩ := h
  show (match p.fns.find? (fun d => d.nm == f) with | some d => evF (run p k) d.ps.length d.N.length d.body args | none => .stuck) = _
  rw [h1]
  simp only [h2, h3, h4]
structure NetP (p : Pg) : Prop where
  known : p.has "Net.known" 2 2 B_Net_known
  least : p.has "least_of" 2 4 B_least_of
  at_ : p.has "Net.sights_at" 2 4 B_Net_sights_at
  sight : p.has "Net.sight" 2 2 B_Net_sight
  beyond : p.has "beyond" 3 6 B_beyond
  next : p.has "next_start" 3 8 B_next_start
  houses : p.has "Net.houses" 1 1 B_Net_houses
  spread : p.has "spread" 4 11 B_spread
theorem NetP.c {p : Pg} (P : NetP p) {hs : Hs} {ss : List Sg} (N : NetOk hs ss) (n : Nat) : NetC (run p (n + 2)) hs ss where
  known := fun w q h => by rw [run_has P.known]; exact known_ok _ h
  least := fun T Dn => by rw [run_has P.least]; exact least_ok _ T Dn
  at_ := fun w q h => by rw [run_has P.at_]; exact sightsAt_ok _ (by rw [run_has P.known]; exact known_ok _ h) N.sl
  sight := fun i s h0 h => by rw [run_has P.sight]; exact sight_ok _ h0 h
  beyond := fun w i s h0 h ok => by rw [run_has P.beyond]; exact beyond_ok _ (by rw [run_has P.sight]; exact sight_ok _ h0 h) ok (N.sg s (List.mem_of_getElem? h)).a
  next := fun f e l t z h => by rw [run_has P.next]; exact next_ok _ h
  houses := by rw [run_has P.houses]; exact houses_ok _
theorem NetP.spr {p : Pg} (P : NetP p) {hs : Hs} {ss : List Sg} (N : NetOk hs ss) (n : Nat) {w : Wo} (hw : w ∈ hs.map (·.1)) (t z : Int) : run p (n + 3) "spread" [.lk (netM hs ss), .cl (kD w), .cl (.int t), .cl (.int z)] = .ok (.cl (.tup [wD D.int (spF hs ss w t z).T, wD backD (spF hs ss w t z).B])) := by
  rw [run_has P.spread]; exact spread_ok N (P.c N n) hw
/-! ### building -/
structure NetB (p : Pg) : Prop where
  good : p.has "good_name" 1 2 B_good_name
  known : p.has "Net.known" 2 2 B_Net_known
  checked : p.has "checked" 1 4 B_checked
  init : p.has "Net.__init__" 1 1 B_Net___init__
  addH : p.has "Net.add_house" 4 4 B_Net_add_house
  addS : p.has "Net.add_sight" 4 4 B_Net_add_sight
theorem nameP_len {w : Wo} (h : nameP w = true) : w.length ≤ 100 := by
  unfold nameP at h
  simp only [Bool.and_eq_true, decide_eq_true_eq] at h
  omega
section
variable {p : Pg} (P : NetB p) (n : Nat) {hs : Hs} {ss : List Sg}
include P
theorem NetB.mkN : evE (run p (n + 1)) (.mk "Net" .nil) = fun _ => .ok (.nw (netM [] [])) := by
  funext sl
  have : run p (n + 1) "Net.__init__" [.bo 0 (.ins (Str.ofString "Net") [] [])] = .ok (.mu (.cl .non) [netM [] []]) := by rw [run_has P.init]; exact init_ok _
  simp [this, mkF]
theorem NetB.house {w : Wo} {b : Bool} {r : Int} (hw : nameP w = true) (hn : aget hs w = none) (hr : 0 ≤ r) (hl : hs.length ≤ 1000) : run p (n + 2) "Net.add_house" [.bo 0 (netM hs ss), .cl (kD w), .cl (.bl b), .cl (.int r)] = .ok (.mu (.cl .non) [netM (hs ++ [(w, (b, r))]) ss]) := by
  rw [run_has P.addH, ← aput_new (aget_none.mp hn)]
  exact addHouse_ok _ (by rw [run_has P.good]; rw [good_ok _ w (nameP_len hw), hw]) hn hr hl
theorem NetB.sight {s : Sg} (so : SgOk s) (ha : s.a ∈ hs.map (·.1)) (hb : s.b ∈ hs.map (·.1)) (hl : ss.length ≤ 1000) : run p (n + 2) "Net.add_sight" [.bo 0 (netM hs ss), .cl (kD s.a), .cl (kD s.b), .cl (beatD s.f s.e s.l)] = .ok (.mu (.cl (.int ss.length)) [netM hs (ss ++ [s])]) := by
  obtain ⟨pa, ha⟩ := aget_some.mpr ha
  obtain ⟨pb, hb⟩ := aget_some.mpr hb
  rw [run_has P.addS]
  exact addSight_ok _ so (by rw [run_has P.known]; exact known_ok _ ha) (by rw [run_has P.known]; exact known_ok _ hb) (by rw [run_has P.checked]; exact checked_ok _ ⟨so.f, so.e, so.l, so.le⟩) hl
end
@[simp] theorem argsSL_nil : argsSL [] = some [] := rfl
@[simp] theorem argsSL_cl (d : D) (xs : List XV) : argsSL (.cl d :: xs) = (argsSL xs).map (SV.cl d :: ·) := by
  cases h : argsSL xs <;> simp only [argsSL, XV.argS, h] <;> rfl
/-- a method that changes a slot's own thing -/
theorem evS_mxv (c : Calls) {sl : Sl} {i : Nat} {cl m : String} {es : Es} {M M' : MO} {xs : List XV} {as : List SV} {x : XV} (h : sl[i]? = some (.ow M)) (hi : isIns cl (Str.ofString m) (.tm M) = true) (he : evEs c es sl = .ok xs) (ha : argsSL xs = some as) (hc : c (cl ++ "." ++ m) (.bo 0 M :: as) = .ok (.mu x [M'])) : evS c (.mx .drop (.mth cl m (.v i) es)) sl = some (.nx (sl.set i (.ow M'))) := by
  have e : plF c (.v i) sl = .ok ⟨i, [], M⟩ := ptV_ow h
  rw [evS_mx]
  unfold evM
  simp only
  rw [e]
  simp only [R.outM, hi, if_true, he, ha, hc, callF, putS_ow h, dstF]
theorem evS_house {p : Pg} (P : NetB p) (n : Nat) {hs : Hs} {ss : List Sg} {sl : Sl} {i : Nat} {es : Es} {w : Wo} {b : Bool} {r : Int} (h : sl[i]? = some (.ow (netM hs ss))) (he : evEs (run p (n + 2)) es sl = .ok [.cl (kD w), .cl (.bl b), .cl (.int r)]) (hw : nameP w = true) (hn : aget hs w = none) (hr : 0 ≤ r) (hl : hs.length ≤ 1000) : evS (run p (n + 2)) (.mx .drop (.mth "Net" "add_house" (.v i) es)) sl = some (.nx (sl.set i (.ow (netM (hs ++ [(w, (b, r))]) ss)))) :=
  evS_mxv _ h (isE2 hs ss) he (by simp) (P.house n hw hn hr hl)
theorem evS_sight {p : Pg} (P : NetB p) (n : Nat) {hs : Hs} {ss : List Sg} {sl : Sl} {i : Nat} {es : Es} {s : Sg} (h : sl[i]? = some (.ow (netM hs ss))) (he : evEs (run p (n + 2)) es sl = .ok [.cl (kD s.a), .cl (kD s.b), .cl (beatD s.f s.e s.l)]) (so : SgOk s) (ha : s.a ∈ hs.map (·.1)) (hb : s.b ∈ hs.map (·.1)) (hl : ss.length ≤ 1000) : evS (run p (n + 2)) (.mx .drop (.mth "Net" "add_sight" (.v i) es)) sl = some (.nx (sl.set i (.ow (netM hs (ss ++ [s]))))) :=
  evS_mxv _ h (isF2 hs ss) he (by simp) (P.sight n so ha hb hl)
/-- all houses of some names -/
theorem houses_for {p : Pg} (P : NetB p) (n : Nat) {c : Calls} (hc : c = run p (n + 2)) {W : List Wo} (W0 : NmsOk W) (wl : W.length ≤ 1000) {b : Wo → Bool} {r : Wo → Int} (hr : ∀ w ∈ W, 0 ≤ r w) {t : Tg} {i : Nat} {es : Es} (Q : Sl → Prop) {dd : Wo → D}
    (h : ∀ w ∈ W, ∀ sl M, Q sl → sl[i]? = some (.ow M) → ∃ s1, tgo t (dd w) sl = some s1 ∧ s1[i]? = some (.ow M) ∧ evEs c es s1 = .ok [.cl (kD w), .cl (.bl (b w)), .cl (.int (r w))] ∧ ∀ M', Q (s1.set i (.ow M'))) {sl : Sl} (q : Q sl) (h0 : sl[i]? = some (.ow (netM [] []))) :
    ∃ s', forL (tgo t) (evSs c (.cons (.mx .drop (.mth "Net" "add_house" (.v i) es)) .nil)) (W.map dd) sl = some (.nx s') ∧ Q s' ∧ s'[i]? = some (.ow (netM (W.map fun w => (w, (b w, r w))) [])) := by
  subst hc
  have key := forL_foldP (g := tgo t) (b := evSs (run p (n + 2)) (.cons (.mx .drop (.mth "Net" "add_house" (.v i) es)) .nil)) (fun (a : Hs) sl => Q sl ∧ sl[i]? = some (.ow (netM a []))) (fun (a : Hs) w => a ++ [(w, (b w, r w))]) dd [] W (post := W) (pre := []) (sl := sl) rfl (by
    rintro pre w post sl e ⟨q, hi⟩
    have fold : ∀ (l : List Wo) (a : Hs), l.foldl (fun (a : Hs) w => a ++ [(w, (b w, r w))]) a = a ++ l.map fun w => (w, (b w, r w)) := fun l => by
      induction l with
      | nil => simp
      | cons x l ih => intro a; simp [ih]
    have hw : w ∈ W := by rw [e]; simp
    have nd := W0.nd
    rw [e] at nd
    have hnp : w ∉ pre := fun z => by
      have := (List.nodup_append.mp nd).2.2 w z w (by simp)
      exact this rfl
    obtain ⟨s1, h1, h2, h3, h4⟩ := h w hw sl _ q hi
    rw [fold, List.nil_append] at h2 ⊢
    have lp : pre.length ≤ 1000 := by rw [e] at wl; simp at wl; omega
    have st := evS_house P n (es := es) (w := w) (b := b w) (r := r w) h2 h3 (W0.nm w hw) (aget_none.mpr (by rw [List.map_map]; simpa using hnp)) (hr w hw) (by rw [List.length_map]; exact lp)
    refine ⟨s1, h1, _, by rw [evSs_cons, st]; rfl, h4 _, ?_⟩
    have : i < s1.length := (List.getElem?_eq_some_iff.mp h2).1
    rw [List.getElem?_set_self this]) ⟨q, h0⟩
  obtain ⟨s', k1, k2, k3⟩ := key
  have fold : ∀ (l : List Wo) (a : Hs), l.foldl (fun (a : Hs) w => a ++ [(w, (b w, r w))]) a = a ++ l.map fun w => (w, (b w, r w)) := fun l => by
    induction l with
    | nil => simp
    | cons x l ih => intro a; simp [ih]
  rw [fold, List.nil_append] at k3
  exact ⟨s', k1, k2, k3⟩
theorem sights_for {p : Pg} (P : NetB p) (n : Nat) {c : Calls} (hc : c = run p (n + 2)) {hs : Hs} {S : List Sg} (sl0 : S.length ≤ 900) (so : ∀ s ∈ S, SgOk s ∧ s.a ∈ hs.map (·.1) ∧ s.b ∈ hs.map (·.1)) {t : Tg} {i : Nat} {es : Es} (Q : Sl → Prop)
    (h : ∀ s ∈ S, ∀ sl M, Q sl → sl[i]? = some (.ow M) → ∃ s1, tgo t s.d sl = some s1 ∧ s1[i]? = some (.ow M) ∧ evEs c es s1 = .ok [.cl (kD s.a), .cl (kD s.b), .cl (beatD s.f s.e s.l)] ∧ ∀ M', Q (s1.set i (.ow M'))) {S0 : List Sg} (s0l : S0.length ≤ 100) {sl : Sl} (q : Q sl) (h0 : sl[i]? = some (.ow (netM hs S0))) :
    ∃ s', forL (tgo t) (evSs c (.cons (.mx .drop (.mth "Net" "add_sight" (.v i) es)) .nil)) (S.map Sg.d) sl = some (.nx s') ∧ Q s' ∧ s'[i]? = some (.ow (netM hs (S0 ++ S))) := by
  subst hc
  have fold : ∀ (l a : List Sg), l.foldl (fun (a : List Sg) s => a ++ [s]) a = a ++ l := fun l => by
    induction l with
    | nil => simp
    | cons x l ih => intro a; simp [ih]
  obtain ⟨s', k1, k2, k3⟩ := forL_foldP (g := tgo t) (b := evSs (run p (n + 2)) (.cons (.mx .drop (.mth "Net" "add_sight" (.v i) es)) .nil)) (fun (a : List Sg) sl => Q sl ∧ sl[i]? = some (.ow (netM hs a))) (fun (a : List Sg) s => a ++ [s]) Sg.d S0 S (post := S) (pre := []) (sl := sl) rfl (by
    rintro pre s post sl e ⟨q, hi⟩
    have hm : s ∈ S := by rw [e]; simp
    obtain ⟨o1, o2, o3⟩ := so s hm
    obtain ⟨s1, h1, h2, h3, h4⟩ := h s hm sl _ q hi
    rw [fold] at h2 ⊢
    have lp : pre.length ≤ 900 := by rw [e] at sl0; simp at sl0; omega
    have st := evS_sight P n (es := es) (s := s) h2 h3 o1 o2 o3 (by rw [List.length_append]; omega)
    refine ⟨s1, h1, _, by rw [evSs_cons, st]; rfl, h4 _, ?_⟩
    have : i < s1.length := (List.getElem?_eq_some_iff.mp h2).1
    rw [List.getElem?_set_self this]) ⟨q, h0⟩
  rw [fold] at k3
  exact ⟨s', k1, k2, k3⟩
end Mo
namespace Mo
open PySem PySem.Spec PyProof.Rows L2
/-! ### the least turns, in plain words -/
theorem nxO_ge {f e l t z q : Int} (he : 1 ≤ e) (hl : 1 ≤ l) (hle : l ≤ e) (hz : 1 ≤ z) (h : nxO f e l t z = some q) : t ≤ q := by
  have := nxO_ok (f := f) (t := t) he hl hle hz
  rw [h] at this
  exact this.1.1
theorem nxO_mono {f e l t t' z q q' : Int} (he : 1 ≤ e) (hl : 1 ≤ l) (hle : l ≤ e) (hz : 1 ≤ z) (ht : t ≤ t') (h : nxO f e l t z = some q) (h' : nxO f e l t' z = some q') : q ≤ q' := by
  have a := nxO_ok (f := f) (t := t) he hl hle hz
  have b := nxO_ok (f := f) (t := t') he hl hle hz
  rw [h] at a
  rw [h'] at b
  exact a.2 q' ⟨Int.le_trans ht b.1.1, b.1.2⟩
theorem nxO_some {f e l t z : Int} : (nxO f e l t z).isSome = decide (l = e ∨ z ≤ l) := by
  unfold nxO
  split
  · simp [*]
  · split
    · rename_i a b
      have : ¬ z ≤ l := by omega
      simp [a, this]
    · rename_i a b
      have : z ≤ l := by omega
      split <;> split <;> simp [this]
theorem nxO_shift {f e l t z P : Int} (he : 1 ≤ e) (ht : f ≤ t) (hP : 0 ≤ P) (hd : e ∣ P) : nxO f e l (t + P) z = (nxO f e l t z).map (· + P) := by
  have m1 : (if f > t + P then f else t + P) = t + P := if_neg (by omega)
  have m2 : (if f > t then f else t) = t := if_neg (by omega)
  have mm : (t + P - f) % e = (t - f) % e := by
    obtain ⟨c, rfl⟩ := hd
    rw [show t + e * c - f = (t - f) + e * c by omega, Int.add_mul_emod_self_left]
  unfold nxO
  rw [m1, m2, mm]
  split
  · rfl
  · split
    · rfl
    · split
      · rfl
      · simp only [Option.map_some, Option.some.injEq]
        omega
structure Dj (ss : List Sg) (house : Wo) (turn z : Int) (T : List (Wo × Int)) (B : Bk) (Dk : Wo → Prop) (E : Wo → Nat → Prop) : Prop where
  ho : aget T house = some turn
  lo : ∀ k v, aget T k = some v → turn ≤ v
  dn : ∀ d, Dk d → ∃ v, aget T d = some v
  ord : ∀ d k v w, Dk d → ¬ Dk k → aget T d = some v → aget T k = some w → v ≤ w
  clo : ∀ d n v s q, Dk d → E d n → aget T d = some v → ss[n]? = some s → (d = s.a ∨ d = s.b) → nxO s.f s.e s.l v z = some q → ∃ w, aget T (oth s d) = some w ∧ w ≤ q + z
  bk : ∀ k v, aget T k = some v → k ≠ house → ∃ (n : Nat) (q : Int) (p : Wo) (s : Sg) (u : Int), aget B k = some ((n : Int), q, p) ∧ Dk p ∧ ss[n]? = some s ∧ (p = s.a ∨ p = s.b) ∧ oth s p = k ∧ aget T p = some u ∧ nxO s.f s.e s.l u z = some q ∧ v = q + z
theorem oth_ne {s : Sg} (h : SgOk s) {d : Wo} (hd : d = s.a ∨ d = s.b) : oth s d ≠ d := by
  unfold oth
  rcases hd with rfl | rfl
  · rw [if_pos rfl]; exact fun e => h.ne e.symm
  · rw [if_neg (fun e => h.ne e.symm)]; exact h.ne
section
variable {ss : List Sg} (SO : ∀ s ∈ ss, SgOk s) {house : Wo} {turn z : Int} (hz : 1 ≤ z)
include SO hz
theorem Dj.relax {T : List (Wo × Int)} {B : Bk} {Dk : Wo → Prop} {E : Wo → Nat → Prop} {here : Wo} {v : Int} (h : Dj ss house turn z T B Dk E) (hd : Dk here) (hv : aget T here = some v) (top : ∀ d w, Dk d → aget T d = some w → w ≤ v) {n : Nat} (hn : n ∈ sAt ss here) :
    Dj ss house turn z (relax ss z here (T, B) n).1 (relax ss z here (T, B) n).2 Dk (fun d m => E d m ∨ (d = here ∧ m = n)) ∧ ∀ d w, Dk d → (aget (relax ss z here (T, B) n).1 d = some w ↔ aget T d = some w) := by
  obtain ⟨s, hs, hw⟩ := sAt_mem.mp hn
  have so := SO s (List.mem_of_getElem? hs)
  have tg : Tg_ T here = v := by unfold Tg_; rw [hv]; rfl
  have on := oth_ne so hw
  unfold Mo.relax
  rw [hs]
  simp only [tg]
  cases hq : nxO s.f s.e s.l v z with
  | none =>
    refine ⟨⟨h.ho, h.lo, h.dn, h.ord, fun d m v' s' q' a1 a2 a3 a4 a5 a6 => ?_, h.bk⟩, fun _ _ _ => Iff.rfl⟩
    rcases a2 with a2 | ⟨rfl, rfl⟩
    · exact h.clo d m v' s' q' a1 a2 a3 a4 a5 a6
    · rw [hs] at a4; cases a4
      rw [hv] at a3; cases a3
      rw [hq] at a6; cases a6
  | some q =>
    simp only
    have qv := nxO_ge so.e so.l so.le hz hq
    by_cases cnd : ((aget T (oth s here)).isNone || decide (q + z < Tg_ T (oth s here))) = true
    · rw [if_pos cnd]
      have nd : ¬ Dk (oth s here) := fun dd => by
        obtain ⟨w, hw2⟩ := h.dn _ dd
        have := top _ w dd hw2
        have tg2 : Tg_ T (oth s here) = w := by unfold Tg_; rw [hw2]; rfl
        rw [hw2, tg2] at cnd
        simp at cnd
        omega
      have nh : oth s here ≠ house := fun e => by
        have tg2 : Tg_ T (oth s here) = turn := by unfold Tg_; rw [e, h.ho]; rfl
        have := h.lo _ _ hv
        rw [e, h.ho] at cnd
        rw [e] at tg2
        rw [tg2] at cnd
        simp at cnd
        omega
      have old : ∀ w, aget T (oth s here) = some w → q + z < w := fun w e => by
        have tg2 : Tg_ T (oth s here) = w := by unfold Tg_; rw [e]; rfl
        rw [e, tg2] at cnd
        simpa using cnd
      have ne : ∀ d, Dk d → oth s here ≠ d := fun d hd e => nd (e ▸ hd)
      have keep : ∀ d w, Dk d → (aget (aput T (oth s here) (q + z)) d = some w ↔ aget T d = some w) := fun d w dd => by
        rw [aget_put, if_neg (ne d dd)]
      refine ⟨⟨?_, fun k w hk => ?_, fun d dd => ?_, fun d k v' w dd nk hd' hk => ?_, fun d m v' s' q' a1 a2 a3 a4 a5 a6 => ?_, fun k w hk nk => ?_⟩, keep⟩
      · rw [aget_put, if_neg nh]; exact h.ho
      · rw [aget_put] at hk
        split at hk
        · have := h.lo _ _ hv
          cases hk; omega
        · exact h.lo k w hk
      · obtain ⟨w, e⟩ := h.dn d dd
        exact ⟨w, (keep d w dd).mpr e⟩
      · have hd2 := (keep d v' dd).mp hd'
        rw [aget_put] at hk
        split at hk
        · have := top d v' dd hd2
          cases hk; omega
        · exact h.ord d k v' w dd nk hd2 hk
      · have hd2 := (keep d v' a1).mp a3
        rcases a2 with a2 | ⟨rfl, rfl⟩
        · obtain ⟨w, e1, e2⟩ := h.clo d m v' s' q' a1 a2 hd2 a4 a5 a6
          rw [aget_put]
          split
          · rename_i e
            rw [← e] at e1
            exact ⟨_, rfl, by have := old w e1; omega⟩
          · exact ⟨w, e1, e2⟩
        · rw [hs] at a4; cases a4
          rw [hv] at hd2; cases hd2
          rw [hq] at a6; cases a6
          exact ⟨q + z, by rw [aget_put, if_pos rfl], Int.le_refl _⟩
      · rw [aget_put] at hk
        split at hk
        · rename_i e
          cases hk
          exact ⟨n, q, here, s, v, by rw [aget_put, if_pos e], hd, hs, hw, e, (keep here v hd).mpr hv, hq, rfl⟩
        · rename_i e
          obtain ⟨n', q', p, s', u, b1, b2, b3, b4, b5, b6, b7, b8⟩ := h.bk k w hk nk
          exact ⟨n', q', p, s', u, by rw [aget_put, if_neg e]; exact b1, b2, b3, b4, b5, (keep p u b2).mpr b6, b7, b8⟩
    · rw [if_neg cnd]
      refine ⟨⟨h.ho, h.lo, h.dn, h.ord, fun d m v' s' q' a1 a2 a3 a4 a5 a6 => ?_, h.bk⟩, fun _ _ _ => Iff.rfl⟩
      rcases a2 with a2 | ⟨rfl, rfl⟩
      · exact h.clo d m v' s' q' a1 a2 a3 a4 a5 a6
      · rw [hs] at a4; cases a4
        rw [hv] at a3; cases a3
        rw [hq] at a6; cases a6
        cases hT : aget T (oth s d) with
        | none => rw [hT] at cnd; simp at cnd
        | some w =>
          have tg2 : Tg_ T (oth s d) = w := by unfold Tg_; rw [hT]; rfl
          rw [hT, tg2] at cnd
          exact ⟨w, rfl, by simp at cnd; exact cnd⟩
theorem Dj.fold {Dk : Wo → Prop} {here : Wo} {v : Int} (hd : Dk here) : ∀ (ns : List Nat) {T : List (Wo × Int)} {B : Bk} {E : Wo → Nat → Prop}, Dj ss house turn z T B Dk E → aget T here = some v → (∀ d w, Dk d → aget T d = some w → w ≤ v) → (∀ n ∈ ns, n ∈ sAt ss here) →
    Dj ss house turn z (ns.foldl (Mo.relax ss z here) (T, B)).1 (ns.foldl (Mo.relax ss z here) (T, B)).2 Dk (fun d m => E d m ∨ (d = here ∧ m ∈ ns)) ∧ ∀ d w, Dk d → (aget (ns.foldl (Mo.relax ss z here) (T, B)).1 d = some w ↔ aget T d = some w)
  | [], T, B, E, h, _, _, _ => by
    refine ⟨?_, fun _ _ _ => Iff.rfl⟩
    have : (fun d m => E d m ∨ (d = here ∧ m ∈ ([] : List Nat))) = E := by funext d m; simp
    rw [this]; exact h
  | n :: ns, T, B, E, h, hv, top, hns => by
    obtain ⟨a, b⟩ := Dj.relax SO hz h hd hv top (hns n List.mem_cons_self)
    rw [List.foldl_cons]
    obtain ⟨a', b'⟩ := Dj.fold hd ns (T := (Mo.relax ss z here (T, B) n).1) (B := (Mo.relax ss z here (T, B) n).2) a ((b here v hd).mpr hv) (fun d w dd e => top d w dd ((b d w dd).mp e)) (fun m hm => hns m (List.mem_cons_of_mem _ hm))
    refine ⟨?_, fun d w dd => (b' d w dd).trans (b d w dd)⟩
    have : (fun d m => E d m ∨ (d = here ∧ m ∈ n :: ns)) = (fun d m => (E d m ∨ (d = here ∧ m = n)) ∨ (d = here ∧ m ∈ ns)) := by
      funext d m
      simp only [List.mem_cons, eq_iff_iff]
      constructor
      · rintro (h | ⟨h1, h2 | h2⟩)
        · exact .inl (.inl h)
        · exact .inl (.inr ⟨h1, h2⟩)
        · exact .inr ⟨h1, h2⟩
      · rintro ((h | ⟨h1, h2⟩) | ⟨h1, h2⟩)
        · exact .inl h
        · exact .inr ⟨h1, .inl h2⟩
        · exact .inr ⟨h1, .inr h2⟩
    rw [this]
    exact a'
abbrev DjS (ss : List Sg) (house : Wo) (turn z : Int) (st : Sp) : Prop := Dj ss house turn z st.T st.B (fun d => d ∈ st.Dn.map (·.1)) (fun _ _ => True)
theorem Dj.step {hs : Hs} {st : Sp} (I : SI hs st) (hl : st.Dn.length < st.T.length) (h : DjS ss house turn z st) : DjS ss house turn z (spStep ss z st) := by
  obtain ⟨w, v, h1, h2, h3, h4⟩ := least_some I.nt hl
  have e : (leastO st.T st.Dn).getD [] = w := by rw [h1]; rfl
  have hw : w ∉ st.Dn.map (·.1) := aget_none.mp h3
  -- here is done
  have h0 : Dj ss house turn z st.T st.B (fun d => d ∈ st.Dn.map (·.1) ∨ d = w) (fun d _ => d ≠ w) := by
    refine ⟨h.ho, h.lo, fun d dd => ?_, fun d k v' u dd nk hd hk => ?_, fun d n v' s q a1 a2 a3 a4 a5 a6 => ?_, fun k u hk nk => ?_⟩
    · rcases dd with dd | rfl
      · exact h.dn d dd
      · exact ⟨v, h2⟩
    · have nk1 : k ∉ st.Dn.map (·.1) := fun x => nk (.inl x)
      rcases dd with dd | rfl
      · exact h.ord d k v' u dd nk1 hd hk
      · rw [h2] at hd; cases hd
        exact h4 k u hk (aget_none.mpr nk1)
    · rcases a1 with a1 | a1
      · exact h.clo d n v' s q a1 trivial a3 a4 a5 a6
      · exact absurd a1 a2
    · obtain ⟨n, q, p, s, u', b1, b2, b3⟩ := h.bk k u hk nk
      exact ⟨n, q, p, s, u', b1, .inl b2, b3⟩
  have top : ∀ d u, (d ∈ st.Dn.map (·.1) ∨ d = w) → aget st.T d = some u → u ≤ v := fun d u dd hd => by
    rcases dd with dd | rfl
    · exact h.ord d w u v dd hw hd h2
    · rw [h2] at hd; cases hd; exact Int.le_refl _
  obtain ⟨a, _⟩ := Dj.fold SO hz (Dk := fun d => d ∈ st.Dn.map (·.1) ∨ d = w) (here := w) (v := v) (.inr rfl) (sAt ss w) h0 h2 top (fun n hn => hn)
  have es : spStep ss z st = ⟨((sAt ss w).foldl (Mo.relax ss z w) (st.T, st.B)).1, ((sAt ss w).foldl (Mo.relax ss z w) (st.T, st.B)).2, aput st.Dn w true⟩ := by unfold spStep; rw [e]
  rw [es]
  have dk : ∀ d, d ∈ (aput st.Dn w true).map (·.1) ↔ (d ∈ st.Dn.map (·.1) ∨ d = w) := fun d => by
    rw [aput_keys, if_neg hw, List.mem_append, List.mem_singleton]
  refine ⟨a.ho, a.lo, fun d dd => a.dn d ((dk d).mp dd), fun d k v' u dd nk hd hk => a.ord d k v' u ((dk d).mp dd) (fun x => nk ((dk k).mpr x)) hd hk, fun d n v' s q a1 _ a3 a4 a5 a6 => ?_, fun k u hk nk => ?_⟩
  · by_cases hh : d = w
    · subst hh
      exact a.clo d n v' s q ((dk d).mp a1) (.inr ⟨rfl, sAt_mem.mpr ⟨s, a4, a5⟩⟩) a3 a4 a5 a6
    · exact a.clo d n v' s q ((dk d).mp a1) (.inl hh) a3 a4 a5 a6
  · obtain ⟨n, q, p, s, u', b1, b2, b3⟩ := a.bk k u hk nk
    exact ⟨n, q, p, s, u', b1, (dk p).mpr b2, b3⟩
end
theorem Dj.init {ss : List Sg} {house : Wo} {turn z : Int} : DjS ss house turn z (sp0 house turn) := by
  refine ⟨by simp [sp0, aget], fun k v h => ?_, fun d h => by simp [sp0] at h, fun d k v w h => by simp [sp0] at h, fun d n v s q h => by simp [sp0] at h, fun k v h nk => ?_⟩
  · simp only [sp0, aget] at h
    split at h
    · cases h; exact Int.le_refl _
    · cases h
  · simp only [sp0, aget] at h
    split at h
    · rename_i e; exact absurd e.symm nk
    · cases h
/-- the least turns -/
structure Lt_ (hs : Hs) (ss : List Sg) (house : Wo) (turn z : Int) (T : List (Wo × Int)) (B : Bk) : Prop where
  nd : (T.map (·.1)).Nodup
  sub : ∀ k ∈ T.map (·.1), k ∈ hs.map (·.1)
  ho : aget T house = some turn
  lo : ∀ k v, aget T k = some v → turn ≤ v
  clo : ∀ (d : Wo) (n : Nat) (v : Int) (s : Sg) (q : Int), aget T d = some v → ss[n]? = some s → (d = s.a ∨ d = s.b) → nxO s.f s.e s.l v z = some q → ∃ w, aget T (oth s d) = some w ∧ w ≤ q + z
  bk : ∀ k v, aget T k = some v → k ≠ house → ∃ (n : Nat) (q : Int) (p : Wo) (s : Sg) (u : Int), aget B k = some ((n : Int), q, p) ∧ ss[n]? = some s ∧ (p = s.a ∨ p = s.b) ∧ oth s p = k ∧ aget T p = some u ∧ nxO s.f s.e s.l u z = some q ∧ v = q + z ∧ u < v
theorem fin_ok {hs : Hs} {ss : List Sg} (N : NetOk hs ss) {house : Wo} (hh : house ∈ hs.map (·.1)) {turn z : Int} (hz : 1 ≤ z) : Lt_ hs ss house turn z (spF hs ss house turn z).T (spF hs ss house turn z).B := by
  obtain ⟨I, h, hl⟩ := spN_ind N (DjS ss house turn z) (fun st I hl h => Dj.step N.sg hz I hl h) hs.length (sp0 house turn) (SI.init hh) Dj.init (by omega)
  have al := I.all hl
  refine ⟨I.nt, I.sub, h.ho, h.lo, fun d n v s q a1 a2 a3 a4 => h.clo d n v s q (al d (aget_some.mp ⟨v, a1⟩)) trivial a1 a2 a3 a4, fun k v hk nk => ?_⟩
  obtain ⟨n, q, p, s, u, b1, b2, b3, b4, b5, b6, b7, b8⟩ := h.bk k v hk nk
  have so := N.sg s (List.mem_of_getElem? b3)
  have := nxO_ge so.e so.l so.le hz b7
  exact ⟨n, q, p, s, u, b1, b3, b4, b5, b6, b7, b8, by omega⟩
/-- no other turns that are closed so are less -/
theorem Lt_.least {hs : Hs} {ss : List Sg} (SO : ∀ s ∈ ss, SgOk s) {house : Wo} {turn z : Int} (hz : 1 ≤ z) {T : List (Wo × Int)} {B : Bk} (h : Lt_ hs ss house turn z T B) (U : Wo → Option Int) {t0 : Int} (hU : ∃ x, U house = some x ∧ x ≤ turn) (hc : ∀ (d : Wo) (n : Nat) (v : Int) (s : Sg) (q : Int), U d = some v → ss[n]? = some s → (d = s.a ∨ d = s.b) → nxO s.f s.e s.l v z = some q → ∃ w, U (oth s d) = some w ∧ w ≤ q + z) :
    ∀ (m : Nat) k v, v - turn < (m : Int) → aget T k = some v → ∃ w, U k = some w ∧ w ≤ v
  | 0, k, v, hm, hk => by
    have := h.lo k v hk
    omega
  | m + 1, k, v, hm, hk => by
    by_cases e : k = house
    · subst e
      rw [h.ho] at hk; cases hk
      exact hU
    · obtain ⟨n, q, p, s, u, b1, b3, b4, b5, b6, b7, b8, b9⟩ := h.bk k v hk e
      obtain ⟨x, x1, x2⟩ := Lt_.least SO hz h U (t0 := t0) hU hc m p u (by omega) b6
      have so := SO s (List.mem_of_getElem? b3)
      have sm := nxO_some (f := s.f) (e := s.e) (l := s.l) (t := x) (z := z)
      have sm2 := nxO_some (f := s.f) (e := s.e) (l := s.l) (t := u) (z := z)
      rw [b7] at sm2
      rw [← sm2] at sm
      obtain ⟨q', hq'⟩ := Option.isSome_iff_exists.mp sm
      have le := nxO_mono so.e so.l so.le hz x2 hq' b7
      obtain ⟨w, w1, w2⟩ := hc p n x s q' x1 b3 b4 hq'
      rw [b5] at w1
      exact ⟨w, w1, by omega⟩
theorem cm_get {hs : Hs} {T : List (Wo × Int)} (sub : ∀ k ∈ T.map (·.1), k ∈ hs.map (·.1)) (nd : (hs.map (·.1)).Nodup) (k : Wo) : aget (cmF hs T) k = aget T k := by
  have gen : ∀ ks : List Wo, ks.Nodup → aget (ks.filterMap fun k => (aget T k).map fun v => (k, v)) k = if k ∈ ks then aget T k else none := fun ks => by
    induction ks with
    | nil => intro _; rfl
    | cons x ks ih =>
      intro hn
      rw [List.nodup_cons] at hn
      rw [List.filterMap_cons]
      cases e : aget T x with
      | none =>
        simp only [Option.map_none]
        rw [ih hn.2]
        by_cases q : k = x
        · subst q; simp [e]
        · simp [q]
      | some v =>
        simp only [Option.map_some]
        show (if x = k then some v else aget (ks.filterMap fun k => (aget T k).map fun v => (k, v)) k) = _
        by_cases q : x = k
        · subst q; simp [e]
        · have : ¬ k = x := fun z => q z.symm
          simp only [q, if_false, ih hn.2, List.mem_cons, this, false_or]
  unfold cmF
  rw [gen _ nd]
  split
  · rfl
  · rename_i h
    exact (aget_none.mpr fun z => h (sub k z)).symm
theorem cm_keys (hs : Hs) (T : List (Wo × Int)) : (cmF hs T).map (·.1) = (hs.map (·.1)).filter fun k => (aget T k).isSome := by
  unfold cmF
  induction hs.map (·.1) with
  | nil => rfl
  | cons k ks ih =>
    rw [List.filterMap_cons, List.filter_cons]
    cases aget T k <;> simp [ih]
end Mo
namespace Mo
open PySem PySem.Spec PyProof.Rows L2
/-! ### drawn rounds and pairs of houses -/
def B_law_turning : Ss := (.cons (.asg 3 (.bin .add (.int 1) (.call "_law_by" (.cons (.var 0) (.cons (.var 1) (.cons (.int 12) .nil)))))) (.cons (.ifs (.cmp .eq (.call "_law_by" (.cons (.var 0) (.cons (.bin .add (.var 1) (.int 1)) (.cons (.int 4) .nil)))) (.int 0)) (.cons (.asg 3 (.bin .add (.int 1) (.bin .mod (.call "_law_cell_at" (.cons (.var 0) (.cons (.bin .add (.var 1) (.int 1)) .nil))) (.bin .pow (.int 10) (.int 30))))) .nil) .nil) (.cons (.asg 4 (.bin .add (.int 1) (.bin .mod (.call "_law_by" (.cons (.var 0) (.cons (.bin .add (.var 1) (.int 2)) (.cons (.int 1000) .nil)))) (.var 3)))) (.cons (.ifs (.cmp .eq (.call "_law_by" (.cons (.var 0) (.cons (.bin .add (.var 1) (.int 3)) (.cons (.int 5) .nil)))) (.int 0)) (.cons (.asg 4 (.var 3)) .nil) .nil) (.cons (.ret (.tup (.cons (.bin .add (.var 2) (.call "_law_by" (.cons (.var 0) (.cons (.bin .add (.var 1) (.int 4)) (.cons (.int 30) .nil))))) (.cons (.var 3) (.cons (.var 4) .nil))))) .nil)))))
structure TuIn (far f e l : Int) : Prop where
  hf : far ≤ f ∧ f < far + 30
  he : 1 ≤ e ∧ e ≤ 1000000000000000000000000000000
  hl : 1 ≤ l ∧ l ≤ e
theorem turning_ok {c : Calls} (d : Draws c) {ns : List Int} (hl : ns.length ≤ 63) {k : Int} (hk : 0 ≤ k) (hk2 : k ≤ 10000) (far : Int) : ∃ f e l, TuIn far f e l ∧ evF c 3 5 B_law_turning [.cl (scr ns), .cl (.int k), .cl (.int far)] = .ok (.cl (beatD f e l)) := by
  have b0 := d.by_ ns k 12 hl (by omega) (by omega) (by omega)
  have b1 := d.by_ ns (k + 1) 4 hl (by omega) (by omega) (by omega)
  have b2 := d.by_ ns (k + 2) 1000 hl (by omega) (by omega) (by omega)
  have b3 := d.by_ ns (k + 3) 5 hl (by omega) (by omega) (by omega)
  have b4 := d.by_ ns (k + 4) 30 hl (by omega) (by omega) (by omega)
  have x0 := lawBy_nn (ns := ns) (k := k) (many := 12) (by omega)
  have x1 := lawBy_lt (ns := ns) (k := k) (many := 12) (by omega)
  have y0 := lawBy_nn (ns := ns) (k := k + 4) (many := 30) (by omega)
  have y1 := lawBy_lt (ns := ns) (k := k + 4) (many := 30) (by omega)
  have mm := bopI_mod (i := cellAt ns (k + 1)) (j := 1000000000000000000000000000000) (by decide)
  generalize lawBy ns (k + 4) 30 = F at *
  generalize lawBy ns k 12 = E0 at *
  generalize lawBy ns (k + 2) 1000 = L0 at *
  have fin : ∀ E : Int, 1 ≤ E → E ≤ 1000000000000000000000000000000 → ∃ f e l, TuIn far f e l ∧ ∀ a : SV, retR [] (evSs c (.cons (.asg 4 (.bin .add (.int 1) (.bin .mod (.call "_law_by" (.cons (.var 0) (.cons (.bin .add (.var 1) (.int 2)) (.cons (.int 1000) .nil)))) (.var 3)))) (.cons (.ifs (.cmp .eq (.call "_law_by" (.cons (.var 0) (.cons (.bin .add (.var 1) (.int 3)) (.cons (.int 5) .nil)))) (.int 0)) (.cons (.asg 4 (.var 3)) .nil) .nil) (.cons (.ret (.tup (.cons (.bin .add (.var 2) (.call "_law_by" (.cons (.var 0) (.cons (.bin .add (.var 1) (.int 4)) (.cons (.int 30) .nil))))) (.cons (.var 3) (.cons (.var 4) .nil))))) .nil))) [.cl (scr ns), .cl (.int k), .cl (.int far), .cl (.int E), a]) = .ok (.cl (beatD f e l)) := fun E h1 h2 => by
    have m2 := bopI_mod (i := L0) (j := E) (by omega)
    have z0 := Int.emod_nonneg L0 (show E ≠ 0 by omega)
    have z1 := Int.emod_lt_of_pos L0 (show 0 < E by omega)
    by_cases h : lawBy ns (k + 3) 5 = 0
    · exact ⟨far + F, E, E, ⟨by omega, ⟨h1, h2⟩, by omega⟩, fun a => by simp [b2, b3, b4, m2, h]⟩
    · exact ⟨far + F, E, 1 + L0 % E, ⟨by omega, ⟨h1, h2⟩, by omega⟩, fun a => by simp [b2, b3, b4, m2, h]⟩
  unfold evF
  rw [if_pos ⟨rfl, rfl⟩, retR_pure rfl]
  unfold B_law_turning
  by_cases h : lawBy ns (k + 1) 4 = 0
  · obtain ⟨f, e, l, h1, h2⟩ := fin (1 + cellAt ns (k + 1) % 1000000000000000000000000000000) (by omega) (by omega)
    refine ⟨f, e, l, h1, ?_⟩
    rw [← h2 .no, evSs_cons, show evS c (.asg 3 _) ([SV.cl (scr ns), .cl (.int k), .cl (.int far)] ++ List.replicate (5 - 3) .no) = some (.nx [.cl (scr ns), .cl (.int k), .cl (.int far), .cl (.int (1 + E0)), .no]) from by simp [b0], seqO_nx]
    rw [evSs_cons, show evS c (.ifs _ _ _) [SV.cl (scr ns), .cl (.int k), .cl (.int far), .cl (.int (1 + E0)), .no] = some (.nx [.cl (scr ns), .cl (.int k), .cl (.int far), .cl (.int (1 + cellAt ns (k + 1) % 1000000000000000000000000000000)), .no]) from by simp [b1, h, d.cell, mm], seqO_nx]
  · obtain ⟨f, e, l, h1, h2⟩ := fin (1 + E0) (by omega) (by omega)
    refine ⟨f, e, l, h1, ?_⟩
    rw [← h2 .no, evSs_cons, show evS c (.asg 3 _) ([SV.cl (scr ns), .cl (.int k), .cl (.int far)] ++ List.replicate (5 - 3) .no) = some (.nx [.cl (scr ns), .cl (.int k), .cl (.int far), .cl (.int (1 + E0)), .no]) from by simp [b0], seqO_nx]
    rw [evSs_cons, show evS c (.ifs _ _ _) [SV.cl (scr ns), .cl (.int k), .cl (.int far), .cl (.int (1 + E0)), .no] = some (.nx [.cl (scr ns), .cl (.int k), .cl (.int far), .cl (.int (1 + E0)), .no]) from by simp [b1, h], seqO_nx]
/-- two unlike ones of some words, drawn -/
theorem pairW {W : List Wo} (nd : W.Nodup) {o p : Int} (o0 : 0 ≤ o) (o1 : o < (W.length : Int)) (p0 : 0 ≤ p) (p1 : p < (W.length : Int) - 1) : ∃ a b, a ∈ W ∧ b ∈ W ∧ a ≠ b ∧ idx (.cl (.lst (W.map kD))) (.cl (.int o)) = some (.cl (kD a)) ∧ idx (.cl (.lst (W.map kD))) (.cl (.int ((o + 1 + p) % (W.length : Int)))) = some (.cl (kD b)) := by
  have q0 := Int.emod_nonneg (o + 1 + p) (show (W.length : Int) ≠ 0 by omega)
  have q1 := Int.emod_lt_of_pos (o + 1 + p) (show 0 < (W.length : Int) by omega)
  have oq : o ≠ (o + 1 + p) % (W.length : Int) := fun e => by
    by_cases lt : o + 1 + p < (W.length : Int)
    · rw [Int.emod_eq_of_lt (by omega) lt] at e; omega
    · have e2 : (o + 1 + p) % (W.length : Int) = o + 1 + p - W.length := by
        rw [← Int.sub_emod_right, Int.emod_eq_of_lt (by omega) (by omega)]
      omega
  generalize (o + 1 + p) % (W.length : Int) = q at *
  have lo : o.toNat < W.length := by omega
  have lq : q.toNat < W.length := by omega
  refine ⟨W[o.toNat], W[q.toNat], List.getElem_mem lo, List.getElem_mem lq, fun e => ?_, idx_lst (atI_nn o0 (by rw [List.getElem?_map, List.getElem?_eq_getElem lo]; rfl)), idx_lst (atI_nn q0 (by rw [List.getElem?_map, List.getElem?_eq_getElem lq]; rfl))⟩
  have := (List.pairwise_iff_getElem.mp (List.nodup_iff_pairwise_ne.mp nd))
  rcases Nat.lt_trichotomy o.toNat q.toNat with z | z | z
  · exact this _ _ lo lq z e
  · omega
  · exact this _ _ lq lo z e.symm
/-- one of some words, drawn -/
theorem idxW {W : List Wo} {o : Int} (o0 : 0 ≤ o) (o1 : o < (W.length : Int)) : ∃ a, a ∈ W ∧ idx (.cl (.lst (W.map kD))) (.cl (.int o)) = some (.cl (kD a)) := by
  have lo : o.toNat < W.length := by omega
  exact ⟨W[o.toNat], List.getElem_mem lo, idx_lst (atI_nn o0 (by rw [List.getElem?_map, List.getElem?_eq_getElem lo]; rfl))⟩
/-! ### which houses are come to -/
def Us (z : Int) (s : Sg) : Prop := s.l = s.e ∨ z ≤ s.l
inductive Lk (ss : List Sg) (z : Int) (w : Wo) : Wo → Prop
  | refl : Lk ss z w w
  | step {b : Wo} {s : Sg} : Lk ss z w b → s ∈ ss → Us z s → (b = s.a ∨ b = s.b) → Lk ss z w (oth s b)
theorem oth_oth {s : Sg} (h : SgOk s) {b : Wo} (hb : b = s.a ∨ b = s.b) : oth s (oth s b) = b ∧ (oth s b = s.a ∨ oth s b = s.b) := by
  rcases hb with rfl | rfl
  · have e2 : oth s s.b = s.a := by unfold oth; rw [if_neg (fun e => h.ne e.symm)]
    have e : oth s s.a = s.b := by unfold oth; rw [if_pos rfl]
    rw [e, e2]; exact ⟨rfl, .inr rfl⟩
  · have e : oth s s.b = s.a := by unfold oth; rw [if_neg (fun e => h.ne e.symm)]
    have e2 : oth s s.a = s.b := by unfold oth; rw [if_pos rfl]
    show oth s (oth s s.b) = s.b ∧ (oth s s.b = s.a ∨ oth s s.b = s.b)
    rw [e, e2]; exact ⟨rfl, .inl rfl⟩
theorem Lk.trans {ss : List Sg} {z : Int} {a b c : Wo} (h : Lk ss z a b) (h' : Lk ss z b c) : Lk ss z a c := by
  induction h' with
  | refl => exact h
  | step _ h1 h2 h3 ih => exact .step ih h1 h2 h3
theorem Lk.symm {ss : List Sg} {z : Int} (SO : ∀ s ∈ ss, SgOk s) {a b : Wo} (h : Lk ss z a b) : Lk ss z b a := by
  induction h with
  | refl => exact .refl
  | step _ h1 h2 h3 ih =>
    rename_i d s _
    obtain ⟨e1, e2⟩ := oth_oth (SO s h1) h3
    have := Lk.step (w := oth s d) .refl h1 h2 e2
    rw [e1] at this
    exact this.trans ih
theorem Lk.mem {hs : Hs} {ss : List Sg} (N : NetOk hs ss) {z : Int} {a b : Wo} (h : Lk ss z a b) (ha : a ∈ hs.map (·.1)) : b ∈ hs.map (·.1) := by
  cases h with
  | refl => exact ha
  | step _ h1 _ _ =>
    unfold oth; split
    · exact N.b _ h1
    · exact N.a _ h1
theorem Lt_.link {hs : Hs} {ss : List Sg} (SO : ∀ s ∈ ss, SgOk s) {house : Wo} {turn z : Int} (hz : 1 ≤ z) {T : List (Wo × Int)} {B : Bk} (h : Lt_ hs ss house turn z T B) (k : Wo) : (∃ v, aget T k = some v) ↔ Lk ss z house k := by
  constructor
  · rintro ⟨v, hv⟩
    have key : ∀ (m : Nat) k v, v - turn < (m : Int) → aget T k = some v → Lk ss z house k := fun m => by
      induction m with
      | zero => intro k v hm hk; have := h.lo k v hk; omega
      | succ m ih =>
        intro k v hm hk
        by_cases e : k = house
        · subst e; exact .refl
        · obtain ⟨n, q, p, s, u, b1, b3, b4, b5, b6, b7, b8, b9⟩ := h.bk k v hk e
          rw [← b5]
          refine .step (ih p u (by omega) b6) (List.mem_of_getElem? b3) ?_ b4
          have sm := nxO_some (f := s.f) (e := s.e) (l := s.l) (t := u) (z := z)
          rw [b7] at sm
          have e2 : decide (s.l = s.e ∨ z ≤ s.l) = true := sm.symm
          have e3 : s.l = s.e ∨ z ≤ s.l := by simpa using e2
          exact e3
    exact key (v - turn).toNat.succ k v (by omega) hv
  · intro hk
    induction hk with
    | refl => exact ⟨turn, h.ho⟩
    | step _ h1 h2 h3 ih =>
      rename_i b s _
      obtain ⟨v, hv⟩ := ih
      obtain ⟨n, hn⟩ := List.getElem?_of_mem h1
      have sm := nxO_some (f := s.f) (e := s.e) (l := s.l) (t := v) (z := z)
      have : (nxO s.f s.e s.l v z).isSome = true := by
        have h2' : s.l = s.e ∨ z ≤ s.l := h2
        rw [sm]; exact decide_eq_true h2'
      obtain ⟨q, hq⟩ := Option.isSome_iff_exists.mp this
      obtain ⟨w, hw, _⟩ := h.clo b n v s q hv hn h3 hq
      exact ⟨w, hw⟩
open Classical in
noncomputable def lkB (ss : List Sg) (z : Int) (w k : Wo) : Bool := decide (Lk ss z w k)
theorem lkB_iff {ss : List Sg} {z : Int} {w k : Wo} : lkB ss z w k = true ↔ Lk ss z w k := by unfold lkB; simp
/-- the island of a house -/
noncomputable def islF (hs : Hs) (ss : List Sg) (z : Int) (w : Wo) : List Wo := (hs.map (·.1)).filter (lkB ss z w)
theorem cm_isl {hs : Hs} {ss : List Sg} (N : NetOk hs ss) {w : Wo} (hw : w ∈ hs.map (·.1)) {t z : Int} (hz : 1 ≤ z) : (cmF hs (spF hs ss w t z).T).map (·.1) = islF hs ss z w := by
  rw [cm_keys]
  unfold islF
  congr 1
  funext k
  have F := fin_ok N hw (turn := t) hz
  have := F.link N.sg hz k
  by_cases h : Lk ss z w k
  · obtain ⟨v, hv⟩ := this.mpr h
    rw [hv, lkB_iff.mpr h]; rfl
  · cases e : aget (spF hs ss w t z).T k with
    | none =>
      have : lkB ss z w k = false := by
        cases q : lkB ss z w k with
        | false => rfl
        | true => exact absurd (lkB_iff.mp q) h
      rw [this]; rfl
    | some v => exact absurd (this.mp ⟨v, e⟩) h
theorem isl_same {hs : Hs} {ss : List Sg} (SO : ∀ s ∈ ss, SgOk s) {z : Int} {w w' : Wo} (h : Lk ss z w w') : islF hs ss z w = islF hs ss z w' := by
  unfold islF
  congr 1
  funext k
  rw [Bool.eq_iff_iff, lkB_iff, lkB_iff]
  exact ⟨fun x => (h.symm SO).trans x, fun x => h.trans x⟩
theorem isl_mem {hs : Hs} {ss : List Sg} {z : Int} {w k : Wo} : k ∈ islF hs ss z w ↔ k ∈ hs.map (·.1) ∧ Lk ss z w k := by
  unfold islF
  rw [List.mem_filter, lkB_iff]
/-- turns rise with the turn one begins at -/
theorem cm_mono {hs : Hs} {ss : List Sg} (N : NetOk hs ss) {w : Wo} (hw : w ∈ hs.map (·.1)) {t t' z : Int} (hz : 1 ≤ z) (ht : t ≤ t') {k : Wo} {v : Int} (hv : aget (spF hs ss w t' z).T k = some v) : ∃ u, aget (spF hs ss w t z).T k = some u ∧ u ≤ v := by
  have A := fin_ok N hw (turn := t) hz
  have B := fin_ok N hw (turn := t') hz
  exact B.least N.sg hz (fun k => aget (spF hs ss w t z).T k) (t0 := 0) ⟨t, A.ho, ht⟩ (fun d n v s q h1 h2 h3 h4 => A.clo d n v s q h1 h2 h3 h4) (v - t').toNat.succ k v (by omega) hv
end Mo
namespace Mo
open PySem PySem.Spec PyProof.Rows L2
/-! ### sorted words -/
theorem sortS_pw (K : List Str) : (sortS K).Pairwise (fun a b => leS a b = true) := List.pairwise_mergeSort (le := leS) (fun _ _ _ h1 h2 => leS_trans h1 h2) (fun a b => by simpa using leS_total a b) K
theorem sortS_perm {K L : List Str} (h : K.Perm L) : sortS K = sortS L :=
  List.Perm.eq_of_pairwise (le := fun a b => leS a b = true) (fun a b _ _ h1 h2 => leS_anti h1 h2) (sortS_pw K) (sortS_pw L) (((List.mergeSort_perm K leS).trans h).trans (List.mergeSort_perm L leS).symm)
theorem pl_sorted {K : List Wo} (hK : ∀ w ∈ K, OkS_ w) : plD 60 (.lst ((sortS (K.map SX.S)).map D.str)) = true := plD_lst D.str _ fun s hs => by
  unfold sortS at hs
  rw [List.mem_mergeSort] at hs
  obtain ⟨w, hw, rfl⟩ := List.mem_map.mp hs
  exact pl_S (hK w hw) 59
theorem blt_sortSl {K : List Wo} (h : K.length < 64) : blt .sortS [.cl (.lst (K.map kD))] = some (.nw (.lst (((sortS (K.map SX.S)).map D.str).map .cl))) := by
  show ((XV.its (.cl (.lst (K.map kD)))).bind strsD).bind _ = _
  have : XV.its (.cl (.lst (K.map kD))) = some (K.map fun a => .str (SX.S a)) := by
    have : XV.lds (XV.rd (.cl (.lst (K.map kD)))) = some (K.map kD) := by
      show clM ((K.map kD).map MO.cl) = _
      exact clM_cl _
    unfold XV.its
    rw [this]
  rw [this, Option.bind_some, intsD_str, Option.bind_some, if_pos (by simpa using h)]
theorem blt_sortSw {β : Type} (f : β → D) {T : List (Wo × β)} (h : T.length < 64) : blt .sortS [.cl (wD f T)] = some (.nw (.lst (((sortS (T.map fun p => SX.S p.1)).map D.str).map .cl))) := by
  show ((XV.its (.cl (wD f T))).bind strsD).bind _ = _
  have : XV.its (.cl (wD f T)) = some ((T.map (·.1)).map fun a => .str (SX.S a)) := by
    simp [XV.its, XV.rd, XV.lds, MO.islst, wD, h]
  rw [this, Option.bind_some, intsD_str, Option.bind_some, if_pos (by simpa using h)]
  rw [show (T.map fun p => SX.S p.1) = (T.map (·.1)).map SX.S by rw [List.map_map]; rfl]
/-! ### islands -/
/-- the islands of some houses -/
noncomputable def ilF (hs : Hs) (ss : List Sg) (z : Int) : List (List Wo) := ((hs.map (·.1)).filter fun w => decide ((islF hs ss z w).head? = some w)).map (islF hs ss z)
section
variable {hs : Hs} {ss : List Sg} (N : NetOk hs ss) {z : Int} (hz : 1 ≤ z)
include N
/-- the first of its island: none of those ahead is there -/
theorem isl_first {pre post : List Wo} {w : Wo} (e : hs.map (·.1) = pre ++ w :: post) : (islF hs ss z w).head? = some w ↔ ∀ x ∈ pre, ¬ Lk ss z x w := by
  have nd := N.nd
  rw [e] at nd
  have wp : w ∉ pre := fun h => (List.nodup_append.mp nd).2.2 w h w (by simp) rfl
  unfold islF
  rw [e, List.filter_append, List.filter_cons, if_pos (lkB_iff.mpr .refl)]
  cases h : pre.filter (lkB ss z w) with
  | nil =>
    simp only [List.nil_append, List.head?_cons, true_iff]
    intro x hx hl
    have : x ∈ pre.filter (lkB ss z w) := List.mem_filter.mpr ⟨hx, lkB_iff.mpr (hl.symm N.sg)⟩
    rw [h] at this; cases this
  | cons y r =>
    have hy : y ∈ pre.filter (lkB ss z w) := by rw [h]; simp
    obtain ⟨y1, y2⟩ := List.mem_filter.mp hy
    simp only [List.cons_append, List.head?_cons, Option.some.injEq]
    constructor
    · intro e2; exact absurd (e2 ▸ y1) wp
    · intro a; exact absurd ((lkB_iff.mp y2).symm N.sg) (a y y1)
/-- each house stands in just one island -/
theorem il_flat : (ilF hs ss z).flatten.Perm (hs.map (·.1)) := by
  have mem : ∀ k, k ∈ (ilF hs ss z).flatten ↔ k ∈ hs.map (·.1) := fun k => by
    rw [List.mem_flatten]
    constructor
    · rintro ⟨l, h1, h2⟩
      obtain ⟨w, _, rfl⟩ := List.mem_map.mp h1
      exact (isl_mem.mp h2).1
    · intro hk
      have hki : k ∈ islF hs ss z k := isl_mem.mpr ⟨hk, .refl⟩
      cases h : islF hs ss z k with
      | nil => rw [h] at hki; cases hki
      | cons w r =>
        have hw : w ∈ islF hs ss z k := by rw [h]; simp
        obtain ⟨w1, w2⟩ := isl_mem.mp hw
        have es := isl_same (hs := hs) N.sg w2
        refine ⟨islF hs ss z w, List.mem_map.mpr ⟨w, List.mem_filter.mpr ⟨w1, ?_⟩, rfl⟩, by rw [← es]; exact hki⟩
        rw [← es, h]; simp
  refine (List.perm_ext_iff_of_nodup ?_ N.nd).mpr mem
  rw [List.nodup_iff_pairwise_ne, List.pairwise_flatten]
  constructor
  · intro l hl
    obtain ⟨w, _, rfl⟩ := List.mem_map.mp hl
    exact List.nodup_iff_pairwise_ne.mp (N.nd.filter _)
  · unfold ilF
    rw [List.pairwise_map]
    have nd2 : ((hs.map (·.1)).filter fun w => decide ((islF hs ss z w).head? = some w)).Nodup := N.nd.filter _
    refine (List.nodup_iff_pairwise_ne.mp nd2).imp_of_mem fun {a b} ha hb hne x hx y hy e => hne ?_
    subst e
    have a1 := of_decide_eq_true (List.mem_filter.mp ha).2
    have b1 := of_decide_eq_true (List.mem_filter.mp hb).2
    have la := (isl_mem.mp hx).2
    have lb := (isl_mem.mp hy).2
    rw [isl_same N.sg (la.trans (lb.symm N.sg)), b1] at a1
    exact (Option.some.inj a1).symm
end
def B_ilBody : Ss := (.cons (.ifs (.cmp .notIn (.var 4) (.var 3)) (.cons (.asg 5 (.fz (.blt .list1 (.cons (.call "comings" (.cons (.var 0) (.cons (.var 4) (.cons (.int 0) (.cons (.var 1) .nil))))) .nil)))) (.cons (.for_ (.n 6) (.exp (.var 5)) (.cons (.pst (.v 3) (.var 6) (.bl true)) .nil)) (.cons (.papp (.v 2) (.var 5)) .nil))) .nil) .nil)
def B_ilPre (tail : Ss) : Ss := (.cons (.asg 2 (.lst .nil)) (.cons (.asg 3 .dnew) (.cons (.for_ (.n 4) (.exp (.mth "Net" "houses" (.var 0) .nil)) B_ilBody) tail)))
def wsD (l : List Wo) : D := .lst (l.map kD)
theorem list_wD {T : List (Wo × Int)} : blt .list1 [.cl (wD D.int T)] = some (.nw (.lst (((T.map (·.1)).map kD).map .cl))) := by
  rw [list_w (.cl rfl)]
  rw [show (T.map fun p => kD p.1) = (T.map (·.1)).map kD by rw [List.map_map]; rfl]
theorem ilPre_ok {c : Calls} {hs : Hs} {ss : List Sg} (N : NetOk hs ss) (C : NetC c hs ss) {z : Int} (hz : 1 ≤ z) (hc : ∀ w ∈ hs.map (·.1), c "comings" [.lk (netM hs ss), .cl (kD w), .cl (.int 0), .cl (.int z)] = .ok (.cl (wD D.int (cmF hs (spF hs ss w 0 z).T)))) (tail : Ss) :
    ∃ a b d e, evSs c (B_ilPre tail) [.lk (netM hs ss), .cl (.int z), .no, .no, .no, .no, .no] = evSs c tail [.lk (netM hs ss), .cl (.int z), .ow (.lst ((ilF hs ss z).map fun l => .cl (wsD l))), a, b, d, e] := by
  have ch := C.houses
  unfold B_ilPre
  rw [evSs_cons, show evS c (.asg 2 (.lst .nil)) [SV.lk (netM hs ss), .cl (.int z), .no, .no, .no, .no, .no] = some (.nx [.lk (netM hs ss), .cl (.int z), .ow (.lst []), .no, .no, .no, .no]) from by simp, seqO_nx]
  rw [evSs_cons, show evS c (.asg 3 .dnew) [SV.lk (netM hs ss), .cl (.int z), .ow (.lst []), .no, .no, .no, .no] = some (.nx [.lk (netM hs ss), .cl (.int z), .ow (.lst []), .ow (wM D.bl []), .no, .no, .no]) from by simp; rfl, seqO_nx]
  rw [evSs_cons, evS_for, show evIt c (.exp (.mth "Net" "houses" (.var 0) .nil)) [SV.lk (netM hs ss), .cl (.int z), .ow (.lst []), .ow (wM D.bl []), .no, .no, .no] = .ok (.ds ((hs.map (·.1)).map kD)) from by simp [isD1, ch]]
  simp only [out_ok, forI_ds]
  let first : Wo → Bool := fun w => decide ((islF hs ss z w).head? = some w)
  have step : ∀ (l pre : List Wo), pre.foldl (fun (a : List Wo) w => if first w then a ++ [w] else a) l = l ++ pre.filter first := fun l pre => by
    induction pre generalizing l with
    | nil => simp
    | cons x r ih =>
      rw [List.foldl_cons, ih, List.filter_cons]
      split <;> simp
  obtain ⟨s', f1, ⟨S, a, b, d, f2⟩, _⟩ := forL_foldP (g := tgo (.n 4)) (b := evSs c B_ilBody) (fun (l : List Wo) sl => (∃ (S : List (Wo × Bool)) (a b d : SV), sl = [.lk (netM hs ss), .cl (.int z), .ow (.lst (l.map fun w => .cl (wsD (islF hs ss z w)))), .ow (wM D.bl S), a, b, d] ∧ WK hs (S.map (·.1)) ∧ ∀ k, k ∈ S.map (·.1) ↔ (k ∈ hs.map (·.1) ∧ ∃ w ∈ l, Lk ss z w k)) ∧ True) (fun (a : List Wo) w => if first w then a ++ [w] else a) kD [] (hs.map (·.1)) (post := hs.map (·.1)) (pre := []) (sl := [.lk (netM hs ss), .cl (.int z), .ow (.lst []), .ow (wM D.bl []), .no, .no, .no]) rfl (by
    rintro pre w post sl e ⟨⟨S, a, b, d, rfl, wk, hS⟩, _⟩
    rw [step, List.nil_append] at *
    refine ⟨_, tgo_n _ _ _, ?_⟩
    have hw : w ∈ hs.map (·.1) := by rw [e]; simp
    have n := notIn_w (f := D.bl) (T := S) (x := .tm (wM D.bl S)) (.tm rfl) w
    have fi : first w = true ↔ ∀ x ∈ pre, ¬ Lk ss z x w := by
      show decide _ = true ↔ _
      rw [decide_eq_true_eq]; exact isl_first N e
    have sw : w ∈ S.map (·.1) ↔ ¬ first w = true := by
      rw [hS w, fi]
      constructor
      · rintro ⟨_, x, hx, lx⟩ h
        exact h x (List.mem_filter.mp hx).1 lx
      · intro h
        refine ⟨hw, ?_⟩
        have ⟨x, hx⟩ := Classical.not_forall.mp h
        have ⟨hx1, hx2⟩ := Classical.not_imp.mp hx
        have hl : Lk ss z x w := Classical.not_not.mp hx2
        -- the first of x's island
        have hxm : x ∈ hs.map (·.1) := by rw [e]; exact List.mem_append_left _ hx1
        have xi : x ∈ islF hs ss z x := isl_mem.mpr ⟨hxm, .refl⟩
        cases hq : islF hs ss z x with
        | nil => rw [hq] at xi; cases xi
        | cons y r =>
          have hy : y ∈ islF hs ss z x := by rw [hq]; simp
          obtain ⟨y1, y2⟩ := isl_mem.mp hy
          have es := isl_same (hs := hs) N.sg y2
          have fy : first y = true := by show decide _ = true; rw [← es, hq]; simp
          have yp : y ∈ pre := by
            have := y1
            rw [e] at this
            rcases List.mem_append.mp this with q | q
            · exact q
            · -- y comes no later than x
              exfalso
              obtain ⟨p1, p2, ep⟩ := List.append_of_mem hx1
              have e' : hs.map (·.1) = p1 ++ x :: (p2 ++ w :: post) := by rw [e, ep]; simp
              have : islF hs ss z x = (p1.filter (lkB ss z x)) ++ x :: ((p2 ++ w :: post).filter (lkB ss z x)) := by
                unfold islF
                rw [e', List.filter_append, List.filter_cons, if_pos (lkB_iff.mpr .refl)]
              have nd := N.nd
              rw [e] at nd
              cases hp : p1.filter (lkB ss z x) with
              | nil =>
                rw [hp, hq] at this
                have exy : y = x := (List.cons.inj this).1
                subst exy
                exact (List.nodup_append.mp nd).2.2 y hx1 y q rfl
              | cons y' r' =>
                rw [hp, hq] at this
                have exy : y = y' := (List.cons.inj this).1
                have : y ∈ p1.filter (lkB ss z x) := by rw [hp, exy]; simp
                have yp1 := (List.mem_filter.mp this).1
                exact (List.nodup_append.mp nd).2.2 y (by rw [ep]; exact List.mem_append_left _ yp1) y q rfl
          exact ⟨y, List.mem_filter.mpr ⟨yp, fy⟩, (y2.symm N.sg).trans hl⟩
    have lp : (pre.filter first).length ≤ 1000 := by
      have h1 := List.length_filter_le first pre
      have h2 := congrArg List.length e
      have h3 := N.hl
      simp only [List.length_map, List.length_append, List.length_cons] at h2
      omega
    cases hf : first w with
    | false =>
      have : (aget S w).isNone = false := by
        obtain ⟨v, hv⟩ := aget_some.mpr (sw.mpr (by simp [hf]))
        rw [hv]; rfl
      rw [this] at n
      simp only [Bool.false_eq_true, if_false]
      refine ⟨[.lk (netM hs ss), .cl (.int z), .ow (.lst ((pre.filter first).map fun w => .cl (wsD (islF hs ss z w)))), .ow (wM D.bl S), .cl (kD w), b, d], ?_, ⟨S, _, _, _, rfl, wk, hS⟩, trivial⟩
      unfold B_ilBody
      simp [n]
    | true =>
      have : (aget S w).isNone = true := by
        rw [aget_none.mpr fun z => (sw.mp z) hf]; rfl
      rw [this] at n
      simp only [if_true]
      have cc := hc w hw
      have lw := list_wD (T := cmF hs (spF hs ss w 0 z).T)
      rw [cm_isl N hw hz] at lw
      obtain ⟨s2, g1, ⟨x, g2⟩, g3⟩ := forL_fold (g := tgo (.n 6)) (b := evSs c (.cons (.pst (.v 3) (.var 6) (.bl true)) .nil)) (fun (S : List (Wo × Bool)) sl => (∃ x : SV, sl = [.lk (netM hs ss), .cl (.int z), .ow (.lst ((pre.filter first).map fun w => .cl (wsD (islF hs ss z w)))), .ow (wM D.bl S), .cl (kD w), .cl (wsD (islF hs ss z w)), x]) ∧ WK hs (S.map (·.1))) (fun S k => aput S k true) kD (xs := islF hs ss z w) (a := S) (sl := [.lk (netM hs ss), .cl (.int z), .ow (.lst ((pre.filter first).map fun w => .cl (wsD (islF hs ss z w)))), .ow (wM D.bl S), .cl (kD w), .cl (wsD (islF hs ss z w)), d]) (by
        rintro k hk S' sl ⟨⟨x, rfl⟩, wk'⟩
        refine ⟨_, tgo_n _ _ _, ?_⟩
        have p1 := evS_stw (f := D.bl) (T := S') c (sl := [.lk (netM hs ss), .cl (.int z), .ow (.lst ((pre.filter first).map fun w => .cl (wsD (islF hs ss z w)))), .ow (wM D.bl S'), .cl (kD w), .cl (wsD (islF hs ss z w)), .cl (kD k)]) (i := 3) (ke := .var 6) (e := .bl true) (k := k) (v := true) rfl (by simp) (by simp) (wk'.len N.hl)
        refine ⟨[.lk (netM hs ss), .cl (.int z), .ow (.lst ((pre.filter first).map fun w => .cl (wsD (islF hs ss z w)))), .ow (wM D.bl (aput S' k true)), .cl (kD w), .cl (wsD (islF hs ss z w)), .cl (kD k)], ?_, ⟨_, rfl⟩, wk'.put (isl_mem.mp hk).1 true⟩
        rw [evSs_cons]
        show seqO (evS c _ [.lk (netM hs ss), .cl (.int z), .ow (.lst ((pre.filter first).map fun w => .cl (wsD (islF hs ss z w)))), .ow (wM D.bl S'), .cl (kD w), .cl (wsD (islF hs ss z w)), .cl (kD k)]) _ = _
        rw [p1]; rfl) ⟨⟨_, rfl⟩, wk⟩
      have ap := evS_app c (sl := [.lk (netM hs ss), .cl (.int z), .ow (.lst ((pre.filter first).map fun w => .cl (wsD (islF hs ss z w)))), .ow (wM D.bl ((islF hs ss z w).foldl (fun S k => aput S k true) S)), .cl (kD w), .cl (wsD (islF hs ss z w)), x]) (i := 2) (e := .var 5) (ms := (pre.filter first).map fun w => .cl (wsD (islF hs ss z w))) (x := .cl (wsD (islF hs ss z w))) (m := .cl (wsD (islF hs ss z w))) rfl (by simp) rfl (by simp; omega)
      refine ⟨[.lk (netM hs ss), .cl (.int z), .ow (.lst ((pre.filter first ++ [w]).map fun w => .cl (wsD (islF hs ss z w)))), .ow (wM D.bl ((islF hs ss z w).foldl (fun S k => aput S k true) S)), .cl (kD w), .cl (wsD (islF hs ss z w)), x], ?_, ⟨(islF hs ss z w).foldl (fun S k => aput S k true) S, _, _, _, rfl, g3, fun k => ?_⟩, trivial⟩
      · unfold B_ilBody
        rw [evSs_cons, evS_ifs, show tst (evE c (.cmp .notIn (.var 4) (.var 3)) ([SV.lk (netM hs ss), .cl (.int z), .ow (.lst ((pre.filter first).map fun w => .cl (wsD (islF hs ss z w)))), .ow (wM D.bl S), a, b, d].set 4 (.cl (kD w)))) = .ok true from by simp [n]]
        simp only [out_ok, if_true]
        rw [evSs_cons, show evS c (.asg 5 _) ([SV.lk (netM hs ss), .cl (.int z), .ow (.lst ((pre.filter first).map fun w => .cl (wsD (islF hs ss z w)))), .ow (wM D.bl S), a, b, d].set 4 (.cl (kD w))) = some (.nx [.lk (netM hs ss), .cl (.int z), .ow (.lst ((pre.filter first).map fun w => .cl (wsD (islF hs ss z w)))), .ow (wM D.bl S), .cl (kD w), .cl (wsD (islF hs ss z w)), d]) from by
          simp only [List.set_cons_succ, List.set_cons_zero, evS_asg, evE_fz, evE_blt, evE_call, evEs_cons, evEs_nil, evE_var, evE_int, List.getElem?_cons_succ, List.getElem?_cons_zero, sv_lk, sv_cl, R.of_some, R.bind_ok, args_lk, args_cl, args_nil, Option.map_some, cc, noMu_cl, lw, fzF_nw, toD_lst, MO.toDL_cl, out_ok, keep_cl]
          rfl, seqO_nx]
        rw [evSs_cons, evS_for, show evIt c (.exp (.var 5)) [SV.lk (netM hs ss), .cl (.int z), .ow (.lst ((pre.filter first).map fun w => .cl (wsD (islF hs ss z w)))), .ow (wM D.bl S), .cl (kD w), .cl (wsD (islF hs ss z w)), d] = .ok (.ds ((islF hs ss z w).map kD)) from by simp [wsD]]
        simp only [out_ok, forI_ds]
        rw [g1, g2, seqO_nx, evSs_cons, ap, List.map_append]
        rfl
      · have fk : ∀ (l : List Wo) (S : List (Wo × Bool)), k ∈ (l.foldl (fun S k => aput S k true) S).map (·.1) ↔ k ∈ S.map (·.1) ∨ k ∈ l := fun l => by
          induction l with
          | nil => intro S; simp
          | cons y r ih =>
            intro S
            rw [List.foldl_cons, ih, aput_keys]
            split
            · rename_i hy
              constructor
              · rintro (q | q)
                · exact .inl q
                · exact .inr (List.mem_cons_of_mem _ q)
              · rintro (q | q)
                · exact .inl q
                · rcases List.mem_cons.mp q with q | q
                  · subst q; exact .inl hy
                  · exact .inr q
            · rw [List.mem_append, List.mem_singleton, List.mem_cons]
              constructor
              · rintro ((q | q) | q)
                · exact .inl q
                · exact .inr (.inl q)
                · exact .inr (.inr q)
              · rintro (q | q | q)
                · exact .inl (.inl q)
                · exact .inl (.inr q)
                · exact .inr q
        rw [fk, hS, isl_mem]
        constructor
        · rintro (⟨q1, x, q2, q3⟩ | ⟨q1, q2⟩)
          · exact ⟨q1, x, List.mem_append_left _ q2, q3⟩
          · exact ⟨q1, w, by simp, q2⟩
        · rintro ⟨q1, x, q2, q3⟩
          rcases List.mem_append.mp q2 with q2 | q2
          · exact .inl ⟨q1, x, q2, q3⟩
          · rw [List.mem_singleton] at q2
            subst q2
            exact .inr ⟨q1, q3⟩) ⟨⟨[], _, _, _, rfl, by simp [WK], fun k => by simp⟩, trivial⟩
  rw [step, List.nil_append] at f2
  obtain ⟨f2, _⟩ := f2
  refine ⟨.ow (wM D.bl S), a, b, d, ?_⟩
  rw [f1, f2, seqO_nx]
  unfold ilF
  rw [List.map_map]
  rfl
theorem islands_ok {c : Calls} {hs : Hs} {ss : List Sg} (N : NetOk hs ss) (C : NetC c hs ss) {z : Int} (hz : 1 ≤ z) (hc : ∀ w ∈ hs.map (·.1), c "comings" [.lk (netM hs ss), .cl (kD w), .cl (.int 0), .cl (.int z)] = .ok (.cl (wD D.int (cmF hs (spF hs ss w 0 z).T)))) : evF c 2 7 (B_ilPre (.cons (.frz 2) (.cons (.ret (.var 2)) .nil))) [.lk (netM hs ss), .cl (.int z)] = .ok (.cl (.lst ((ilF hs ss z).map wsD))) := by
  refine evF_rt rfl ?_
  obtain ⟨a, b, d, e, r⟩ := ilPre_ok N C hz hc (.cons (.frz 2) (.cons (.ret (.var 2)) .nil))
  rw [show [SV.lk (netM hs ss), .cl (.int z)] ++ List.replicate (7 - 2) .no = [SV.lk (netM hs ss), .cl (.int z), .no, .no, .no, .no, .no] from rfl, r]
  have fz : MO.toDL ((ilF hs ss z).map fun l => MO.cl (wsD l)) = (ilF hs ss z).map wsD := toDL_map wsD _
  simp [frzF, fz]
end Mo
namespace Mo
open PySem PySem.Spec PyProof.Rows L2
/-! ### more built-ins at rows and dicts -/
theorem intsD_mapI : ∀ K : List Int, intsD (K.map .int) = some K
  | [] => rfl
  | k :: K => by simp [intsD, intsD_mapI K]
theorem lds_ints (ns : List Int) : (XV.cl (.lst (ns.map .int))).rd.lds = some (ns.map .int) := by
  show clM ((ns.map D.int).map MO.cl) = _
  exact clM_cl _
theorem blt_maxL {ns : List Int} (h : ns ≠ []) : blt .maxL [.cl (.lst (ns.map .int))] = some (.cl (.int (maxL ns))) := by
  show (((XV.cl (.lst (ns.map .int))).rd.lds).bind intsD).bind _ = _
  rw [lds_ints, Option.bind_some, intsD_mapI]
  have ie : ns.isEmpty = false := by cases ns with
    | nil => exact absurd rfl h
    | cons _ _ => rfl
  simp [h]
theorem blt_sortIl (K : List Int) : blt .sortI [.cl (.lst (K.map .int))] = some (.nw (.lst (((sortI K).map D.int).map .cl))) := by
  show ((XV.its (.cl (.lst (K.map .int)))).bind intsD).map _ = _
  unfold XV.its
  rw [lds_ints]
  simp only [Option.bind_some, intsD_mapI, Option.map_some]
theorem sortI_pw (K : List Int) : (sortI K).Pairwise (· ≤ ·) := by
  have so : (sortI K).Pairwise (fun a b => decide (a ≤ b) = true) := List.pairwise_mergeSort (fun a b c h1 h2 => by simp only [decide_eq_true_eq] at *; omega) (fun a b => by simp only [Bool.or_eq_true, decide_eq_true_eq]; omega) _
  exact so.imp fun h => of_decide_eq_true h
theorem sortI_mem {K : List Int} {x : Int} : x ∈ sortI K ↔ x ∈ K := by unfold sortI; exact List.mem_mergeSort
theorem cmpF_inB (b : Bool) (bs : List Bool) : cmpF .in_ (.cl (.bl b)) (.cl (.lst (bs.map .bl))) = .ok (.cl (.bl (bs.contains b))) := by
  have e := inD_bl b bs
  simp [cmpF, cop, e]
theorem isD_w {β : Type} {f : β → D} {T : List (Wo × β)} {x : XV} (h : WX_ f T x) : x.isD = true := by
  rcases h with h | h | h <;> subst h <;> rfl
def oD {β : Type} (f : β → D) (o : Option β) (d : D) : D := match o with
  | some v => f v
  | none => d
theorem dgt_w {β : Type} {f : β → D} {T : List (Wo × β)} {x : XV} (h : WX_ f T x) (k : Wo) (d : D) : dgtF x (.cl (kD k)) (.cl d) = some (.cl (oD f (aget T k) d)) := by
  rcases h with h | h | h <;> subst h
  · simp only [dgtF, mo_lk, dic_wM, isK, if_true, dget_w]
    cases aget T k <;> simp [oD]
  · simp only [dgtF, mo_tm, dic_wM, isK, if_true, dget_w]
    cases aget T k <;> simp [oD]
  · simp only [dgtF, mo_cl, dic_wD, isK, if_true, dget_w]
    cases aget T k <;> simp [oD]
theorem pl_ws {l : List Wo} (h : ∀ w ∈ l, OkS_ w) : plD 60 (wsD l) = true := plD_lst kD l fun w hw => pl_S (h w hw) 59
theorem bopF_ws {l r : List Wo} (h : l.length + r.length ≤ 1000000) : bopF .add (.cl (wsD l)) (.cl (wsD r)) = .ok (.nw (.lst (((l ++ r).map kD).map .cl))) := by
  rw [show wsD l = .lst (l.map kD) from rfl, show wsD r = .lst (r.map kD) from rfl, bopF_lst (by simpa using h), List.map_append, List.map_append, List.map_append]
/-- a value that is told of a house that is come to -/
theorem cm_get2 {hs : Hs} {ss : List Sg} (N : NetOk hs ss) {w : Wo} (hw : w ∈ hs.map (·.1)) {t z : Int} (hz : 1 ≤ z) (k : Wo) : aget (cmF hs (spF hs ss w t z).T) k = aget (spF hs ss w t z).T k := cm_get (fin_ok N hw hz).sub N.nd k
theorem isl_head {hs : Hs} {ss : List Sg} {z : Int} {l : List Wo} (h : l ∈ ilF hs ss z) : ∃ w r, w ∈ hs.map (·.1) ∧ l = islF hs ss z w ∧ l = w :: r := by
  obtain ⟨w, hw, rfl⟩ := List.mem_map.mp h
  obtain ⟨h1, h2⟩ := List.mem_filter.mp hw
  have h3 := of_decide_eq_true h2
  cases e : islF hs ss z w with
  | nil => rw [e] at h3; cases h3
  | cons y r =>
    rw [e] at h3
    have h4 : y = w := Option.some.inj h3
    subst h4
    exact ⟨y, r, h1, e.symm, rfl⟩
end Mo
namespace Lw
open PySem Mo
def topS (i : Nat) : Stmt := PySem.Challenge.pw_moonrelay_k33_comings_walked.main.body.getD i (.Pass ⟨0, 0, 0, 0⟩)
def metS (i j : Nat) : Stmt := (C8.clsBody (topS i)).getD j (.Pass ⟨0, 0, 0, 0⟩)
def b_Net___init__ : Ss := (.cons (.pfs (.v 0) "Net" "my_houses" .dnew) (.cons (.pfs (.v 0) "Net" "my_sights" (.lst .nil)) .nil))
-- 0 self
def p_Net___init__ : PFn := { nm := "Net.__init__", ps := ["self"], N := ["self"], body := b_Net___init__, st := metS 15 0, at_ := ("Net", some "__init__") }
def b_law_cell_at : Ss := (.cons (.ifs (.cmp .gt (.blt .len (.cons (.var 0) .nil)) (.int 0)) (.cons (.ret (.sub (.var 0) (.bin .mod (.var 1) (.blt .len (.cons (.var 0) .nil))))) .nil) .nil) (.cons (.ret (.int 0)) .nil))
-- 0 _law_script, 1 _law_k
def p_law_cell_at : PFn := { nm := "_law_cell_at", ps := ["_law_script", "_law_k"], N := ["_law_script", "_law_k"], body := b_law_cell_at, st := topS 22 }
def b_law_by : Ss := (.cons (.asg 3 (.call "_law_cell_at" (.cons (.var 0) (.cons (.var 1) .nil)))) (.cons (.ifs (.cmp .eq (.bin .mod (.call "_law_cell_at" (.cons (.var 0) (.cons (.int 0) .nil))) (.int 2)) (.int 1)) (.cons (.ret (.bin .mod (.bin .shr (.var 3) (.bin .add (.int 1) (.bin .mul (.int 20) (.bin .fdiv (.var 1) (.blt .len (.cons (.var 0) .nil)))))) (.var 2))) .nil) .nil) (.cons (.asg 4 (.bin .add (.bin .add (.bin .mod (.var 3) (.int 1000003)) (.bin .mul (.bin .mul (.int 31) (.var 1)) (.var 1))) (.int 1))) (.cons (.ret (.bin .mod (.bin .mod (.bin .mul (.bin .mod (.bin .mul (.var 4) (.int 48271)) (.int 999983)) (.int 7919)) (.int 524287)) (.var 2))) .nil))))
-- 0 _law_script, 1 _law_k, 2 _law_many, 3 _law_cell, 4 _law_seed
def p_law_by : PFn := { nm := "_law_by", ps := ["_law_script", "_law_k", "_law_many"], N := ["_law_script", "_law_k", "_law_many", "_law_cell", "_law_seed"], body := b_law_by, st := topS 23 }
def b_law_names : Ss := (.cons (.asg 3 (.str (Str.ofString "abcdefghijklmnopqrstuvwxyz"))) (.cons (.asg 4 (.sm1 .join (.str (Str.ofString "")) (.fz (.comp (.sub (.var 3) (.call "_law_by" (.cons (.var 0) (.cons (.bin .add (.bin .add (.var 1) (.int 1)) (.var 9)) (.cons (.int 26) .nil))))) (.n 9) (.rng1 (.int 8)) .nil)))) (.cons (.asg 5 (.bin .add (.int 1) (.call "_law_by" (.cons (.var 0) (.cons (.bin .add (.var 1) (.int 9)) (.cons (.int 8) .nil)))))) (.cons (.asg 6 (.call "_law_by" (.cons (.var 0) (.cons (.bin .add (.var 1) (.int 10)) (.cons (.var 5) .nil))))) (.cons (.asg 7 (.comp (.fz (.bin .add (.fz (.bin .add (.fz (.sli (.var 4) .no (.so (.var 6)))) (.sub (.var 3) (.bin .mod (.bin .add (.call "_law_by" (.cons (.var 0) (.cons (.bin .add (.var 1) (.int 11)) (.cons (.int 26) .nil)))) (.bin .mul (.int 5) (.var 9))) (.int 26))))) (.fz (.sli (.var 4) (.so (.bin .add (.var 6) (.int 1))) (.so (.var 5)))))) (.n 9) (.rng1 (.var 2)) .nil)) (.cons (.ifs (.cmp .eq (.call "_law_by" (.cons (.var 0) (.cons (.var 1) (.cons (.int 3) .nil)))) (.int 0)) (.cons (.asg 7 (.comp (.fz (.sli (.var 4) .no (.so (.bin .add (.int 1) (.var 9))))) (.n 9) (.rng1 (.var 2)) .nil)) .nil) .nil) (.cons (.asg 8 (.lst .nil)) (.cons (.whl (.cmp .gt (.blt .len (.cons (.var 7) .nil)) (.int 0)) (.cons (.apop 8 7 (.call "_law_by" (.cons (.var 0) (.cons (.bin .add (.bin .add (.var 1) (.int 11)) (.blt .len (.cons (.var 7) .nil))) (.cons (.blt .len (.cons (.var 7) .nil)) .nil))))) .nil)) (.cons (.frz 8) (.cons (.ret (.var 8)) .nil))))))))))
-- 0 _law_script, 1 _law_k, 2 _law_many, 3 _law_letters, 4 _law_word, 5 _law_size, 6 _law_at, 7 _law_left, 8 _law_names_here, 9 _law_j
def p_law_names : PFn := { nm := "_law_names", ps := ["_law_script", "_law_k", "_law_many"], N := ["_law_script", "_law_k", "_law_many", "_law_letters", "_law_word", "_law_size", "_law_at", "_law_left", "_law_names_here", "_law_j"], body := b_law_names, st := topS 24 }
def b_law_sights : Ss := (.cons (.asg 3 (.lst .nil)) (.cons (.for_ (.n 4) (.rng1 (.bin .add (.int 1) (.call "_law_by" (.cons (.var 0) (.cons (.var 1) (.cons (.int 7) .nil)))))) (.cons (.asg 5 (.bin .add (.bin .add (.var 1) (.int 1)) (.bin .mul (.int 6) (.var 4)))) (.cons (.asg 6 (.call "_law_by" (.cons (.var 0) (.cons (.var 5) (.cons (.blt .len (.cons (.var 2) .nil)) .nil))))) (.cons (.asg 7 (.bin .mod (.bin .add (.bin .add (.var 6) (.int 1)) (.call "_law_by" (.cons (.var 0) (.cons (.bin .add (.var 5) (.int 1)) (.cons (.bin .sub (.blt .len (.cons (.var 2) .nil)) (.int 1)) .nil))))) (.blt .len (.cons (.var 2) .nil)))) (.cons (.asg 8 (.bin .add (.int 1) (.call "_law_by" (.cons (.var 0) (.cons (.bin .add (.var 5) (.int 2)) (.cons (.int 8) .nil)))))) (.cons (.asg 9 (.bin .add (.int 1) (.call "_law_by" (.cons (.var 0) (.cons (.bin .add (.var 5) (.int 3)) (.cons (.var 8) .nil)))))) (.cons (.ifs (.cmp .eq (.call "_law_by" (.cons (.var 0) (.cons (.bin .add (.var 5) (.int 4)) (.cons (.int 5) .nil)))) (.int 0)) (.cons (.asg 9 (.var 8)) .nil) .nil) (.cons (.papp (.v 3) (.tup (.cons (.sub (.var 2) (.var 6)) (.cons (.sub (.var 2) (.var 7)) (.cons (.tup (.cons (.call "_law_by" (.cons (.var 0) (.cons (.bin .add (.var 5) (.int 5)) (.cons (.int 12) .nil)))) (.cons (.var 8) (.cons (.var 9) .nil)))) .nil))))) .nil)))))))) (.cons (.frz 3) (.cons (.ret (.var 3)) .nil))))
-- 0 _law_script, 1 _law_k, 2 _law_names_here, 3 _law_told, 4 _law_s, 5 _law_at, 6 _law_one, 7 _law_other, 8 _law_every, 9 _law_long
def p_law_sights : PFn := { nm := "_law_sights", ps := ["_law_script", "_law_k", "_law_names_here"], N := ["_law_script", "_law_k", "_law_names_here", "_law_told", "_law_s", "_law_at", "_law_one", "_law_other", "_law_every", "_law_long"], body := b_law_sights, st := topS 25 }
def b_good_name : Ss := (.cons (.ifs (.or (.cmp .lt (.blt .len (.cons (.var 0) .nil)) (.int 1)) (.cmp .gt (.blt .len (.cons (.var 0) .nil)) (.int 8))) (.cons (.ret (.bl false)) .nil) .nil) (.cons (.for_ (.n 1) (.exp (.var 0)) (.cons (.ifs (.cmp .notIn (.var 1) (.gs "LETTERS" (Str.ofString "abcdefghijklmnopqrstuvwxyz"))) (.cons (.ret (.bl false)) .nil) .nil) .nil)) (.cons (.ret (.bl true)) .nil)))
-- 0 word, 1 sign
def p_good_name : PFn := { nm := "good_name", ps := ["word"], N := ["word", "sign"], body := b_good_name, st := topS 14 }
def b_Net_add_house : Ss := (.cons (.ifs (.not (.call "good_name" (.cons (.var 1) .nil))) (.cons (.rse "BadName") .nil) .nil) (.cons (.ifs (.cmp .in_ (.var 1) (.fld "Net" (.var 0) "my_houses")) (.cons (.rse "Twice") .nil) .nil) (.cons (.ifs (.cmp .lt (.var 3) (.int 0)) (.cons (.rse "BadRoom") .nil) .nil) (.cons (.pst (.f (.v 0) "Net" "my_houses") (.var 1) (.tup (.cons (.var 2) (.cons (.var 3) .nil)))) .nil))))
-- 0 self, 1 name, 2 mast, 3 room
def p_Net_add_house : PFn := { nm := "Net.add_house", ps := ["self", "name", "mast", "room"], N := ["self", "name", "mast", "room"], body := b_Net_add_house, st := metS 15 1, at_ := ("Net", some "add_house") }
def b_Net_known : Ss := (.cons (.ifs (.cmp .notIn (.var 1) (.fld "Net" (.var 0) "my_houses")) (.cons (.rse "NoHouse") .nil) .nil) (.cons (.ret (.sub (.fld "Net" (.var 0) "my_houses") (.var 1))) .nil))
-- 0 self, 1 name
def p_Net_known : PFn := { nm := "Net.known", ps := ["self", "name"], N := ["self", "name"], body := b_Net_known, st := metS 15 2, at_ := ("Net", some "known") }
def b_checked : Ss := (.cons (.unp (.t [(.n 1), (.n 2), (.n 3)]) (.var 0)) (.cons (.ifs (.or (.cmp .lt (.var 1) (.int 0)) (.or (.cmp .lt (.var 2) (.int 1)) (.or (.cmp .lt (.var 3) (.int 1)) (.cmp .gt (.var 3) (.var 2))))) (.cons (.rse "BadRound") .nil) .nil) (.cons (.ret (.tup (.cons (.var 1) (.cons (.var 2) (.cons (.var 3) .nil))))) .nil)))
-- 0 beat, 1 first, 2 every, 3 long
def p_checked : PFn := { nm := "checked", ps := ["beat"], N := ["beat", "first", "every", "long"], body := b_checked, st := topS 10 }
def b_Net_add_sight : Ss := (.cons (.ex (.mth "Net" "known" (.var 0) (.cons (.var 1) .nil))) (.cons (.ex (.mth "Net" "known" (.var 0) (.cons (.var 2) .nil))) (.cons (.ifs (.cmp .eq (.var 1) (.var 2)) (.cons (.rse "Twice") .nil) .nil) (.cons (.papp (.f (.v 0) "Net" "my_sights") (.tup (.cons (.var 1) (.cons (.var 2) (.cons (.call "checked" (.cons (.var 3) .nil)) .nil))))) (.cons (.ret (.bin .sub (.blt .len (.cons (.fld "Net" (.var 0) "my_sights") .nil)) (.int 1))) .nil)))))
-- 0 self, 1 one, 2 other, 3 turning
def p_Net_add_sight : PFn := { nm := "Net.add_sight", ps := ["self", "one", "other", "turning"], N := ["self", "one", "other", "turning"], body := b_Net_add_sight, st := metS 15 3, at_ := ("Net", some "add_sight") }
def b_law_open : Ss := (.cons (.ret (.and (.cmp .ge (.var 1) (.sub (.var 0) (.int 0))) (.cmp .lt (.bin .mod (.bin .sub (.var 1) (.sub (.var 0) (.int 0))) (.sub (.var 0) (.int 1))) (.sub (.var 0) (.int 2))))) .nil)
-- 0 _law_beat, 1 _law_turn
def p_law_open : PFn := { nm := "_law_open", ps := ["_law_beat", "_law_turn"], N := ["_law_beat", "_law_turn"], body := b_law_open, st := topS 26 }
def b_law_walked : Ss := (.cons (.asg 4 (.disp (.cons (.var 1) (.var 2) .nil))) (.cons (.for_ (.n 5) (.rng2 (.var 2) (.bin .add (.var 2) (.int 60))) (.cons (.for_ (.t [(.n 6), (.n 7), (.n 8)]) (.exp (.var 0)) (.cons (.ifs (.cmp .notIn (.bl false) (.fz (.comp (.call "_law_open" (.cons (.var 8) (.cons (.bin .add (.var 5) (.var 11)) .nil))) (.n 11) (.rng1 (.var 3)) .nil))) (.cons (.for_ (.t [(.n 9), (.n 10)]) (.exp (.fz (.lst (.cons (.tup (.cons (.var 6) (.cons (.var 7) .nil))) (.cons (.tup (.cons (.var 7) (.cons (.var 6) .nil))) .nil))))) (.cons (.ifs (.and (.cmp .le (.dgt (.var 4) (.var 9) (.bin .add (.var 5) (.int 1))) (.var 5)) (.cmp .gt (.dgt (.var 4) (.var 10) (.bin .add (.bin .add (.var 5) (.var 3)) (.int 1))) (.bin .add (.var 5) (.var 3)))) (.cons (.pst (.v 4) (.var 10) (.bin .add (.var 5) (.var 3))) .nil) .nil) .nil)) .nil) .nil) .nil)) .nil)) (.cons (.frz 4) (.cons (.ret (.var 4)) .nil))))
-- 0 _law_sights_here, 1 _law_house, 2 _law_turn, 3 _law_size, 4 _law_at, 5 _law_now, 6 _law_one, 7 _law_other, 8 _law_beat, 9 _law_here, 10 _law_there, 11 _law_j
def p_law_walked : PFn := { nm := "_law_walked", ps := ["_law_sights_here", "_law_house", "_law_turn", "_law_size"], N := ["_law_sights_here", "_law_house", "_law_turn", "_law_size", "_law_at", "_law_now", "_law_one", "_law_other", "_law_beat", "_law_here", "_law_there", "_law_j"], body := b_law_walked, st := topS 27 }
def b_Net_sights_at : Ss := (.cons (.ex (.mth "Net" "known" (.var 0) (.cons (.var 1) .nil))) (.cons (.asg 2 (.lst .nil)) (.cons (.for_ (.n 3) (.rng1 (.blt .len (.cons (.fld "Net" (.var 0) "my_sights") .nil))) (.cons (.ifs (.cmp .in_ (.var 1) (.fz (.sli (.sub (.fld "Net" (.var 0) "my_sights") (.var 3)) .no (.so (.int 2))))) (.cons (.papp (.v 2) (.var 3)) .nil) .nil) .nil)) (.cons (.frz 2) (.cons (.ret (.var 2)) .nil)))))
-- 0 self, 1 name, 2 told, 3 number
def p_Net_sights_at : PFn := { nm := "Net.sights_at", ps := ["self", "name"], N := ["self", "name", "told", "number"], body := b_Net_sights_at, st := metS 15 9, at_ := ("Net", some "sights_at") }
def b_Net_houses : Ss := (.cons (.ret (.fz (.blt .list1 (.cons (.fld "Net" (.var 0) "my_houses") .nil)))) .nil)
-- 0 self
def p_Net_houses : PFn := { nm := "Net.houses", ps := ["self"], N := ["self"], body := b_Net_houses, st := metS 15 4, at_ := ("Net", some "houses") }
def b_least_of : Ss := (.cons (.asg 2 .non) (.cons (.fork (.n 3) (.var 0) (.cons (.ifs (.and (.cmp .notIn (.var 3) (.var 1)) (.or (.isN (.var 2)) (.cmp .lt (.sub (.var 0) (.var 3)) (.sub (.var 0) (.var 2))))) (.cons (.asg 2 (.var 3)) .nil) .nil) .nil)) (.cons (.ret (.var 2)) .nil)))
-- 0 turns, 1 done, 2 best, 3 name
def p_least_of : PFn := { nm := "least_of", ps := ["turns", "done"], N := ["turns", "done", "best", "name"], body := b_least_of, st := topS 18 }
def b_next_start : Ss := (.cons (.unp (.t [(.n 5), (.n 6), (.n 7)]) (.var 0)) (.cons (.asg 3 (.blt .max2 (.cons (.var 1) (.cons (.var 5) .nil)))) (.cons (.ifs (.cmp .eq (.var 7) (.var 6)) (.cons (.ret (.var 3)) .nil) .nil) (.cons (.ifs (.cmp .gt (.var 2) (.var 7)) (.cons (.ret .non) .nil) .nil) (.cons (.asg 4 (.bin .mod (.bin .sub (.var 3) (.var 5)) (.var 6))) (.cons (.ifs (.cmp .le (.bin .add (.var 4) (.var 2)) (.var 7)) (.cons (.ret (.var 3)) .nil) .nil) (.cons (.ret (.bin .add (.bin .sub (.var 3) (.var 4)) (.var 6))) .nil)))))))
-- 0 beat, 1 turn, 2 size, 3 start, 4 rest, 5 first, 6 every, 7 long
def p_next_start : PFn := { nm := "next_start", ps := ["beat", "turn", "size"], N := ["beat", "turn", "size", "start", "rest", "first", "every", "long"], body := b_next_start, st := topS 11 }
def b_Net_sight : Ss := (.cons (.ifs (.or (.cmp .lt (.var 1) (.int 0)) (.cmp .ge (.var 1) (.blt .len (.cons (.fld "Net" (.var 0) "my_sights") .nil)))) (.cons (.rse "NoSight") .nil) .nil) (.cons (.ret (.sub (.fld "Net" (.var 0) "my_sights") (.var 1))) .nil))
-- 0 self, 1 number
def p_Net_sight : PFn := { nm := "Net.sight", ps := ["self", "number"], N := ["self", "number"], body := b_Net_sight, st := metS 15 8, at_ := ("Net", some "sight") }
def b_beyond : Ss := (.cons (.unp (.t [(.n 3), (.n 4), (.n 5)]) (.mth "Net" "sight" (.var 0) (.cons (.var 1) .nil))) (.cons (.ifs (.cmp .eq (.var 2) (.var 3)) (.cons (.ret (.var 4)) .nil) .nil) (.cons (.ret (.var 3)) .nil)))
-- 0 net, 1 number, 2 house, 3 one, 4 other, 5 turning
def p_beyond : PFn := { nm := "beyond", ps := ["net", "number", "house"], N := ["net", "number", "house", "one", "other", "turning"], body := b_beyond, st := topS 16 }
def b_spread : Ss := (.cons (.asg 4 (.disp (.cons (.var 1) (.var 2) .nil))) (.cons (.asg 5 .dnew) (.cons (.asg 6 .dnew) (.cons (.whl (.cmp .lt (.blt .len (.cons (.var 6) .nil)) (.blt .len (.cons (.var 4) .nil))) (.cons (.asg 7 (.call "least_of" (.cons (.var 4) (.cons (.var 6) .nil)))) (.cons (.pst (.v 6) (.var 7) (.bl true)) (.cons (.for_ (.n 8) (.exp (.mth "Net" "sights_at" (.var 0) (.cons (.var 7) .nil))) (.cons (.asg 9 (.call "next_start" (.cons (.sub (.mth "Net" "sight" (.var 0) (.cons (.var 8) .nil)) (.int 2)) (.cons (.sub (.var 4) (.var 7)) (.cons (.var 3) .nil))))) (.cons (.asg 10 (.call "beyond" (.cons (.var 0) (.cons (.var 8) (.cons (.var 7) .nil))))) (.cons (.ifs (.and (.notN (.var 9)) (.or (.cmp .notIn (.var 10) (.var 4)) (.cmp .lt (.bin .add (.var 9) (.var 3)) (.sub (.var 4) (.var 10))))) (.cons (.pst (.v 4) (.var 10) (.bin .add (.var 9) (.var 3))) (.cons (.pst (.v 5) (.var 10) (.tup (.cons (.var 8) (.cons (.var 9) (.cons (.var 7) .nil))))) .nil)) .nil) .nil)))) .nil)))) (.cons (.frz 4) (.cons (.frz 5) (.cons (.ret (.tup (.cons (.var 4) (.cons (.var 5) .nil)))) .nil)))))))
-- 0 net, 1 house, 2 turn, 3 size, 4 turns, 5 back, 6 done, 7 here, 8 number, 9 start, 10 there
def p_spread : PFn := { nm := "spread", ps := ["net", "house", "turn", "size"], N := ["net", "house", "turn", "size", "turns", "back", "done", "here", "number", "start", "there"], body := b_spread, st := topS 19 }
def b_comings : Ss := (.cons (.ex (.mth "Net" "sights_at" (.var 0) (.cons (.var 1) .nil))) (.cons (.asg 4 (.sub (.call "spread" (.cons (.var 0) (.cons (.var 1) (.cons (.var 2) (.cons (.var 3) .nil))))) (.int 0))) (.cons (.asg 5 .dnew) (.cons (.for_ (.n 6) (.exp (.mth "Net" "houses" (.var 0) .nil)) (.cons (.ifs (.cmp .in_ (.var 6) (.var 4)) (.cons (.pst (.v 5) (.var 6) (.sub (.var 4) (.var 6))) .nil) .nil) .nil)) (.cons (.frz 5) (.cons (.ret (.var 5)) .nil))))))
-- 0 net, 1 house, 2 turn, 3 size, 4 turns, 5 told, 6 name
def p_comings : PFn := { nm := "comings", ps := ["net", "house", "turn", "size"], N := ["net", "house", "turn", "size", "turns", "told", "name"], body := b_comings, st := topS 20 }
def b_law : Ss := (.cons (.asg 1 (.call "_law_names" (.cons (.var 0) (.cons (.int 0) (.cons (.bin .add (.int 2) (.call "_law_by" (.cons (.var 0) (.cons (.int 20) (.cons (.int 4) .nil))))) .nil))))) (.cons (.asg 2 (.call "_law_sights" (.cons (.var 0) (.cons (.int 21) (.cons (.var 1) .nil))))) (.cons (.asg 3 (.mk "Net" .nil)) (.cons (.for_ (.n 4) (.exp (.var 1)) (.cons (.mx .drop (.mth "Net" "add_house" (.v 3) (.cons (.var 4) (.cons (.cmp .eq (.call "_law_by" (.cons (.var 0) (.cons (.int 64) (.cons (.int 2) .nil)))) (.int 1)) (.cons (.call "_law_by" (.cons (.var 0) (.cons (.int 65) (.cons (.int 3) .nil)))) .nil))))) .nil)) (.cons (.for_ (.t [(.n 6), (.n 7), (.n 8)]) (.exp (.var 2)) (.cons (.mx .drop (.mth "Net" "add_sight" (.v 3) (.cons (.var 6) (.cons (.var 7) (.cons (.var 8) .nil))))) .nil)) (.cons (.for_ (.n 5) (.rng1 (.int 2)) (.cons (.asg 9 (.sub (.var 1) (.call "_law_by" (.cons (.var 0) (.cons (.bin .add (.int 66) (.bin .mul (.int 3) (.var 5))) (.cons (.blt .len (.cons (.var 1) .nil)) .nil)))))) (.cons (.asg 10 (.call "_law_by" (.cons (.var 0) (.cons (.bin .add (.int 67) (.bin .mul (.int 3) (.var 5))) (.cons (.int 13) .nil))))) (.cons (.asg 11 (.bin .add (.int 1) (.call "_law_by" (.cons (.var 0) (.cons (.bin .add (.int 68) (.bin .mul (.int 3) (.var 5))) (.cons (.int 4) .nil)))))) (.cons (.asg 12 (.call "_law_walked" (.cons (.var 2) (.cons (.var 9) (.cons (.var 10) (.cons (.var 11) .nil)))))) (.cons (.asg 13 (.call "comings" (.cons (.var 3) (.cons (.var 9) (.cons (.var 10) (.cons (.var 11) .nil)))))) (.cons (.ifs (.or (.not (.isi .dict (.var 13))) (.cmp .ne (.fz (.blt .list1 (.cons (.var 13) .nil))) (.fz (.comp (.var 4) (.n 4) (.exp (.var 1)) (.cons (.cmp .in_ (.var 4) (.var 12)) .nil))))) (.cons (.ret (.bl false)) .nil) .nil) (.cons (.fork (.n 4) (.var 13) (.cons (.ifs (.or (.not (.isi .int (.sub (.var 13) (.var 4)))) (.or (.isi .bool (.sub (.var 13) (.var 4))) (.cmp .ne (.sub (.var 13) (.var 4)) (.sub (.var 12) (.var 4))))) (.cons (.ret (.bl false)) .nil) .nil) .nil)) .nil)))))))) (.cons (.ret (.bl true)) .nil)))))))
-- 0 _law_script, 1 _law_names_here, 2 _law_sights_here, 3 _law_net, 4 _law_name, 5 _law_j, 6 _law_one, 7 _law_other, 8 _law_beat, 9 _law_house, 10 _law_turn, 11 _law_size, 12 _law_due, 13 _law_told
def p_law : PFn := { nm := "law", ps := ["_law_script"], N := ["_law_script", "_law_names_here", "_law_sights_here", "_law_net", "_law_name", "_law_j", "_law_one", "_law_other", "_law_beat", "_law_house", "_law_turn", "_law_size", "_law_due", "_law_told"], body := b_law, st := topS 28 }
def pg : Pg := { fns := [p_Net___init__, p_law_cell_at, p_law_by, p_law_names, p_law_sights, p_good_name, p_Net_add_house, p_Net_known, p_checked, p_Net_add_sight, p_law_open, p_law_walked, p_Net_sights_at, p_Net_houses, p_least_of, p_next_start, p_Net_sight, p_beyond, p_spread, p_comings, p_law], free := ["bool", "dict", "int", "isinstance", "len", "list", "max", "range"], gi := [], gs := [("LETTERS", Str.ofString "abcdefghijklmnopqrstuvwxyz")], excs := ["BadName", "BadRoom", "BadRound", "NoHouse", "NoSight", "Twice"], xp := [], ixf := [], cls := ["Net"], nat := [("Net", "my_houses"), ("Net", "my_sights")], mks := ["Net"] }
end Lw
namespace Lw
open PySem PySem.Spec PyProof.Rows L2 Mo
abbrev Rw : PySem.W.OpenRow := PySem.W.OpenLaw.row PySem.Challenge.rw_moonrelay_k33_comings_walked
abbrev hk : PySem.W.Hook := hookX 6 pg.fa pg.fn pg.xb
def ob (s : PySem.W.SharedT) : Bool × He.AlD := obsX 6 pg.fa pg.fn pg.xb (HandSHeadRun.getT s)
theorem ob_eq (s : PySem.W.SharedT) : ob s = hk.obs s.abs := obsX_eq (HandSHeadRun.getT_eq s)
def names : List Str := ["_wall", "RelayError", "BadRound", "BadName", "Twice", "BadRoom", "NoHouse", "NoSight", "checked", "next_start", "LETTERS", "good_name", "Net", "beyond", "least_of", "spread", "comings", "_law_cell_at", "_law_by", "_law_names", "_law_sights", "_law_open", "_law_walked"]
theorem runT (w : World) : HandSHeadRun.RunEq Rw (PySem.W.view Rw.prog [28]) hk ob 40000 names w := by
  intro os
  kernel_rfl
theorem chk : pg.okB = true := by decide +kernel
theorem bnd : ∀ d ∈ pg.fns, BindP d := by
  unfold pg
  simp only [List.forall_mem_cons]
  exact ⟨fun _ _ _ _ _ _ us hl => match us, hl with | [_], _ => rfl, fun _ _ _ _ _ _ us hl => match us, hl with | [_, _], _ => rfl, fun _ _ _ _ _ _ us hl => match us, hl with | [_, _, _], _ => rfl, fun _ _ _ _ _ _ us hl => match us, hl with | [_, _, _], _ => rfl, fun _ _ _ _ _ _ us hl => match us, hl with | [_, _, _], _ => rfl, fun _ _ _ _ _ _ us hl => match us, hl with | [_], _ => rfl, fun _ _ _ _ _ _ us hl => match us, hl with | [_, _, _, _], _ => rfl, fun _ _ _ _ _ _ us hl => match us, hl with | [_, _], _ => rfl, fun _ _ _ _ _ _ us hl => match us, hl with | [_], _ => rfl, fun _ _ _ _ _ _ us hl => match us, hl with | [_, _, _, _], _ => rfl, fun _ _ _ _ _ _ us hl => match us, hl with | [_, _], _ => rfl, fun _ _ _ _ _ _ us hl => match us, hl with | [_, _, _, _], _ => rfl, fun _ _ _ _ _ _ us hl => match us, hl with | [_, _], _ => rfl, fun _ _ _ _ _ _ us hl => match us, hl with | [_], _ => rfl, fun _ _ _ _ _ _ us hl => match us, hl with | [_, _], _ => rfl, fun _ _ _ _ _ _ us hl => match us, hl with | [_, _, _], _ => rfl, fun _ _ _ _ _ _ us hl => match us, hl with | [_, _], _ => rfl, fun _ _ _ _ _ _ us hl => match us, hl with | [_, _, _], _ => rfl, fun _ _ _ _ _ _ us hl => match us, hl with | [_, _, _, _], _ => rfl, fun _ _ _ _ _ _ us hl => match us, hl with | [_, _, _, _], _ => rfl, fun _ _ _ _ _ _ us hl => match us, hl with | [_], _ => rfl, fun _ h => nomatch h⟩
end Lw
namespace Lw
open PySem L2 Mo
theorem dr (n : Nat) : Draws (run pg (n + 2)) := ⟨fun ns k => cell_at_ok (run pg (n + 1)) ns k, fun ns k many hl hk hk2 hm => by_ok (run pg (n + 1)) (fun ns k => cell_at_ok (run pg n) ns k) ns hl k many hk hk2 hm⟩
theorem netP : NetP pg := ⟨⟨p_Net_known, rfl, rfl, rfl, rfl⟩, ⟨p_least_of, rfl, rfl, rfl, rfl⟩, ⟨p_Net_sights_at, rfl, rfl, rfl, rfl⟩, ⟨p_Net_sight, rfl, rfl, rfl, rfl⟩, ⟨p_beyond, rfl, rfl, rfl, rfl⟩, ⟨p_next_start, rfl, rfl, rfl, rfl⟩, ⟨p_Net_houses, rfl, rfl, rfl, rfl⟩, ⟨p_spread, rfl, rfl, rfl, rfl⟩⟩
theorem netB : NetB pg := ⟨⟨p_good_name, rfl, rfl, rfl, rfl⟩, ⟨p_Net_known, rfl, rfl, rfl, rfl⟩, ⟨p_checked, rfl, rfl, rfl, rfl⟩, ⟨p_Net___init__, rfl, rfl, rfl, rfl⟩, ⟨p_Net_add_house, rfl, rfl, rfl, rfl⟩, ⟨p_Net_add_sight, rfl, rfl, rfl, rfl⟩⟩
theorem r_comings (n : Nat) {hs : Hs} {ss : List Sg} (N : NetOk hs ss) {w : Wo} (hw : w ∈ hs.map (·.1)) (t z : Int) : run pg (n + 4) "comings" [.lk (netM hs ss), .cl (kD w), .cl (.int t), .cl (.int z)] = .ok (.cl (wD D.int (cmF hs (spF hs ss w t z).T))) := by
  show evF (run pg (n + 3)) 4 7 b_comings _ = _
  exact comings_ok N (netP.c N (n + 1)) hw (netP.spr N n hw t z)
end Lw
namespace Lw
open PySem L2 Mo
theorem r_names (n : Nat) {ns : List Int} (hl : ns.length ≤ 63) {k : Int} (hk : 0 ≤ k) (hk2 : k ≤ 9000) {many : Int} (h1 : 0 ≤ many) (h8 : many ≤ 8) : ∃ W : List Wo, NmsOk W ∧ (W.length : Int) = many ∧ run pg (n + 3) "_law_names" [.cl (scr ns), .cl (.int k), .cl (.int many)] = .ok (.cl (.lst (W.map kD))) := names_ok (dr n) hl hk hk2 h1 h8
structure SgIn (W : List Wo) (s : Sg) : Prop where
  ok : SgOk s
  a : s.a ∈ W
  b : s.b ∈ W
  f : s.f ≤ 11
  e : s.e ≤ 8
theorem r_sights (n : Nat) {ns : List Int} (hl : ns.length ≤ 63) {k : Int} (hk : 0 ≤ k) (hk2 : k ≤ 9000) {W : List Wo} (W0 : NmsOk W) (w2 : 2 ≤ W.length) (w8 : W.length ≤ 8) : ∃ S : List Sg, (∀ s ∈ S, SgIn W s) ∧ S.length ≤ 10 ∧ run pg (n + 3) "_law_sights" [.cl (scr ns), .cl (.int k), .cl (.lst (W.map kD))] = .ok (.cl (.lst (S.map Sg.d))) := by
  have d := dr n
  have c0 := lawBy_nn (ns := ns) (k := k) (many := 7) (by omega)
  have c1 := lawBy_lt (ns := ns) (k := k) (many := 7) (by omega)
  have bc := d.by_ ns k 7 hl (by omega) (by omega) (by omega)
  generalize lawBy ns k 7 = cc at *
  obtain ⟨m, rfl⟩ : ∃ m : Nat, cc = (m : Int) := ⟨cc.toNat, by omega⟩
  have key : ∃ S : List Sg, (∀ s ∈ S, SgIn W s) ∧ S.length = m + 1 ∧ evF (run pg (n + 2)) 3 10 b_law_sights [.cl (scr ns), .cl (.int k), .cl (.lst (W.map kD))] = .ok (.cl (.lst (S.map Sg.d))) := by
    unfold evF
    rw [if_pos ⟨rfl, rfl⟩, retR_pure rfl]
    unfold b_law_sights
    rw [evSs_cons, show evS (run pg (n + 2)) (.asg 3 (.lst .nil)) ([SV.cl (scr ns), .cl (.int k), .cl (.lst (W.map kD))] ++ List.replicate (10 - 3) .no) = some (.nx [.cl (scr ns), .cl (.int k), .cl (.lst (W.map kD)), .ow (.lst []), .no, .no, .no, .no, .no, .no]) from by simp, seqO_nx]
    refine for_rangeO (lo := 0) (n := m + 1) (fun o => ∃ S : List Sg, (∀ s ∈ S, SgIn W s) ∧ S.length = m + 1 ∧ retR [] o = .ok (.cl (.lst (S.map Sg.d)))) (fun i sl => ∃ (S : List Sg) (a4 a5 a6 a7 a8 a9 : SV), sl = [.cl (scr ns), .cl (.int k), .cl (.lst (W.map kD)), .ow (.lst (S.map fun s => .cl s.d)), a4, a5, a6, a7, a8, a9] ∧ S.length = i ∧ ∀ s ∈ S, SgIn W s) ?_ ⟨[], _, _, _, _, _, _, rfl, rfl, by simp⟩ ?_ ?_
    · simp [bc, Int.add_comm]
    · rintro i hi sl ⟨S, a4, a5, a6, a7, a8, a9, rfl, hS, ok⟩
      refine ⟨_, tgo_n _ _ _, ?_⟩
      rw [Int.zero_add]
      generalize hat : k + 1 + 6 * (i : Int) = at_
      have at0 : 0 ≤ at_ := by omega
      have at1 : at_ ≤ 9080 := by omega
      have b1 := d.by_ ns at_ (W.length : Int) hl (by omega) (by omega) (by omega)
      have b2 := d.by_ ns (at_ + 1) ((W.length : Int) - 1) hl (by omega) (by omega) (by omega)
      obtain ⟨a, b, ha, hb, hne, ia, ib⟩ := pairW W0.nd (lawBy_nn (ns := ns) (k := at_) (many := (W.length : Int)) (by omega)) (lawBy_lt (by omega)) (lawBy_nn (ns := ns) (k := at_ + 1) (many := (W.length : Int) - 1) (by omega)) (lawBy_lt (by omega))
      have mo := bopI_mod (i := lawBy ns at_ (W.length : Int) + 1 + lawBy ns (at_ + 1) ((W.length : Int) - 1)) (j := (W.length : Int)) (by omega)
      generalize lawBy ns at_ (W.length : Int) = o at *
      generalize lawBy ns (at_ + 1) ((W.length : Int) - 1) = p at *
      generalize (o + 1 + p) % (W.length : Int) = q at *
      have e0 := lawBy_nn (ns := ns) (k := at_ + 2) (many := 8) (by omega)
      have e1 := lawBy_lt (ns := ns) (k := at_ + 2) (many := 8) (by omega)
      have b3 := d.by_ ns (at_ + 2) 8 hl (by omega) (by omega) (by omega)
      generalize lawBy ns (at_ + 2) 8 = E at *
      have l0 := lawBy_nn (ns := ns) (k := at_ + 3) (many := 1 + E) (by omega)
      have l1 := lawBy_lt (ns := ns) (k := at_ + 3) (many := 1 + E) (by omega)
      have b4 := d.by_ ns (at_ + 3) (1 + E) hl (by omega) (by omega) (by omega)
      generalize lawBy ns (at_ + 3) (1 + E) = Ln at *
      have b5 := d.by_ ns (at_ + 4) 5 hl (by omega) (by omega) (by omega)
      have f0 := lawBy_nn (ns := ns) (k := at_ + 5) (many := 12) (by omega)
      have f1 := lawBy_lt (ns := ns) (k := at_ + 5) (many := 12) (by omega)
      have b6 := d.by_ ns (at_ + 5) 12 hl (by omega) (by omega) (by omega)
      generalize lawBy ns (at_ + 5) 12 = F at *
      have m6 := bopI_mul (i := 6) (j := (i : Int)) (mul_ok64 (by decide) (by decide) (by omega) (by omega))
      have hlS : S.length < sizeLine := Nat.lt_of_lt_of_le (show S.length < 1000 by omega) (by decide)
      simp only [List.set_cons_succ, List.set_cons_zero]
      rw [evSs_cons, show evS (run pg (n + 2)) (.asg 5 _) [SV.cl (scr ns), .cl (.int k), .cl (.lst (W.map kD)), .ow (.lst (S.map fun s => .cl s.d)), .cl (.int (i : Int)), a5, a6, a7, a8, a9] = some (.nx [SV.cl (scr ns), .cl (.int k), .cl (.lst (W.map kD)), .ow (.lst (S.map fun s => .cl s.d)), .cl (.int (i : Int)), .cl (.int at_), a6, a7, a8, a9]) from by simp [m6, hat], seqO_nx]
      have fin : ∀ l : Int, 1 ≤ l → l ≤ 1 + E → SgIn W ⟨a, b, F, 1 + E, l⟩ := fun l h1 h2 => ⟨⟨nameP_ok (W0.nm _ ha), nameP_ok (W0.nm _ hb), hne, f0, by show 1 ≤ 1 + E; omega, h1, h2⟩, ha, hb, by show F ≤ 11; omega, by show 1 + E ≤ 8; omega⟩
      by_cases h5 : lawBy ns (at_ + 4) 5 = 0
      · refine ⟨[.cl (scr ns), .cl (.int k), .cl (.lst (W.map kD)), .ow (.lst ((S ++ [(⟨a, b, F, 1 + E, 1 + E⟩ : Sg)]).map fun s : Sg => .cl s.d)), .cl (.int (i : Int)), .cl (.int at_), .cl (.int o), .cl (.int q), .cl (.int (1 + E)), .cl (.int (1 + E))], ?_, S ++ [⟨a, b, F, 1 + E, 1 + E⟩], _, _, _, _, _, _, rfl, by rw [List.length_append, hS]; rfl, fun y hy => ?_⟩
        · simp [b1, b2, b3, b4, b5, b6, mo, ia, ib, h5, Sg.d, pappF, ptV, putS, hlS]
        · rcases List.mem_append.mp hy with z | z
          · exact ok y z
          · rw [List.mem_singleton] at z; subst z; exact fin _ (by omega) (by omega)
      · refine ⟨[.cl (scr ns), .cl (.int k), .cl (.lst (W.map kD)), .ow (.lst ((S ++ [(⟨a, b, F, 1 + E, 1 + Ln⟩ : Sg)]).map fun s : Sg => .cl s.d)), .cl (.int (i : Int)), .cl (.int at_), .cl (.int o), .cl (.int q), .cl (.int (1 + E)), .cl (.int (1 + Ln))], ?_, S ++ [⟨a, b, F, 1 + E, 1 + Ln⟩], _, _, _, _, _, _, rfl, by rw [List.length_append, hS]; rfl, fun y hy => ?_⟩
        · simp [b1, b2, b3, b4, b5, b6, mo, ia, ib, h5, Sg.d, pappF, ptV, putS, hlS]
        · rcases List.mem_append.mp hy with z | z
          · exact ok y z
          · rw [List.mem_singleton] at z; subst z; exact fin _ (by omega) (by omega)
    · rintro s' ⟨S, a4, a5, a6, a7, a8, a9, rfl, hS, ok⟩
      refine ⟨S, ok, hS, ?_⟩
      have fz : MO.toDL (S.map fun s => MO.cl s.d) = S.map Sg.d := toDL_map Sg.d _
      simp [frzF, fz]
  obtain ⟨S, s1, s2, s3⟩ := key
  exact ⟨S, s1, by omega, s3⟩
/-! ### the walk, turn by turn -/
/-- what holds of what is walked so far: none too soon; those that came by a handing begun ahead of now -/
structure Wk (T : List (Wo × Int)) (z now : Int) (A : List (Wo × Int)) : Prop where
  a : ∀ k v, aget A k = some v → ∃ w, aget T k = some w ∧ w ≤ v
  b : ∀ k w, aget T k = some w → w - z < now → aget A k = some w
def wput (now z : Int) (A : List (Wo × Int)) (here there : Wo) : List (Wo × Int) := if decide ((aget A here).getD (now + 1) ≤ now) && decide (now + z < (aget A there).getD (now + z + 1)) then aput A there (now + z) else A
theorem wput_ok {T : List (Wo × Int)} {z now : Int} {A : List (Wo × Int)} (h : Wk T z now A) {here there : Wo} (hc : ∀ u, aget T here = some u → u ≤ now → ∃ w, aget T there = some w ∧ w ≤ now + z) :
    Wk T z now (wput now z A here there) ∧ (∀ k v, aget A k = some v → ∃ v', aget (wput now z A here there) k = some v' ∧ v' ≤ v) ∧ (∀ u, aget T here = some u → u - z < now → u ≤ now → ∃ w, aget (wput now z A here there) there = some w ∧ w ≤ now + z) := by
  unfold wput
  by_cases c : (decide ((aget A here).getD (now + 1) ≤ now) && decide (now + z < (aget A there).getD (now + z + 1))) = true
  · rw [if_pos c]
    rw [Bool.and_eq_true, decide_eq_true_eq, decide_eq_true_eq] at c
    obtain ⟨c1, c2⟩ := c
    have hx : ∃ x, aget A here = some x ∧ x ≤ now := by
      cases e : aget A here with
      | none => rw [e] at c1; simp at c1; omega
      | some x => rw [e] at c1; exact ⟨x, rfl, c1⟩
    obtain ⟨x, x1, x2⟩ := hx
    obtain ⟨u, u1, u2⟩ := h.a here x x1
    obtain ⟨w, w1, w2⟩ := hc u u1 (by omega)
    refine ⟨⟨fun k v hk => ?_, fun k v hk hv => ?_⟩, fun k v hk => ?_, fun u _ _ _ => ⟨now + z, by rw [aget_put, if_pos rfl], Int.le_refl _⟩⟩
    · rw [aget_put] at hk
      split at hk
      · rename_i e; cases hk; subst e; exact ⟨w, w1, w2⟩
      · exact h.a k v hk
    · have o := h.b k v hk hv
      rw [aget_put]
      split
      · rename_i e
        subst e
        rw [o] at c2
        simp at c2
        omega
      · exact o
    · rw [aget_put]
      split
      · rename_i e
        subst e
        rw [hk] at c2
        simp at c2
        exact ⟨_, rfl, by omega⟩
      · exact ⟨v, hk, Int.le_refl _⟩
  · rw [if_neg c]
    refine ⟨h, fun k v hk => ⟨v, hk, Int.le_refl _⟩, fun u hu h1 h2 => ?_⟩
    have o := h.b here u hu h1
    rw [o] at c
    simp only [Option.getD_some, h2, decide_true, Bool.true_and, decide_eq_true_eq] at c
    cases e : aget A there with
    | none => rw [e] at c; simp at c; omega
    | some w => rw [e] at c; exact ⟨w, rfl, by simp at c; omega⟩
/-- one sight at a turn -/
def wsg (now z : Int) (A : List (Wo × Int)) (s : Sg) : List (Wo × Int) := if ∀ i, i < z.toNat → openAt s.f s.e s.l (now + i) = true then wput now z (wput now z A s.a s.b) s.b s.a else A
theorem isSt_of {s : Sg} {z now : Int} (h : ∀ i, i < z.toNat → openAt s.f s.e s.l (now + i) = true) : IsSt s.f s.e s.l z now := fun i h0 h1 => by
  have := h i.toNat (by omega)
  rwa [show ((i.toNat : Nat) : Int) = i by omega] at this
section
variable {hs : Hs} {ss : List Sg} (N : NetOk hs ss) {house : Wo} {turn z : Int} (hz : 1 ≤ z) {T : List (Wo × Int)} {B : Bk} (F : Lt_ hs ss house turn z T B)
include N hz F
theorem edge {s : Sg} (hs_ : s ∈ ss) {now : Int} (st : IsSt s.f s.e s.l z now) {d : Wo} (hd : d = s.a ∨ d = s.b) : ∀ u, aget T d = some u → u ≤ now → ∃ w, aget T (oth s d) = some w ∧ w ≤ now + z := fun u hu hn => by
  have so := N.sg s hs_
  obtain ⟨n, hn'⟩ := List.getElem?_of_mem hs_
  have L := nxO_ok (f := s.f) (e := s.e) (l := s.l) (t := u) (z := z) so.e so.l so.le hz
  cases e : nxO s.f s.e s.l u z with
  | none => rw [e] at L; exact absurd ⟨hn, st⟩ (L now)
  | some q =>
    rw [e] at L
    have := L.2 now ⟨hn, st⟩
    obtain ⟨w, w1, w2⟩ := F.clo d n u s q hu hn' hd e
    exact ⟨w, w1, by omega⟩
theorem wsg_ok {s : Sg} (hs_ : s ∈ ss) {now : Int} {A : List (Wo × Int)} (h : Wk T z now A) :
    Wk T z now (wsg now z A s) ∧ (∀ k v, aget A k = some v → ∃ v', aget (wsg now z A s) k = some v' ∧ v' ≤ v) ∧ (IsSt s.f s.e s.l z now → ∀ d u, (d = s.a ∨ d = s.b) → aget T d = some u → u ≤ now → ∃ w, aget (wsg now z A s) (oth s d) = some w ∧ w ≤ now + z) := by
  have so := N.sg s hs_
  have oa : oth s s.a = s.b := by unfold oth; rw [if_pos rfl]
  have ob : oth s s.b = s.a := by unfold oth; rw [if_neg (fun e => so.ne e.symm)]
  unfold wsg
  by_cases c : ∀ i, i < z.toNat → openAt s.f s.e s.l (now + i) = true
  · rw [if_pos c]
    have st := isSt_of c
    have e1 := edge N hz F hs_ st (d := s.a) (.inl rfl)
    have e2 := edge N hz F hs_ st (d := s.b) (.inr rfl)
    rw [oa] at e1
    rw [ob] at e2
    obtain ⟨a1, a2, a3⟩ := wput_ok h (here := s.a) (there := s.b) e1
    obtain ⟨b1, b2, b3⟩ := wput_ok a1 (here := s.b) (there := s.a) e2
    refine ⟨b1, fun k v hk => ?_, fun _ d u hd hu hn => ?_⟩
    · obtain ⟨v', h1, h2⟩ := a2 k v hk
      obtain ⟨v2, h3, h4⟩ := b2 k v' h1
      exact ⟨v2, h3, by omega⟩
    · rcases hd with rfl | rfl
      · rw [oa]
        obtain ⟨w, w1, w2⟩ := a3 u hu (by omega) hn
        obtain ⟨w', w3, w4⟩ := b2 s.b w w1
        exact ⟨w', w3, by omega⟩
      · rw [ob]
        exact b3 u hu (by omega) hn
  · rw [if_neg c]
    refine ⟨h, fun k v hk => ⟨v, hk, Int.le_refl _⟩, fun st => absurd (fun i hi => ?_) c⟩
    exact st i (by omega) (by omega)
theorem wall_ok {now : Int} : ∀ (l : List Sg) {A : List (Wo × Int)}, (∀ s ∈ l, s ∈ ss) → Wk T z now A → Wk T z now (l.foldl (wsg now z) A) ∧ (∀ k v, aget A k = some v → ∃ v', aget (l.foldl (wsg now z) A) k = some v' ∧ v' ≤ v) ∧ ∀ s ∈ l, IsSt s.f s.e s.l z now → ∀ d u, (d = s.a ∨ d = s.b) → aget T d = some u → u ≤ now → ∃ w, aget (l.foldl (wsg now z) A) (oth s d) = some w ∧ w ≤ now + z
  | [], A, _, h => ⟨h, fun k v hk => ⟨v, hk, Int.le_refl _⟩, fun s hs_ => by cases hs_⟩
  | x :: l, A, hm, h => by
    obtain ⟨a1, a2, a3⟩ := wsg_ok N hz F (hm x List.mem_cons_self) h
    obtain ⟨b1, b2, b3⟩ := wall_ok l (fun s h => hm s (List.mem_cons_of_mem _ h)) a1
    rw [List.foldl_cons]
    refine ⟨b1, fun k v hk => ?_, fun s hs_ st d u hd hu hn => ?_⟩
    · obtain ⟨v', h1, h2⟩ := a2 k v hk
      obtain ⟨v2, h3, h4⟩ := b2 k v' h1
      exact ⟨v2, h3, by omega⟩
    · rcases List.mem_cons.mp hs_ with e | e
      · subst e
        obtain ⟨w, w1, w2⟩ := a3 st d u hd hu hn
        obtain ⟨w', w3, w4⟩ := b2 _ w w1
        exact ⟨w', w3, by omega⟩
      · exact b3 s e st d u hd hu hn
theorem wnext {now : Int} (hn : turn ≤ now) {A : List (Wo × Int)} (h : Wk T z now A) : Wk T z (now + 1) (ss.foldl (wsg now z) A) := by
  obtain ⟨a, b, c⟩ := wall_ok N hz F ss (now := now) (fun s h => h) h
  refine ⟨a.a, fun k w hk hw => ?_⟩
  by_cases e : w - z < now
  · exact a.b k w hk e
  · have ew : w = now + z := by omega
    by_cases hh : k = house
    · subst hh
      rw [F.ho] at hk
      cases hk
      omega
    · obtain ⟨n, q, p, s, u, b1, b3, b4, b5, b6, b7, b8, b9⟩ := F.bk k w hk hh
      have sm := List.mem_of_getElem? b3
      have so := N.sg s sm
      have qn : q = now := by omega
      subst qn
      have L := nxO_ok (f := s.f) (e := s.e) (l := s.l) (t := u) (z := z) so.e so.l so.le hz
      rw [b7] at L
      obtain ⟨x, x1, x2⟩ := c s sm L.1.2 p u b4 b6 L.1.1
      rw [b5] at x1
      obtain ⟨y, y1, y2⟩ := a.a k x x1
      rw [hk] at y1
      cases y1
      rw [x1]
      congr 1
      omega
/-- how far the least turns can lie -/
theorem bound (hf : ∀ s ∈ ss, s.f ≤ 11 ∧ s.e ≤ 8) (h0 : 0 ≤ turn) (hz4 : z ≤ 4) : ∀ (m : Nat) k v, aget T k = some v → (T.filter fun p => decide (p.2 < v)).length ≤ m → v ≤ turn + 11 + 12 * (m : Int)
  | m, k, v, hk, hm => by
    by_cases hh : k = house
    · subst hh
      rw [F.ho] at hk
      cases hk
      omega
    · obtain ⟨n, q, p, s, u, b1, b3, b4, b5, b6, b7, b8, b9⟩ := F.bk k v hk hh
      have sm := List.mem_of_getElem? b3
      have so := N.sg s sm
      have := hf s sm
      have lt : (T.filter fun p => decide (p.2 < u)).length < (T.filter fun p => decide (p.2 < v)).length := by
        have gen : ∀ L : List (Wo × Int), (L.filter fun p => decide (p.2 < u)).length ≤ (L.filter fun p => decide (p.2 < v)).length ∧ ((p, u) ∈ L → (L.filter fun p => decide (p.2 < u)).length < (L.filter fun p => decide (p.2 < v)).length) := fun L => by
          induction L with
          | nil => exact ⟨Nat.le_refl _, fun h => by cases h⟩
          | cons x L ih =>
            obtain ⟨i1, i2⟩ := ih
            rw [List.filter_cons, List.filter_cons]
            by_cases c1 : x.2 < u
            · have c2 : x.2 < v := by omega
              simp only [c1, c2, decide_true, if_true, List.length_cons]
              refine ⟨by omega, fun h => ?_⟩
              rcases List.mem_cons.mp h with e | e
              · rw [← e] at c1; exact absurd c1 (by simp)
              · have := i2 e; omega
            · simp only [c1, decide_false, Bool.false_eq_true, if_false]
              by_cases c2 : x.2 < v
              · simp only [c2, decide_true, if_true, List.length_cons]
                exact ⟨by omega, fun _ => by omega⟩
              · simp only [c2, decide_false, Bool.false_eq_true, if_false]
                refine ⟨i1, fun h => ?_⟩
                rcases List.mem_cons.mp h with e | e
                · rw [← e] at c2; exact absurd b9 c2
                · exact i2 e
        exact (gen T).2 (aget_mem b6)
      cases m with
      | zero => omega
      | succ m =>
        have ih := bound hf h0 hz4 m p u b6 (by omega)
        have nb : q ≤ (if s.f > u then s.f else u) + s.e := by
          have m0 := Int.emod_nonneg ((if s.f > u then s.f else u) - s.f) (show s.e ≠ 0 by have := so.e; omega)
          have se := so.e
          unfold nxO at b7
          generalize (if s.f > u then s.f else u) = st at *
          split at b7
          · cases b7; omega
          · split at b7
            · cases b7
            · split at b7
              · cases b7; omega
              · cases b7; omega
        have : (if s.f > u then s.f else u) ≤ turn + 11 + 12 * (m : Int) := by split <;> omega
        omega
  termination_by m => m
end
theorem walk_all {hs : Hs} {ss : List Sg} (N : NetOk hs ss) {house : Wo} (hh : house ∈ hs.map (·.1)) {turn z : Int} (hz : 1 ≤ z) (hz4 : z ≤ 4) (h0 : 0 ≤ turn) (h5 : hs.length ≤ 5) (hf : ∀ s ∈ ss, s.f ≤ 11 ∧ s.e ≤ 8) {A : List (Wo × Int)} (h : Wk (spF hs ss house turn z).T z (turn + 60) A) (k : Wo) : aget A k = aget (spF hs ss house turn z).T k := by
  have F := fin_ok N hh (turn := turn) hz
  generalize (spF hs ss house turn z).T = T at *
  generalize (spF hs ss house turn z).B = B at *
  cases e : aget T k with
  | none =>
    cases e2 : aget A k with
    | none => rfl
    | some v =>
      obtain ⟨w, w1, _⟩ := h.a k v e2
      rw [e] at w1; cases w1
  | some w =>
    have tl : T.length ≤ 5 := by
      have := nodup_le F.nd F.sub
      simp only [List.length_map] at this
      omega
    have fl : (T.filter fun p => decide (p.2 < w)).length ≤ 4 := by
      have key : (T.filter fun p => decide (p.2 < w)).length < T.length := by
        rcases Nat.lt_or_ge (T.filter fun p => decide (p.2 < w)).length T.length with q | q
        · exact q
        · have := List.length_filter_eq_length_iff.mp (Nat.le_antisymm (List.length_filter_le _ _) q) (k, w) (aget_mem e)
          simp at this
      omega
    have := bound N hz F hf h0 hz4 4 k w e fl
    exact h.b k w e (by omega)
abbrev B_wIn : Ss := (.cons (.ifs (.and (.cmp .le (.dgt (.var 4) (.var 9) (.bin .add (.var 5) (.int 1))) (.var 5)) (.cmp .gt (.dgt (.var 4) (.var 10) (.bin .add (.bin .add (.var 5) (.var 3)) (.int 1))) (.bin .add (.var 5) (.var 3)))) (.cons (.pst (.v 4) (.var 10) (.bin .add (.var 5) (.var 3))) .nil) .nil) .nil)
abbrev B_wSg : Ss := (.cons (.ifs (.cmp .notIn (.bl false) (.fz (.comp (.call "_law_open" (.cons (.var 8) (.cons (.bin .add (.var 5) (.var 11)) .nil))) (.n 11) (.rng1 (.var 3)) .nil))) (.cons (.for_ (.t [(.n 9), (.n 10)]) (.exp (.fz (.lst (.cons (.tup (.cons (.var 6) (.cons (.var 7) .nil))) (.cons (.tup (.cons (.var 7) (.cons (.var 6) .nil))) .nil))))) B_wIn) .nil) .nil) .nil)
theorem oD_int (o : Option Int) (x : Int) : oD D.int o (.int x) = .int (o.getD x) := by cases o <;> rfl
theorem wIn_ok (n : Nat) {hs : Hs} (hl : hs.length ≤ 1000) {A : List (Wo × Int)} (wk : WK hs (A.map (·.1))) {now z : Int} {here there : Wo} (ht : there ∈ hs.map (·.1)) (a0 a1 a2 a6 a7 a8 a11 : SV) :
    evSs (run pg n) B_wIn [a0, a1, a2, .cl (.int z), .ow (wM D.int A), .cl (.int now), a6, a7, a8, .cl (kD here), .cl (kD there), a11] = some (.nx [a0, a1, a2, .cl (.int z), .ow (wM D.int (wput now z A here there)), .cl (.int now), a6, a7, a8, .cl (kD here), .cl (kD there), a11]) ∧ WK hs ((wput now z A here there).map (·.1)) := by
  have isd := isD_w (f := D.int) (T := A) (x := .tm (wM D.int A)) (.tm rfl)
  have d1 := dgt_w (f := D.int) (T := A) (x := .tm (wM D.int A)) (.tm rfl) here (.int (now + 1))
  have d2 := dgt_w (f := D.int) (T := A) (x := .tm (wM D.int A)) (.tm rfl) there (.int (now + z + 1))
  rw [oD_int] at d1 d2
  have p1 := evS_stw (f := D.int) (T := A) (run pg n) (sl := [a0, a1, a2, .cl (.int z), .ow (wM D.int A), .cl (.int now), a6, a7, a8, .cl (kD here), .cl (kD there), a11]) (i := 4) (ke := .var 10) (e := .bin .add (.var 5) (.var 3)) (k := there) (v := now + z) rfl (by simp) (by simp) (wk.len hl)
  have t : tst (evE (run pg n) (.and (.cmp .le (.dgt (.var 4) (.var 9) (.bin .add (.var 5) (.int 1))) (.var 5)) (.cmp .gt (.dgt (.var 4) (.var 10) (.bin .add (.bin .add (.var 5) (.var 3)) (.int 1))) (.bin .add (.var 5) (.var 3)))) [a0, a1, a2, .cl (.int z), .ow (wM D.int A), .cl (.int now), a6, a7, a8, .cl (kD here), .cl (kD there), a11]) = .ok (decide ((aget A here).getD (now + 1) ≤ now) && decide (now + z < (aget A there).getD (now + z + 1))) := by
    simp [isd, d1, d2]
  unfold wput
  rw [evSs_cons, evS_ifs, t]
  by_cases c : (decide ((aget A here).getD (now + 1) ≤ now) && decide (now + z < (aget A there).getD (now + z + 1))) = true
  · rw [c]
    simp only [out_ok, if_true]
    rw [evSs_cons, p1]
    exact ⟨rfl, wk.put ht _⟩
  · rw [Bool.not_eq_true] at c
    rw [c]
    exact ⟨rfl, wk⟩
theorem wSg_ok (n : Nat) {hs : Hs} (hl : hs.length ≤ 1000) {A : List (Wo × Int)} (wk : WK hs (A.map (·.1))) {now z : Int} (hz : 1 ≤ z) (hz4 : z ≤ 4) {s : Sg} (so : SgOk s) (ha : s.a ∈ hs.map (·.1)) (hb : s.b ∈ hs.map (·.1)) (a0 a1 a2 a9 a10 a11 : SV) :
    (∃ a9' a10' a11', evSs (run pg (n + 1)) B_wSg [a0, a1, a2, .cl (.int z), .ow (wM D.int A), .cl (.int now), .cl (kD s.a), .cl (kD s.b), .cl (beatD s.f s.e s.l), a9, a10, a11] = some (.nx [a0, a1, a2, .cl (.int z), .ow (wM D.int (wsg now z A s)), .cl (.int now), .cl (kD s.a), .cl (kD s.b), .cl (beatD s.f s.e s.l), a9', a10', a11'])) ∧ WK hs ((wsg now z A s).map (·.1)) := by
  have cm : compF (tgo (.n 11)) (evCnd (run pg (n + 1)) .nil) (evE (run pg (n + 1)) (.call "_law_open" (.cons (.var 8) (.cons (.bin .add (.var 5) (.var 11)) .nil)))) [a0, a1, a2, .cl (.int z), .ow (wM D.int A), .cl (.int now), .cl (kD s.a), .cl (kD s.b), .cl (beatD s.f s.e s.l), a9, a10, .no] ((List.range z.toNat).map fun i : Nat => D.int (0 + (i : Int))) = .ok (.nw (.lst (((List.range z.toNat).filter fun _ => true).map fun i : Nat => .cl (.bl (openAt s.f s.e s.l (now + i)))))) := by
    refine compF_map (fun i : Nat => D.int (0 + (i : Int))) (fun _ => true) (fun i : Nat => .cl (.bl (openAt s.f s.e s.l (now + i)))) (by rw [List.length_range]; omega) fun i hi => ?_
    have lo : run pg (n + 1) "_law_open" [.cl (beatD s.f s.e s.l), .cl (.int (now + (0 + (i : Int))))] = .ok (.cl (.bl (openAt s.f s.e s.l (now + (0 + (i : Int)))))) := lopen_ok (run pg n) so.e
    rw [Int.zero_add] at lo
    exact ⟨_, tgo_n _ _ _, by simp [evCnd], fun _ => ⟨.cl (.bl (openAt s.f s.e s.l (now + i))), by simp [lo], rfl⟩⟩
  rw [show ((List.range z.toNat).filter fun _ => true) = List.range z.toNat from List.filter_eq_self.mpr (fun _ _ => rfl)] at cm
  have fz : MO.toDL ((List.range z.toNat).map fun i : Nat => MO.cl (.bl (openAt s.f s.e s.l (now + i)))) = ((List.range z.toNat).map fun i : Nat => openAt s.f s.e s.l (now + i)).map .bl := by rw [toDL_map (fun i : Nat => D.bl (openAt s.f s.e s.l (now + i))), List.map_map]; rfl
  have nb := cmpF_notInB false ((List.range z.toNat).map fun i : Nat => openAt s.f s.e s.l (now + i))
  have t : tst (evE (run pg (n + 1)) (.cmp .notIn (.bl false) (.fz (.comp (.call "_law_open" (.cons (.var 8) (.cons (.bin .add (.var 5) (.var 11)) .nil))) (.n 11) (.rng1 (.var 3)) .nil))) [a0, a1, a2, .cl (.int z), .ow (wM D.int A), .cl (.int now), .cl (kD s.a), .cl (kD s.b), .cl (beatD s.f s.e s.l), a9, a10, a11]) = .ok (!((List.range z.toNat).map fun i : Nat => openAt s.f s.e s.l (now + i)).contains false) := by
    simp only [evE_cmp, evE_bl, R.bind_ok, evE_fz, evE_comp, evIt_rng1, evE_var, List.getElem?_cons_succ, List.getElem?_cons_zero, sv_cl, R.of_some, rng1F_int, compI_ds, wipeS, Tg.slots, List.set_cons_succ, List.set_cons_zero]
    rw [show rangeD 0 z.toNat = (List.range z.toNat).map fun i : Nat => D.int (0 + (i : Int)) from rfl, cm]
    simp only [R.bind_ok, fzF_nw, toD_lst, fz, nb, tst_ok]
  have all : (!((List.range z.toNat).map fun i : Nat => openAt s.f s.e s.l (now + i)).contains false) = true ↔ ∀ i, i < z.toNat → openAt s.f s.e s.l (now + i) = true := by
    rw [Bool.not_eq_true', Bool.eq_false_iff, Ne, List.contains_iff_mem, List.mem_map]
    constructor
    · intro h i hi
      cases q : openAt s.f s.e s.l (now + i) with
      | true => rfl
      | false => exact absurd ⟨i, List.mem_range.mpr hi, q⟩ h
    · rintro h ⟨i, hi, q⟩
      rw [h i (List.mem_range.mp hi)] at q
      cases q
  unfold wsg
  rw [evSs_cons, evS_ifs, t]
  by_cases c : ∀ i, i < z.toNat → openAt s.f s.e s.l (now + i) = true
  · rw [if_pos c, all.mpr c]
    obtain ⟨g1, w1⟩ := wIn_ok (n + 1) hl wk (now := now) (z := z) (here := s.a) (there := s.b) hb a0 a1 a2 (.cl (kD s.a)) (.cl (kD s.b)) (.cl (beatD s.f s.e s.l)) a11
    obtain ⟨g2, w2⟩ := wIn_ok (n + 1) hl w1 (now := now) (z := z) (here := s.b) (there := s.a) ha a0 a1 a2 (.cl (kD s.a)) (.cl (kD s.b)) (.cl (beatD s.f s.e s.l)) a11
    refine ⟨⟨.cl (kD s.b), .cl (kD s.a), a11, ?_⟩, w2⟩
    have fl : forL (tgo (.t [.n 9, .n 10])) (evSs (run pg (n + 1)) B_wIn) [.tup [kD s.a, kD s.b], .tup [kD s.b, kD s.a]] [a0, a1, a2, .cl (.int z), .ow (wM D.int A), .cl (.int now), .cl (kD s.a), .cl (kD s.b), .cl (beatD s.f s.e s.l), a9, a10, a11] = some (.nx [a0, a1, a2, .cl (.int z), .ow (wM D.int (wput now z (wput now z A s.a s.b) s.b s.a)), .cl (.int now), .cl (kD s.a), .cl (kD s.b), .cl (beatD s.f s.e s.l), .cl (kD s.b), .cl (kD s.a), a11]) := by
      rw [forL_turn]
      simp only [tgo_t, tgoL_cons, tgo_n, tgoL_nil, List.set_cons_succ, List.set_cons_zero]
      rw [g1]
      simp only [turnF]
      rw [forL_turn]
      simp only [tgo_t, tgoL_cons, tgo_n, tgoL_nil, List.set_cons_succ, List.set_cons_zero]
      rw [g2]
      rfl
    have st : evS (run pg (n + 1)) (.for_ (.t [(.n 9), (.n 10)]) (.exp (.fz (.lst (.cons (.tup (.cons (.var 6) (.cons (.var 7) .nil))) (.cons (.tup (.cons (.var 7) (.cons (.var 6) .nil))) .nil))))) B_wIn) [a0, a1, a2, .cl (.int z), .ow (wM D.int A), .cl (.int now), .cl (kD s.a), .cl (kD s.b), .cl (beatD s.f s.e s.l), a9, a10, a11] = some (.nx [a0, a1, a2, .cl (.int z), .ow (wM D.int (wput now z (wput now z A s.a s.b) s.b s.a)), .cl (.int now), .cl (kD s.a), .cl (kD s.b), .cl (beatD s.f s.e s.l), .cl (kD s.b), .cl (kD s.a), a11]) := by
      rw [evS_for, show evIt (run pg (n + 1)) (.exp (.fz (.lst (.cons (.tup (.cons (.var 6) (.cons (.var 7) .nil))) (.cons (.tup (.cons (.var 7) (.cons (.var 6) .nil))) .nil))))) [a0, a1, a2, .cl (.int z), .ow (wM D.int A), .cl (.int now), .cl (kD s.a), .cl (kD s.b), .cl (beatD s.f s.e s.l), a9, a10, a11] = .ok (.ds [.tup [kD s.a, kD s.b], .tup [kD s.b, kD s.a]]) from by simp]
      simp only [out_ok, forI_ds]
      exact fl
    simp only [out_ok, if_true]
    rw [evSs_cons, st]
    rfl
  · rw [if_neg c]
    have : (!((List.range z.toNat).map fun i : Nat => openAt s.f s.e s.l (now + i)).contains false) = false := by
      rw [Bool.eq_false_iff]; exact fun q => c (all.mp q)
    rw [this]
    exact ⟨⟨a9, a10, a11, rfl⟩, wk⟩
theorem r_walked (n : Nat) {hs : Hs} {ss : List Sg} (N : NetOk hs ss) {house : Wo} (hh : house ∈ hs.map (·.1)) {turn z : Int} (hz : 1 ≤ z) (hz4 : z ≤ 4) (h0 : 0 ≤ turn) (h13 : turn ≤ 12) : ∃ A : List (Wo × Int), Wk (spF hs ss house turn z).T z (turn + 60) A ∧ run pg (n + 2) "_law_walked" [.cl (.lst (ss.map Sg.d)), .cl (kD house), .cl (.int turn), .cl (.int z)] = .ok (.cl (wD D.int A)) := by
  have F := fin_ok N hh (turn := turn) hz
  have key : ∃ A : List (Wo × Int), Wk (spF hs ss house turn z).T z (turn + 60) A ∧ evF (run pg (n + 1)) 4 12 b_law_walked [.cl (.lst (ss.map Sg.d)), .cl (kD house), .cl (.int turn), .cl (.int z)] = .ok (.cl (wD D.int A)) := by
    unfold evF
    rw [if_pos ⟨rfl, rfl⟩, retR_pure rfl]
    have dk : distK [kD house] = true := by simp [distK, isK]
    show ∃ A : List (Wo × Int), _ ∧ retR [] (evSs (run pg (n + 1)) (.cons (.asg 4 (.disp (.cons (.var 1) (.var 2) .nil))) (.cons (.for_ (.n 5) (.rng2 (.var 2) (.bin .add (.var 2) (.int 60))) (.cons (.for_ (.t [(.n 6), (.n 7), (.n 8)]) (.exp (.var 0)) B_wSg) .nil)) (.cons (.frz 4) (.cons (.ret (.var 4)) .nil)))) _) = _
    rw [evSs_cons, show evS (run pg (n + 1)) (.asg 4 _) ([SV.cl (.lst (ss.map Sg.d)), .cl (kD house), .cl (.int turn), .cl (.int z)] ++ List.replicate (12 - 4) .no) = some (.nx [.cl (.lst (ss.map Sg.d)), .cl (kD house), .cl (.int turn), .cl (.int z), .ow (wM D.int [(house, turn)]), .no, .no, .no, .no, .no, .no, .no]) from by simp [dispF, dk]; rfl, seqO_nx]
    refine for_rangeO (lo := turn) (n := 60) (fun o => ∃ A : List (Wo × Int), Wk (spF hs ss house turn z).T z (turn + 60) A ∧ retR [] o = .ok (.cl (wD D.int A))) (fun i sl => ∃ (A : List (Wo × Int)) (a5 a6 a7 a8 a9 a10 a11 : SV), sl = [.cl (.lst (ss.map Sg.d)), .cl (kD house), .cl (.int turn), .cl (.int z), .ow (wM D.int A), a5, a6, a7, a8, a9, a10, a11] ∧ WK hs (A.map (·.1)) ∧ Wk (spF hs ss house turn z).T z (turn + i) A) ?_ ⟨[(house, turn)], _, _, _, _, _, _, _, rfl, ⟨by simp, fun k hk => by simp at hk; subst hk; exact hh⟩, ⟨fun k v hk => ?_, fun k w hk hw => ?_⟩⟩ ?_ ?_
    · have : (turn + 60 - turn).toNat = 60 := by omega
      simp [this]
    · simp only [aget] at hk
      split at hk
      · rename_i e; cases hk; subst e; exact ⟨turn, F.ho, Int.le_refl _⟩
      · cases hk
    · by_cases e : k = house
      · subst e
        rw [F.ho] at hk; cases hk
        simp [aget]
      · obtain ⟨n, q, p, s, u, b1, b3, b4, b5, b6, b7, b8, b9⟩ := F.bk k w hk e
        have so := N.sg s (List.mem_of_getElem? b3)
        have := nxO_ge so.e so.l so.le hz b7
        have := F.lo p u b6
        simp only [Int.ofNat_zero, Int.add_zero] at hw
        omega
    · rintro i hi sl ⟨A, a5, a6, a7, a8, a9, a10, a11, rfl, wk, W⟩
      refine ⟨_, tgo_n _ _ _, ?_⟩
      simp only [List.set_cons_succ, List.set_cons_zero]
      have nx := wnext N hz F (now := turn + i) (by omega) W
      obtain ⟨s', f1, ⟨x6, x7, x8, x9, x10, x11, f2⟩, f3⟩ := forL_fold (g := tgo (.t [.n 6, .n 7, .n 8])) (b := evSs (run pg (n + 1)) B_wSg) (fun (A : List (Wo × Int)) sl => (∃ a6 a7 a8 a9 a10 a11 : SV, sl = [.cl (.lst (ss.map Sg.d)), .cl (kD house), .cl (.int turn), .cl (.int z), .ow (wM D.int A), .cl (.int (turn + (i : Int))), a6, a7, a8, a9, a10, a11]) ∧ WK hs (A.map (·.1))) (wsg (turn + i) z) Sg.d (xs := ss) (a := A) (sl := [.cl (.lst (ss.map Sg.d)), .cl (kD house), .cl (.int turn), .cl (.int z), .ow (wM D.int A), .cl (.int (turn + (i : Int))), a6, a7, a8, a9, a10, a11]) (by
        rintro s hs_ A sl ⟨⟨a6, a7, a8, a9, a10, a11, rfl⟩, wk⟩
        obtain ⟨⟨a9', a10', a11', r⟩, wk'⟩ := wSg_ok n N.hl wk (now := turn + i) hz hz4 (N.sg s hs_) (N.a s hs_) (N.b s hs_) (.cl (.lst (ss.map Sg.d))) (.cl (kD house)) (.cl (.int turn)) a9 a10 a11
        refine ⟨[.cl (.lst (ss.map Sg.d)), .cl (kD house), .cl (.int turn), .cl (.int z), .ow (wM D.int A), .cl (.int (turn + (i : Int))), .cl (kD s.a), .cl (kD s.b), .cl (beatD s.f s.e s.l), a9, a10, a11], by simp [Sg.d], _, r, ⟨_, _, _, _, _, _, rfl⟩, wk'⟩) ⟨⟨_, _, _, _, _, _, rfl⟩, wk⟩
      refine ⟨s', ?_, ss.foldl (wsg (turn + i) z) A, _, _, _, _, _, _, _, f2, f3, by rw [show turn + ((i + 1 : Nat) : Int) = turn + i + 1 by omega]; exact nx⟩
      rw [evSs_cons, evS_for, show evIt (run pg (n + 1)) (.exp (.var 0)) [.cl (.lst (ss.map Sg.d)), .cl (kD house), .cl (.int turn), .cl (.int z), .ow (wM D.int A), .cl (.int (turn + (i : Int))), a6, a7, a8, a9, a10, a11] = .ok (.ds (ss.map Sg.d)) from by simp]
      simp only [out_ok, forI_ds]
      rw [f1]
      rfl
    · rintro s' ⟨A, a5, a6, a7, a8, a9, a10, a11, rfl, wk, W⟩
      exact ⟨A, W, by simp [frzF, wM_toD]⟩
  exact key
abbrev B_lb : Ss := (.cons (.asg 9 (.sub (.var 1) (.call "_law_by" (.cons (.var 0) (.cons (.bin .add (.int 66) (.bin .mul (.int 3) (.var 5))) (.cons (.blt .len (.cons (.var 1) .nil)) .nil)))))) (.cons (.asg 10 (.call "_law_by" (.cons (.var 0) (.cons (.bin .add (.int 67) (.bin .mul (.int 3) (.var 5))) (.cons (.int 13) .nil))))) (.cons (.asg 11 (.bin .add (.int 1) (.call "_law_by" (.cons (.var 0) (.cons (.bin .add (.int 68) (.bin .mul (.int 3) (.var 5))) (.cons (.int 4) .nil)))))) (.cons (.asg 12 (.call "_law_walked" (.cons (.var 2) (.cons (.var 9) (.cons (.var 10) (.cons (.var 11) .nil)))))) (.cons (.asg 13 (.call "comings" (.cons (.var 3) (.cons (.var 9) (.cons (.var 10) (.cons (.var 11) .nil)))))) (.cons (.ifs (.or (.not (.isi .dict (.var 13))) (.cmp .ne (.fz (.blt .list1 (.cons (.var 13) .nil))) (.fz (.comp (.var 4) (.n 4) (.exp (.var 1)) (.cons (.cmp .in_ (.var 4) (.var 12)) .nil))))) (.cons (.ret (.bl false)) .nil) .nil) (.cons (.fork (.n 4) (.var 13) (.cons (.ifs (.or (.not (.isi .int (.sub (.var 13) (.var 4)))) (.or (.isi .bool (.sub (.var 13) (.var 4))) (.cmp .ne (.sub (.var 13) (.var 4)) (.sub (.var 12) (.var 4))))) (.cons (.ret (.bl false)) .nil) .nil) .nil)) .nil)))))))
theorem lb_ok (ns : List Int) (hl : ns.length ≤ 63) {W : List Wo} (W0 : NmsOk W) {hs : Hs} {ss : List Sg} (N : NetOk hs ss) (hk : hs.map (·.1) = W) (w1 : 1 ≤ W.length) (w5 : W.length ≤ 5) (hf : ∀ s ∈ ss, s.f ≤ 11 ∧ s.e ≤ 8) {j : Int} (j0 : 0 ≤ j) (j1 : j ≤ 2) (a4 a6 a7 a8 a9 a10 a11 a12 a13 : SV) :
    ∃ b4 b9 b10 b11 b12 b13, evSs (run pg 21) B_lb [.cl (scr ns), .cl (.lst (W.map kD)), .cl (.lst (ss.map Sg.d)), .ow (netM hs ss), a4, .cl (.int j), a6, a7, a8, a9, a10, a11, a12, a13] = some (.nx [.cl (scr ns), .cl (.lst (W.map kD)), .cl (.lst (ss.map Sg.d)), .ow (netM hs ss), b4, .cl (.int j), a6, a7, a8, b9, b10, b11, b12, b13]) := by
  have d := dr 19
  have m3 := bopI_mul (i := 3) (j := j) (mul_ok64 (by decide) (by decide) (by omega) (by omega))
  have b1 := d.by_ ns (66 + 3 * j) (W.length : Int) hl (by omega) (by omega) (by omega)
  obtain ⟨h, hh, ih⟩ := idxW (W := W) (lawBy_nn (ns := ns) (k := 66 + 3 * j) (many := (W.length : Int)) (by omega)) (lawBy_lt (by omega))
  generalize lawBy ns (66 + 3 * j) (W.length : Int) = o at *
  have t0 := lawBy_nn (ns := ns) (k := 67 + 3 * j) (many := 13) (by omega)
  have t1 := lawBy_lt (ns := ns) (k := 67 + 3 * j) (many := 13) (by omega)
  have b2 := d.by_ ns (67 + 3 * j) 13 hl (by omega) (by omega) (by omega)
  generalize lawBy ns (67 + 3 * j) 13 = t at *
  have z0 := lawBy_nn (ns := ns) (k := 68 + 3 * j) (many := 4) (by omega)
  have z1 := lawBy_lt (ns := ns) (k := 68 + 3 * j) (many := 4) (by omega)
  have b3 := d.by_ ns (68 + 3 * j) 4 hl (by omega) (by omega) (by omega)
  generalize lawBy ns (68 + 3 * j) 4 = z' at *
  have hz : 1 ≤ 1 + z' := by omega
  have hz4 : 1 + z' ≤ 4 := by omega
  rw [← hk] at hh
  have hlen : hs.length = W.length := by rw [← hk, List.length_map]
  obtain ⟨A, wkA, rA⟩ := r_walked 19 N hh hz hz4 t0 (by omega)
  have rC := r_comings 17 N hh t (1 + z')
  have eqA := walk_all N hh hz hz4 t0 (by omega) hf wkA
  have ck := cm_keys hs (spF hs ss h t (1 + z')).T
  have cg := fun k => cm_get2 N hh (t := t) hz k
  generalize hz' : 1 + z' = z at *
  rw [evSs_cons, show evS (run pg 21) (.asg 9 _) [.cl (scr ns), .cl (.lst (W.map kD)), .cl (.lst (ss.map Sg.d)), .ow (netM hs ss), a4, .cl (.int j), a6, a7, a8, a9, a10, a11, a12, a13] = some (.nx [.cl (scr ns), .cl (.lst (W.map kD)), .cl (.lst (ss.map Sg.d)), .ow (netM hs ss), a4, .cl (.int j), a6, a7, a8, .cl (kD h), a10, a11, a12, a13]) from by simp [m3, b1, ih], seqO_nx]
  rw [evSs_cons, show evS (run pg 21) (.asg 10 _) [.cl (scr ns), .cl (.lst (W.map kD)), .cl (.lst (ss.map Sg.d)), .ow (netM hs ss), a4, .cl (.int j), a6, a7, a8, .cl (kD h), a10, a11, a12, a13] = some (.nx [.cl (scr ns), .cl (.lst (W.map kD)), .cl (.lst (ss.map Sg.d)), .ow (netM hs ss), a4, .cl (.int j), a6, a7, a8, .cl (kD h), .cl (.int t), a11, a12, a13]) from by simp [m3, b2], seqO_nx]
  rw [evSs_cons, show evS (run pg 21) (.asg 11 _) [.cl (scr ns), .cl (.lst (W.map kD)), .cl (.lst (ss.map Sg.d)), .ow (netM hs ss), a4, .cl (.int j), a6, a7, a8, .cl (kD h), .cl (.int t), a11, a12, a13] = some (.nx [.cl (scr ns), .cl (.lst (W.map kD)), .cl (.lst (ss.map Sg.d)), .ow (netM hs ss), a4, .cl (.int j), a6, a7, a8, .cl (kD h), .cl (.int t), .cl (.int z), a12, a13]) from by simp [m3, b3, hz'], seqO_nx]
  rw [evSs_cons, show evS (run pg 21) (.asg 12 _) [.cl (scr ns), .cl (.lst (W.map kD)), .cl (.lst (ss.map Sg.d)), .ow (netM hs ss), a4, .cl (.int j), a6, a7, a8, .cl (kD h), .cl (.int t), .cl (.int z), a12, a13] = some (.nx [.cl (scr ns), .cl (.lst (W.map kD)), .cl (.lst (ss.map Sg.d)), .ow (netM hs ss), a4, .cl (.int j), a6, a7, a8, .cl (kD h), .cl (.int t), .cl (.int z), .cl (wD D.int A), a13]) from by simp [rA], seqO_nx]
  rw [evSs_cons, show evS (run pg 21) (.asg 13 _) [.cl (scr ns), .cl (.lst (W.map kD)), .cl (.lst (ss.map Sg.d)), .ow (netM hs ss), a4, .cl (.int j), a6, a7, a8, .cl (kD h), .cl (.int t), .cl (.int z), .cl (wD D.int A), a13] = some (.nx [.cl (scr ns), .cl (.lst (W.map kD)), .cl (.lst (ss.map Sg.d)), .ow (netM hs ss), a4, .cl (.int j), a6, a7, a8, .cl (kD h), .cl (.int t), .cl (.int z), .cl (wD D.int A), .cl (wD D.int (cmF hs (spF hs ss h t z).T))]) from by simp [rC], seqO_nx]
  generalize hT : cmF hs (spF hs ss h t z).T = T at *
  have eTA : ∀ k, aget A k = aget T k := fun k => (eqA k).trans (cg k).symm
  have tk : T.map (·.1) = W.filter fun k => (aget A k).isSome := by
    rw [ck, hk]
    congr 1
    funext k
    rw [eqA]
  have knd : (T.map (·.1)).Nodup := by rw [tk]; exact W0.nd.filter _
  have lw := list_wD (T := T)
  have okT : ∀ w ∈ T.map (·.1), OkS_ w := fun w hw => by rw [tk] at hw; exact nameP_ok (W0.nm w (List.mem_filter.mp hw).1)
  have ne := cmpF_nrefl (pl_ws okT)
  have cm : compF (tgo (.n 4)) (evCnd (run pg 21) (.cons (.cmp .in_ (.var 4) (.var 12)) .nil)) (evE (run pg 21) (.var 4)) [.cl (scr ns), .cl (.lst (W.map kD)), .cl (.lst (ss.map Sg.d)), .ow (netM hs ss), .no, .cl (.int j), a6, a7, a8, .cl (kD h), .cl (.int t), .cl (.int z), .cl (wD D.int A), .cl (wD D.int T)] (W.map kD) = .ok (.nw (.lst ((W.filter fun k => (aget A k).isSome).map fun k => .cl (kD k)))) := by
    refine compF_map kD (fun k => (aget A k).isSome) (fun k => .cl (kD k)) (by omega) fun k hk => ?_
    have i := in_w (f := D.int) (T := A) (x := .cl (wD D.int A)) (.cl rfl) k
    exact ⟨_, tgo_n _ _ _, by simp [evCnd, i], fun _ => ⟨.cl (kD k), by simp, rfl⟩⟩
  rw [← tk] at cm
  have fz : MO.toDL ((T.map (·.1)).map fun k => MO.cl (kD k)) = (T.map (·.1)).map kD := toDL_map kD _
  have c1 : evE (run pg 21) (.fz (.blt .list1 (.cons (.var 13) .nil))) [.cl (scr ns), .cl (.lst (W.map kD)), .cl (.lst (ss.map Sg.d)), .ow (netM hs ss), a4, .cl (.int j), a6, a7, a8, .cl (kD h), .cl (.int t), .cl (.int z), .cl (wD D.int A), .cl (wD D.int T)] = .ok (.cl (wsD (T.map (·.1)))) := by
    simp only [evE_fz, evE_blt, evEs_cons, evEs_nil, evE_var, List.getElem?_cons_succ, List.getElem?_cons_zero, sv_cl, R.of_some, R.bind_ok, lw, fzF_nw, toD_lst, MO.toDL_cl]
    rfl
  have c2 : evE (run pg 21) (.fz (.comp (.var 4) (.n 4) (.exp (.var 1)) (.cons (.cmp .in_ (.var 4) (.var 12)) .nil))) [.cl (scr ns), .cl (.lst (W.map kD)), .cl (.lst (ss.map Sg.d)), .ow (netM hs ss), a4, .cl (.int j), a6, a7, a8, .cl (kD h), .cl (.int t), .cl (.int z), .cl (wD D.int A), .cl (wD D.int T)] = .ok (.cl (wsD (T.map (·.1)))) := by
    simp only [evE_fz, evE_comp, evIt_exp, evE_var, List.getElem?_cons_succ, List.getElem?_cons_zero, sv_cl, R.of_some, R.bind_ok, itF_lst, compI_ds, wipeS, Tg.slots, List.set_cons_succ, List.set_cons_zero]
    rw [cm]
    simp only [R.bind_ok, fzF_nw, toD_lst, fz]
    rfl
  rw [evSs_cons, show evS (run pg 21) (.ifs _ _ _) [.cl (scr ns), .cl (.lst (W.map kD)), .cl (.lst (ss.map Sg.d)), .ow (netM hs ss), a4, .cl (.int j), a6, a7, a8, .cl (kD h), .cl (.int t), .cl (.int z), .cl (wD D.int A), .cl (wD D.int T)] = some (.nx [.cl (scr ns), .cl (.lst (W.map kD)), .cl (.lst (ss.map Sg.d)), .ow (netM hs ss), a4, .cl (.int j), a6, a7, a8, .cl (kD h), .cl (.int t), .cl (.int z), .cl (wD D.int A), .cl (wD D.int T)]) from by
    rw [evS_ifs, evE_or, evE_cmp, c1, c2]
    simp [D.ty, isTy, Ty.nm, wD, ne], seqO_nx]
  obtain ⟨s', f1, x, rfl⟩ := forL_all (g := tgo (.n 4)) (b := evSs (run pg 21) (.cons (.ifs (.or (.not (.isi .int (.sub (.var 13) (.var 4)))) (.or (.isi .bool (.sub (.var 13) (.var 4))) (.cmp .ne (.sub (.var 13) (.var 4)) (.sub (.var 12) (.var 4))))) (.cons (.ret (.bl false)) .nil) .nil) .nil)) (fun sl => ∃ x : SV, sl = [.cl (scr ns), .cl (.lst (W.map kD)), .cl (.lst (ss.map Sg.d)), .ow (netM hs ss), x, .cl (.int j), a6, a7, a8, .cl (kD h), .cl (.int t), .cl (.int z), .cl (wD D.int A), .cl (wD D.int T)]) (ds := T.map fun p => kD p.1) (sl := [.cl (scr ns), .cl (.lst (W.map kD)), .cl (.lst (ss.map Sg.d)), .ow (netM hs ss), a4, .cl (.int j), a6, a7, a8, .cl (kD h), .cl (.int t), .cl (.int z), .cl (wD D.int A), .cl (wD D.int T)]) (by
    rintro dd hd sl ⟨x, rfl⟩
    obtain ⟨p, hp, rfl⟩ := List.mem_map.mp hd
    refine ⟨_, tgo_n _ _ _, ?_⟩
    have g1 := aget_of knd (show (p.1, p.2) ∈ T from hp)
    have i1 := idx_w (f := D.int) (T := T) (x := .cl (wD D.int T)) (.cl rfl) g1
    have i2 := idx_w (f := D.int) (T := A) (x := .cl (wD D.int A)) (.cl rfl) ((eTA p.1).trans g1)
    exact ⟨[.cl (scr ns), .cl (.lst (W.map kD)), .cl (.lst (ss.map Sg.d)), .ow (netM hs ss), .cl (kD p.1), .cl (.int j), a6, a7, a8, .cl (kD h), .cl (.int t), .cl (.int z), .cl (wD D.int A), .cl (wD D.int T)], by simp [i1, i2, D.ty, isTy, Ty.nm], _, rfl⟩) ⟨_, rfl⟩
  refine ⟨x, .cl (kD h), .cl (.int t), .cl (.int z), .cl (wD D.int A), .cl (wD D.int T), ?_⟩
  rw [evSs_cons, evS_fork]
  simp only [evE_var, List.getElem?_cons_succ, List.getElem?_cons_zero, sv_cl, R.of_some, out_ok, keys_cl]
  rw [f1]
  rfl
theorem law_true (ns : List Int) (hl : ns.length ≤ 63) : run pg 22 "law" [.cl (scr ns)] = .ok (.cl (.bl true)) := by
  show evF (run pg 21) 1 14 b_law [.cl (scr ns)] = .ok (.cl (.bl true))
  refine evF_rt rfl ?_
  have d := dr 19
  have v0 := lawBy_nn (ns := ns) (k := 20) (many := 4) (by omega)
  have v1 := lawBy_lt (ns := ns) (k := 20) (many := 4) (by omega)
  have b20 := d.by_ ns 20 4 hl (by omega) (by omega) (by omega)
  obtain ⟨W, W0, wl, rn⟩ := r_names 18 hl (k := 0) (by omega) (by omega) (many := 2 + lawBy ns 20 4) (by omega) (by omega)
  obtain ⟨S, s1, s3, rs⟩ := r_sights 18 hl (k := 21) (by omega) (by omega) W0 (by omega) (by omega)
  have b64 := d.by_ ns 64 2 hl (by omega) (by omega) (by omega)
  have b65 := d.by_ ns 65 3 hl (by omega) (by omega) (by omega)
  have r0 := lawBy_nn (ns := ns) (k := 65) (many := 3) (by omega)
  unfold b_law
  rw [evSs_cons, show evS (run pg 21) (.asg 1 _) ([SV.cl (scr ns)] ++ List.replicate (14 - 1) .no) = some (.nx [.cl (scr ns), .cl (.lst (W.map kD)), .no, .no, .no, .no, .no, .no, .no, .no, .no, .no, .no, .no]) from by simp [b20, rn], seqO_nx]
  rw [evSs_cons, show evS (run pg 21) (.asg 2 _) [SV.cl (scr ns), .cl (.lst (W.map kD)), .no, .no, .no, .no, .no, .no, .no, .no, .no, .no, .no, .no] = some (.nx [.cl (scr ns), .cl (.lst (W.map kD)), .cl (.lst (S.map Sg.d)), .no, .no, .no, .no, .no, .no, .no, .no, .no, .no, .no]) from by simp [rs], seqO_nx]
  rw [evSs_cons, show evS (run pg 21) (.asg 3 _) [SV.cl (scr ns), .cl (.lst (W.map kD)), .cl (.lst (S.map Sg.d)), .no, .no, .no, .no, .no, .no, .no, .no, .no, .no, .no] = some (.nx [.cl (scr ns), .cl (.lst (W.map kD)), .cl (.lst (S.map Sg.d)), .ow (netM [] []), .no, .no, .no, .no, .no, .no, .no, .no, .no, .no]) from by rw [evS_asg, netB.mkN 20]; simp, seqO_nx]
  rw [evSs_cons, evS_for, show evIt (run pg 21) (.exp (.var 1)) [SV.cl (scr ns), .cl (.lst (W.map kD)), .cl (.lst (S.map Sg.d)), .ow (netM [] []), .no, .no, .no, .no, .no, .no, .no, .no, .no, .no] = .ok (.ds (W.map kD)) from by simp]
  simp only [out_ok, forI_ds]
  obtain ⟨sl1, k1, ⟨X, y, rfl⟩, k3⟩ := houses_for netB 19 (c := run pg 21) rfl W0 (by omega) (b := fun _ => decide (lawBy ns 64 2 = 1)) (r := fun _ => lawBy ns 65 3) (fun _ _ => r0) (t := .n 4) (i := 3) (es := (.cons (.var 4) (.cons (.cmp .eq (.call "_law_by" (.cons (.var 0) (.cons (.int 64) (.cons (.int 2) .nil)))) (.int 1)) (.cons (.call "_law_by" (.cons (.var 0) (.cons (.int 65) (.cons (.int 3) .nil)))) .nil)))) (fun sl => ∃ X y : SV, sl = [.cl (scr ns), .cl (.lst (W.map kD)), .cl (.lst (S.map Sg.d)), X, y, .no, .no, .no, .no, .no, .no, .no, .no, .no]) (dd := kD) (by
    rintro w hw sl M ⟨X, y, rfl⟩ hM
    refine ⟨_, tgo_n _ _ _, hM, ?_, fun M' => ⟨_, _, rfl⟩⟩
    simp [b64, b65]) ⟨_, _, rfl⟩ (sl := [SV.cl (scr ns), .cl (.lst (W.map kD)), .cl (.lst (S.map Sg.d)), .ow (netM [] []), .no, .no, .no, .no, .no, .no, .no, .no, .no, .no]) rfl
  have kX := Option.some.inj k3
  subst kX
  rw [k1, seqO_nx]
  generalize hhs : (W.map fun w => (w, (decide (lawBy ns 64 2 = 1), lawBy ns 65 3))) = hs at *
  have hk : hs.map (·.1) = W := by rw [← hhs, List.map_map]; exact List.map_id W
  have hlen : hs.length = W.length := by rw [← hhs, List.length_map]
  have sIn : ∀ s ∈ S, SgOk s ∧ s.a ∈ hs.map (·.1) ∧ s.b ∈ hs.map (·.1) := fun s hs_ => by
    have := s1 s hs_
    rw [hk]
    exact ⟨this.ok, this.a, this.b⟩
  rw [evSs_cons, evS_for, show evIt (run pg 21) (.exp (.var 2)) [SV.cl (scr ns), .cl (.lst (W.map kD)), .cl (.lst (S.map Sg.d)), .ow (netM hs []), y, .no, .no, .no, .no, .no, .no, .no, .no, .no] = .ok (.ds (S.map Sg.d)) from by simp]
  simp only [out_ok, forI_ds]
  obtain ⟨sl2, l1, ⟨X, a6, a7, a8, rfl⟩, l3⟩ := sights_for netB 19 (c := run pg 21) rfl (hs := hs) (S := S) (by omega) sIn (t := .t [.n 6, .n 7, .n 8]) (i := 3) (es := (.cons (.var 6) (.cons (.var 7) (.cons (.var 8) .nil)))) (fun sl => ∃ X a b c : SV, sl = [.cl (scr ns), .cl (.lst (W.map kD)), .cl (.lst (S.map Sg.d)), X, y, .no, a, b, c, .no, .no, .no, .no, .no]) (by
    rintro s hs_ sl M ⟨X, a, b, c, rfl⟩ hM
    refine ⟨[.cl (scr ns), .cl (.lst (W.map kD)), .cl (.lst (S.map Sg.d)), X, y, .no, .cl (kD s.a), .cl (kD s.b), .cl (beatD s.f s.e s.l), .no, .no, .no, .no, .no], by simp [Sg.d], hM, by simp, fun M' => ⟨_, _, _, _, rfl⟩⟩) (S0 := []) (by simp) ⟨_, _, _, _, rfl⟩ (sl := [SV.cl (scr ns), .cl (.lst (W.map kD)), .cl (.lst (S.map Sg.d)), .ow (netM hs []), y, .no, .no, .no, .no, .no, .no, .no, .no, .no]) rfl
  have lX := Option.some.inj l3
  rw [List.nil_append] at lX
  subst lX
  rw [l1, seqO_nx]
  have N : NetOk hs S := ⟨by rw [hk]; exact W0.nd, fun k hk' => nameP_ok (W0.nm k (by rw [hk] at hk'; exact hk')), by omega, by omega, fun s h => (sIn s h).1, fun s h => (sIn s h).2.1, fun s h => (sIn s h).2.2⟩
  refine for_rangeO (lo := 0) (n := 2) (fun o => retR [] o = .ok (.cl (.bl true))) (fun i sl => ∃ (a4 a5 a9 a10 a11 a12 a13 : SV), sl = [.cl (scr ns), .cl (.lst (W.map kD)), .cl (.lst (S.map Sg.d)), .ow (netM hs S), a4, a5, a6, a7, a8, a9, a10, a11, a12, a13]) (by simp) ⟨_, _, _, _, _, _, _, rfl⟩ ?_ ?_
  · rintro i hi sl ⟨a4, a5, a9, a10, a11, a12, a13, rfl⟩
    refine ⟨_, tgo_n _ _ _, ?_⟩
    obtain ⟨b4, b9, b10, b11, b12, b13, r⟩ := lb_ok ns hl W0 N hk (by omega) (by omega) (fun s h => ⟨(s1 s h).f, (s1 s h).e⟩) (j := 0 + (i : Int)) (by omega) (by omega) a4 a6 a7 a8 a9 a10 a11 a12 a13
    exact ⟨_, r, _, _, _, _, _, _, _, rfl⟩
  · rintro s' ⟨a4, a5, a9, a10, a11, a12, a13, rfl⟩
    simp
end Lw
open PySem PySem.W PySem.Calls PyProof.Rows
set_option maxRecDepth 100000 in
set_option maxHeartbeats 0 in
theorem PySem.Challenge.cw_moonrelay_k33_comings_walked_holds : PySem.Challenge.rw_moonrelay_k33_comings_walked.Holds := by
  w_on; o_law
  refine HandSHeadRun.head_any (r := OpenLaw.row PySem.Challenge.rw_moonrelay_k33_comings_walked) (q := view (OpenLaw.row PySem.Challenge.rw_moonrelay_k33_comings_walked).prog [28]) (H := Lw.hk) (ob := Lw.ob) (M := 40000) (loose := Lw.names) (d := HandSHeadRun.topDef (OpenLaw.row PySem.Challenge.rw_moonrelay_k33_comings_walked).prog 28) (kwd := []) Lw.ob_eq
    (by kernel_rfl) (fun s => by kernel_rfl) Lw.runT (by kernel_rfl) (by kernel_rfl) (by kernel_rfl) (by rfl) (by first | assumption | decide +kernel) (by decide +kernel) ⟨rfl, rfl, rfl, rfl, rfl, by decide +kernel⟩ ?hw ?hc
  case hw => w_witness2
  case hc =>
    refine L2.walk_ofE (l := PySem.Challenge.rw_moonrelay_k33_comings_walked) (n := 63) (k := 44) (x := "_law_script") (CX := L2.CX0) rfl (by decide) (by kernel_rfl) ⟨rfl, by decide, by decide⟩ ?F (fun _ _ _ _ z => z)
    intro w mg fa h Y G hmg0
    obtain ⟨K, KX, c, cx⟩ := Y
    have hmg : mg ("law" : PySem.Str) = some (.ref fa) := by
      have e : (HandSHeadRun.topDef (OpenLaw.row PySem.Challenge.rw_moonrelay_k33_comings_walked).prog 28).name = ("law" : PySem.Str) := by kernel_rfl
      rw [← e]
      exact hmg0
    obtain ⟨fd, sp, h1, h2, h3⟩ := Mo.law_facts (p := Lw.pg) (n := 22) (x := "_law_script") (P := (PySem.Challenge.rw_moonrelay_k33_comings_walked).prog) (w := w) Lw.chk Lw.bnd rfl rfl rfl rfl KX G hmg c cx Lw.law_true
    exact ⟨K, fd, sp, KX, h1, fun H a ns hl _ hS => h2 H a ns hl hS, h3⟩
