import PyProof.Rows.All
import Wide.All
import OpenK.AllK
import Wide.FinOn
import HandS.ForMost
import HandS.ForExc
import HandS.Walk
import HandS.ExcIs
import HandS.TupMul
import HandS.Style
import HandS.StrMore
import HandS.Wide
import HandS.WideBits
import HandS.IsInst
import HandS.TupAny
import HandS.Deep
import HandS.More
import HandS.Codes
import HandS.SortOrd
import HandS.DictComp
import HandS.Rev
import HandS.Zip
import KE.GoesEnum
import KE.GoesMore
import HandS.Iter
import HandS.ExcOwn
import HandS.HotCalls
import PySem.Challenge.RW_endwithin_k01_read_integer
set_option Elab.async false
set_option linter.all false
set_option maxRecDepth 100000
set_option maxHeartbeats 4000000
namespace Ew
open PySem PySem.Spec PyProof.Rows L2

/-! ### plain data, objects that may change, values of a mirror -/
inductive D where
  | non | bl (b : Bool) | int (i : Int) | str (s : Str) | tup (ds : List D) | lst (ds : List D) | dct (es : List (Key × D)) | scr (ns : List Int) | ty (n : String) | opq
/-- a datum, or an object of our own by its number -/
inductive NV where
  | d (x : D) | o (n : Nat)
/-- objects that hold objects -/
inductive NX where
  | tup (xs : List NV) | lst (xs : List NV) | dct (es : List (Key × NV)) | ins (c : Str) (fs : List (Str × NV))
inductive AO where
  | lst (ds : List D) | dct (es : List (Key × D)) | fz (d : D) | nx (x : NX)
inductive AV where
  | dat (d : D) | own (n : Nat) | new (o : AO) | nst (is : List Nat)
abbrev AE := List (Option AV)
abbrev SS := List AO
structure Exn where
  cls : Str
  fld : List (Str × D)
def AO.toD : AO → D
  | .lst ds => .lst ds
  | .dct es => .dct es
  | .fz d => d
  | .nx _ => .opq
def AO.live : AO → Bool
  | .fz _ => false
  | .nx _ => false
  | _ => true
def AO.sp : AO → Bool
  | .fz _ => false
  | _ => true
theorem AO.live_sp : ∀ {o : AO}, o.live = true → o.sp = true
  | .lst _, _ => rfl
  | .dct _, _ => rfl

/-! ### what stands for a datum in a heap; P: what never changes again -/
/-- a list that only is read -/
def SqS (K : PySem.W.Frag) (P : Addr → Prop) (H : Hp) (a : Addr) (xs : List V) : Prop :=
  ((∃ o, H a = some (.frz o (.lst xs))) ∨ (P a ∧ H a = some (.lst xs))) ∨
    ∃ (o : Obj) (its : Array Value) (n : Nat), K.lookup a = some o ∧ o.cls = .type "list" ∧ o.dict = none ∧ o.data = .seq its n ∧ its.size ≤ sizeLine ∧ Vals xs its.toList
theorem SqS.l {K : PySem.W.Frag} {P : Addr → Prop} {H : Hp} {a : Addr} {xs : List V} (h : SqS K P H a xs) : SqL K H a xs := by
  rcases h with (h | h) | h
  · exact .inl (.inr h)
  · exact .inl (.inl h.2)
  · exact .inr h
theorem SqS.of {K : PySem.W.Frag} {P : Addr → Prop} {H : Hp} {a : Addr} {xs : List V} (h : SqL K H a xs) (c : P a) : SqS K P H a xs := by
  rcases h with (h | h) | h
  · exact .inl (.inr ⟨c, h⟩)
  · exact .inl (.inl h)
  · exact .inr h
mutual
inductive Rep (K : PySem.W.Frag) (P : Addr → Prop) (H : Hp) : V → D → Prop
  | non : Rep K P H .non .non
  | bl (b : Bool) : Rep K P H (.bl b) (.bl b)
  | int (i : Int) : Rep K P H (.int i) (.int i)
  | str (s : Str) : Rep K P H (.str s) (.str s)
  | ty (n : String) : Rep K P H (.ty n) (.ty n)
  | opq (v : V) : Rep K P H v .opq
  | tup {a : Addr} {xs : List V} {ds : List D} : SqT K H a xs → RepL K P H xs ds → Rep K P H (.ref a) (.tup ds)
  | lst {a : Addr} {xs : List V} {ds : List D} : P a → H a = some (.lst xs) → RepL K P H xs ds → Rep K P H (.ref a) (.lst ds)
  | dct {a : Addr} {kvs : List (Key × V)} {es : List (Key × D)} : P a → Rd H a (.dK kvs) → RepK K P H kvs es → Rep K P H (.ref a) (.dct es)
  | scr {a : Addr} {ns : List Int} : SqS K P H a (ns.map V.int) → Rep K P H (.ref a) (.scr ns)
inductive RepL (K : PySem.W.Frag) (P : Addr → Prop) (H : Hp) : List V → List D → Prop
  | nil : RepL K P H [] []
  | cons {v : V} {vs : List V} {d : D} {ds : List D} : Rep K P H v d → RepL K P H vs ds → RepL K P H (v :: vs) (d :: ds)
inductive RepK (K : PySem.W.Frag) (P : Addr → Prop) (H : Hp) : List (Key × V) → List (Key × D) → Prop
  | nil : RepK K P H [] []
  | cons {k : Key} {v : V} {vs : List (Key × V)} {d : D} {ds : List (Key × D)} : Rep K P H v d → RepK K P H vs ds → RepK K P H ((k, v) :: vs) ((k, d) :: ds)
end

structure Mem where
  L : List Addr
  P : Addr → Prop

def imm : HO → Prop
  | .tup _ => True
  | .frz _ _ => True
  | _ => False

/-- what a piece of the program may do -/
structure Step (m : Mem) (H : Hp) (m' : Mem) (H' : Hp) : Prop where
  ext : ∃ ps, m'.L = m.L ++ ps ∧ ∀ p ∈ ps, H p = none
  keep : ∀ b o, H b = some o → (b ∉ m.L ∨ m.P b ∨ imm o) → H' b = some o
  phi : ∀ b, m.P b → m'.P b
  fr : ∀ b, m'.P b → m.P b ∨ b ∈ m.L ∨ H b = none
  trk : ∀ b o, H b = some o → ∃ o', H' b = some o'

theorem Step.refl (m : Mem) (H : Hp) : Step m H m H := ⟨⟨[], by simp, by simp⟩, fun _ _ h _ => h, fun _ h => h, fun _ h => .inl h, fun _ o h => ⟨o, h⟩⟩
theorem Step.none {m m' : Mem} {H H' : Hp} (s : Step m H m' H') {p : Addr} (h : H' p = none) : H p = none := by
  cases e : H p with
  | none => rfl
  | some o =>
    obtain ⟨o', h'⟩ := s.trk p o e
    rw [h] at h'; cases h'
theorem Step.trans {m m1 m2 : Mem} {H H1 H2 : Hp} (s : Step m H m1 H1) (t : Step m1 H1 m2 H2) : Step m H m2 H2 := by
  obtain ⟨ps, e, f⟩ := s.ext
  obtain ⟨qs, e', f'⟩ := t.ext
  refine ⟨⟨ps ++ qs, by rw [e', e, List.append_assoc], fun p hp => ?_⟩, fun b o h c => ?_, fun b h => t.phi b (s.phi b h), fun b h => ?_, fun b o h => ?_⟩
  · rcases List.mem_append.mp hp with h | h
    · exact f p h
    · exact s.none (f' p h)
  · refine t.keep b o (s.keep b o h c) ?_
    rcases c with c | c | c
    · refine .inl fun z => ?_
      rw [e] at z
      rcases List.mem_append.mp z with z | z
      · exact c z
      · rw [f b z] at h; cases h
    · exact .inr (.inl (s.phi b c))
    · exact .inr (.inr c)
  · rcases t.fr b h with h | h | h
    · exact s.fr b h
    · rw [e] at h
      rcases List.mem_append.mp h with h | h
      · exact .inr (.inl h)
      · exact .inr (.inr (f b h))
    · exact .inr (.inr (s.none h))
  · obtain ⟨o', h'⟩ := s.trk b o h
    exact t.trk b o' h'

/-- data stay what they are -/
structure Stay (K : PySem.W.Frag) (P : Addr → Prop) (H : Hp) (P' : Addr → Prop) (H' : Hp) : Prop where
  im : ∀ b o, H b = some o → imm o → H' b = some o
  ke : ∀ b o, P b → H b = some o → H' b = some o
  ph : ∀ b, P b → P' b
theorem Step.stay {K : PySem.W.Frag} {m m' : Mem} {H H' : Hp} (s : Step m H m' H') : Stay K m.P H m'.P H' :=
  ⟨fun b o h c => s.keep b o h (.inr (.inr c)), fun b o c h => s.keep b o h (.inr (.inl c)), s.phi⟩
section
variable {K : PySem.W.Frag} {P P' : Addr → Prop} {H H' : Hp}
theorem Stay.sqt (s : Stay K P H P' H') {a : Addr} {xs : List V} (h : SqT K H a xs) : SqT K H' a xs := by
  rcases h with (h | ⟨o, h⟩) | h
  · exact .inl (.inl (s.im _ _ h trivial))
  · exact .inl (.inr ⟨o, s.im _ _ h trivial⟩)
  · exact .inr h
theorem Stay.scr (s : Stay K P H P' H') {a : Addr} {xs : List V} (h : SqS K P H a xs) : SqS K P' H' a xs := by
  rcases h with (⟨o, h⟩ | ⟨c, h⟩) | h
  · exact .inl (.inl ⟨o, s.im _ _ h trivial⟩)
  · exact .inl (.inr ⟨s.ph _ c, s.ke _ _ c h⟩)
  · exact .inr h
theorem Stay.dk (s : Stay K P H P' H') {a : Addr} {kvs : List (Key × V)} (c : P a) (h : Rd H a (.dK kvs)) : Rd H' a (.dK kvs) := by
  rcases h with h | ⟨o, h⟩
  · exact .inl (s.ke _ _ c h)
  · exact .inr ⟨o, s.ke _ _ c h⟩
end

mutual
theorem Rep.mono {K : PySem.W.Frag} {P P' : Addr → Prop} {H H' : Hp} (s : Stay K P H P' H') : ∀ {v : V} {d : D}, Rep K P H v d → Rep K P' H' v d
  | _, _, .non => .non
  | _, _, .bl b => .bl b
  | _, _, .int i => .int i
  | _, _, .str x => .str x
  | _, _, .ty x => .ty x
  | _, _, .opq v => .opq v
  | _, _, .tup h r => .tup (s.sqt h) (RepL.mono s r)
  | _, _, .lst c h r => .lst (s.ph _ c) (s.ke _ _ c h) (RepL.mono s r)
  | _, _, .dct c h r => .dct (s.ph _ c) (s.dk c h) (RepK.mono s r)
  | _, _, .scr h => .scr (s.scr h)
theorem RepL.mono {K : PySem.W.Frag} {P P' : Addr → Prop} {H H' : Hp} (s : Stay K P H P' H') : ∀ {v : List V} {d : List D}, RepL K P H v d → RepL K P' H' v d
  | _, _, .nil => .nil
  | _, _, .cons h r => .cons (Rep.mono s h) (RepL.mono s r)
theorem RepK.mono {K : PySem.W.Frag} {P P' : Addr → Prop} {H H' : Hp} (s : Stay K P H P' H') : ∀ {v : List (Key × V)} {d : List (Key × D)}, RepK K P H v d → RepK K P' H' v d
  | _, _, .nil => .nil
  | _, _, .cons h r => .cons (Rep.mono s h) (RepK.mono s r)
end

/-- a closed object that may change, as it stands -/
def OC (K : PySem.W.Frag) (P : Addr → Prop) (H : Hp) (p : Addr) : AO → Prop
  | .lst ds => ∃ xs, H p = some (.lst xs) ∧ RepL K P H xs ds
  | .dct es => ∃ kvs, H p = some (.dK kvs) ∧ RepK K P H kvs es
  | .fz d => Rep K P H (.ref p) d ∧ P p ∧ ∃ u, H p = some u ∧ True
  | .nx _ => False
def NVR (K : PySem.W.Frag) (m : Mem) (H : Hp) (v : V) : NV → Prop
  | .d x => Rep K m.P H v x
  | .o n => ∃ q, v = .ref q ∧ m.L[n]? = some q
def NXR (K : PySem.W.Frag) (m : Mem) (H : Hp) (p : Addr) : NX → Prop
  | .tup xs => ∃ vs, H p = some (.tup vs) ∧ Paired (NVR K m H) vs xs
  | .lst xs => ∃ vs, H p = some (.lst vs) ∧ Paired (NVR K m H) vs xs
  | .dct es => ∃ kvs : List (Key × V), H p = some (.dK kvs) ∧ Paired (fun kv e => kv.1 = e.1 ∧ NVR K m H kv.2 e.2) kvs es
  | .ins c fs => ∃ C dx vs, PySem.W.nsIn K mainGlobals c = some (some (.ref C)) ∧ H p = some (.ins C dx vs) ∧ Paired (fun kv e => kv.1 = e.1 ∧ NVR K m H kv.2 e.2) vs fs
def OO (K : PySem.W.Frag) (m : Mem) (H : Hp) (p : Addr) : AO → Prop
  | .lst ds => ∃ xs, H p = some (.lst xs) ∧ RepL K m.P H xs ds
  | .dct es => ∃ kvs, H p = some (.dK kvs) ∧ RepK K m.P H kvs es
  | .fz d => Rep K m.P H (.ref p) d ∧ m.P p ∧ ∃ u, H p = some u ∧ True
  | .nx x => NXR K m H p x
theorem OC.o {K : PySem.W.Frag} {m : Mem} {H : Hp} {p : Addr} : ∀ {o : AO}, OC K m.P H p o → OO K m H p o
  | .lst _, h => h
  | .dct _, h => h
  | .fz _, h => h
theorem OO.c {K : PySem.W.Frag} {m : Mem} {H : Hp} {p : Addr} : ∀ {o : AO}, o.live = true → OO K m H p o → OC K m.P H p o
  | .lst _, _, h => h
  | .dct _, _, h => h
theorem NXR.there {K : PySem.W.Frag} {m : Mem} {H : Hp} {p : Addr} : ∀ {x : NX}, NXR K m H p x → ∃ u, H p = some u ∧ True
  | .tup _, ⟨_, h, _⟩ => ⟨_, h, trivial⟩
  | .lst _, ⟨_, h, _⟩ => ⟨_, h, trivial⟩
  | .dct _, ⟨_, h, _⟩ => ⟨_, h, trivial⟩
  | .ins _ _, ⟨_, _, _, _, h, _⟩ => ⟨_, h, trivial⟩
theorem OO.there {K : PySem.W.Frag} {m : Mem} {H : Hp} {p : Addr} : ∀ {o : AO}, OO K m H p o → ∃ u, H p = some u ∧ True
  | .lst _, ⟨xs, h, _⟩ => ⟨_, h, trivial⟩
  | .dct _, ⟨xs, h, _⟩ => ⟨_, h, trivial⟩
  | .fz _, ⟨_, _, h⟩ => h
  | .nx _, h => NXR.there h
theorem OC.there {K : PySem.W.Frag} {P : Addr → Prop} {H : Hp} {p : Addr} : ∀ {o : AO}, OC K P H p o → ∃ u, H p = some u ∧ True
  | .lst _, ⟨xs, h, _⟩ => ⟨_, h, trivial⟩
  | .dct _, ⟨xs, h, _⟩ => ⟨_, h, trivial⟩
  | .fz _, ⟨_, _, h⟩ => h
theorem OO.thereL {K : PySem.W.Frag} {m : Mem} {H : Hp} {p : Addr} : ∀ {o : AO}, o.live = true → OO K m H p o → ∃ u, H p = some u ∧ ¬ imm u
  | .lst _, _, ⟨xs, h, _⟩ => ⟨_, h, fun z => z⟩
  | .dct _, _, ⟨xs, h, _⟩ => ⟨_, h, fun z => z⟩
  | .fz _, l, _ => by cases l
  | .nx _, l, _ => by cases l
theorem pairedP {α β : Type} {F G : α → β → Prop} : ∀ {xs : List α} {ys : List β}, Paired F xs ys → (∀ x y, F x y → G x y) → Paired G xs ys
  | _, _, .nil, _ => .nil
  | _, _, .cons h t, g => .cons (g _ _ h) (pairedP t g)
/-- the list of objects only grows -/
def Grow (m m' : Mem) : Prop := ∀ (n : Nat) (q : Addr), m.L[n]? = some q → m'.L[n]? = some q
theorem Grow.refl (m : Mem) : Grow m m := fun _ _ h => h
theorem Grow.of {L : List Addr} {P P' : Addr → Prop} : Grow ⟨L, P⟩ ⟨L, P'⟩ := fun _ _ h => h
theorem Step.grow {m m' : Mem} {H H' : Hp} (s : Step m H m' H') : Grow m m' := fun n q h => by
  obtain ⟨ps, el, _⟩ := s.ext
  rw [el, List.getElem?_append_left (List.getElem?_eq_some_iff.mp h).1]; exact h
theorem NVR.mono {K : PySem.W.Frag} {m m' : Mem} {H H' : Hp} {v : V} (s : Stay K m.P H m'.P H') (l : Grow m m') : ∀ {x : NV}, NVR K m H v x → NVR K m' H' v x
  | .d _, h => Rep.mono s h
  | .o n, ⟨q, e, h⟩ => ⟨q, e, l n q h⟩
theorem NXR.mono {K : PySem.W.Frag} {m m' : Mem} {H H' : Hp} {p : Addr} (s : Stay K m.P H m'.P H') (l : Grow m m') (e : H' p = H p) : ∀ {x : NX}, NXR K m H p x → NXR K m' H' p x
  | .tup _, ⟨vs, h, r⟩ => ⟨vs, e.trans h, pairedP r fun _ _ z => z.mono s l⟩
  | .lst _, ⟨vs, h, r⟩ => ⟨vs, e.trans h, pairedP r fun _ _ z => z.mono s l⟩
  | .dct _, ⟨vs, h, r⟩ => ⟨vs, e.trans h, pairedP r fun _ _ z => ⟨z.1, z.2.mono s l⟩⟩
  | .ins _ _, ⟨C, dx, vs, n, h, r⟩ => ⟨C, dx, vs, n, e.trans h, pairedP r fun _ _ z => ⟨z.1, z.2.mono s l⟩⟩
theorem OC.mono {K : PySem.W.Frag} {P P' : Addr → Prop} {H H' : Hp} {p : Addr} (s : Stay K P H P' H') (e : H' p = H p) : ∀ {o : AO}, OC K P H p o → OC K P' H' p o
  | .lst _, ⟨xs, h, r⟩ => ⟨xs, e.trans h, r.mono s⟩
  | .dct _, ⟨xs, h, r⟩ => ⟨xs, e.trans h, r.mono s⟩
  | .fz _, ⟨r, c, u, h, i⟩ => ⟨r.mono s, s.ph _ c, u, e.trans h, i⟩
theorem OO.mono {K : PySem.W.Frag} {m m' : Mem} {H H' : Hp} {p : Addr} (s : Stay K m.P H m'.P H') (l : Grow m m') (e : H' p = H p) : ∀ {o : AO}, OO K m H p o → OO K m' H' p o
  | .lst _, ⟨xs, h, r⟩ => ⟨xs, e.trans h, r.mono s⟩
  | .dct _, ⟨xs, h, r⟩ => ⟨xs, e.trans h, r.mono s⟩
  | .fz _, ⟨r, c, u, h, i⟩ => ⟨r.mono s, s.ph _ c, u, e.trans h, i⟩
  | .nx _, h => NXR.mono s l e h
structure Wd (K : PySem.W.Frag) (m : Mem) (H : Hp) (S : SS) : Prop where
  len : m.L.length = S.length
  nd : m.L.Nodup
  obj : ∀ (n : Nat) (p : Addr) (o : AO), m.L[n]? = some p → S[n]? = some o → OO K m H p o
  sep : ∀ (n : Nat) (p : Addr) (o : AO), m.L[n]? = some p → S[n]? = some o → o.sp = true → ¬ m.P p
  phi : ∀ p, m.P p → ∃ o, H p = some o
theorem Wd.get {K : PySem.W.Frag} {m : Mem} {H : Hp} {S : SS} (w : Wd K m H S) {n : Nat} {p : Addr} (h : m.L[n]? = some p) : ∃ o, S[n]? = some o := by
  have h1 := (List.getElem?_eq_some_iff.mp h).1
  rw [w.len] at h1
  exact ⟨S[n], List.getElem?_eq_getElem h1⟩
theorem Wd.get' {K : PySem.W.Frag} {m : Mem} {H : Hp} {S : SS} (w : Wd K m H S) {n : Nat} {o : AO} (h : S[n]? = some o) : ∃ p, m.L[n]? = some p := by
  have h1 := (List.getElem?_eq_some_iff.mp h).1
  rw [← w.len] at h1
  exact ⟨m.L[n], List.getElem?_eq_getElem h1⟩
theorem Wd.there {K : PySem.W.Frag} {m : Mem} {H : Hp} {S : SS} (w : Wd K m H S) {p : Addr} (h : p ∈ m.L) : ∃ u, H p = some u ∧ True := by
  obtain ⟨n, hn, e⟩ := List.mem_iff_getElem.mp h
  have e' : m.L[n]? = some p := by rw [List.getElem?_eq_getElem hn, e]
  obtain ⟨o, ho⟩ := w.get e'
  exact (w.obj n p o e' ho).there
theorem Wd.new {K : PySem.W.Frag} {m : Mem} {H : Hp} {S : SS} (w : Wd K m H S) {p : Addr} (h : H p = none) : p ∉ m.L ∧ ¬ m.P p := by
  refine ⟨fun z => ?_, fun z => ?_⟩
  · obtain ⟨u, e, _⟩ := w.there z
    rw [h] at e; cases e
  · obtain ⟨u, e⟩ := w.phi p z
    rw [h] at e; cases e

/-- the items of a list that are objects of our own -/
structure NstL (m : Mem) (xs : List V) (is : List Nat) : Prop where
  len : xs.length = is.length
  at_ : ∀ (j i : Nat), is[j]? = some i → ∃ q, m.L[i]? = some q ∧ xs[j]? = some (.ref q)
theorem NstL.mono {m m' : Mem} {H H' : Hp} (s : Step m H m' H') {xs : List V} {is : List Nat} (h : NstL m xs is) : NstL m' xs is := by
  refine ⟨h.len, fun j i e => ?_⟩
  obtain ⟨q, h1, h2⟩ := h.at_ j i e
  obtain ⟨ps, el, _⟩ := s.ext
  exact ⟨q, by rw [el, List.getElem?_append_left (List.getElem?_eq_some_iff.mp h1).1]; exact h1, h2⟩
/-- a value of the mirror -/
def AVR (K : PySem.W.Frag) (m : Mem) (H : Hp) (v : V) : AV → Prop
  | .dat d => Rep K m.P H v d
  | .own n => ∃ p, v = .ref p ∧ m.L[n]? = some p
  | .new o => ∃ p, v = .ref p ∧ p ∉ m.L ∧ ¬ m.P p ∧ o.live = true ∧ OC K m.P H p o
  | .nst is => ∃ p xs, v = .ref p ∧ m.P p ∧ H p = some (.lst xs) ∧ NstL m xs is
theorem AVR.mono {K : PySem.W.Frag} {m m' : Mem} {H H' : Hp} (s : Step m H m' H') {v : V} : ∀ {a : AV}, AVR K m H v a → AVR K m' H' v a
  | .dat d, h => Rep.mono s.stay h
  | .own n, ⟨p, e, h⟩ => by
    obtain ⟨ps, el, _⟩ := s.ext
    exact ⟨p, e, by rw [el, List.getElem?_append_left (List.getElem?_eq_some_iff.mp h).1]; exact h⟩
  | .new o, ⟨p, e, h1, h2, h3, h4⟩ => by
    obtain ⟨ps, el, f⟩ := s.ext
    obtain ⟨u, hu, _⟩ := h4.there
    refine ⟨p, e, fun z => ?_, fun z => ?_, h3, h4.mono s.stay ?_⟩
    · rw [el] at z
      rcases List.mem_append.mp z with z | z
      · exact h1 z
      · rw [f p z] at hu; cases hu
    · rcases s.fr p z with z | z | z
      · exact h2 z
      · exact h1 z
      · rw [z] at hu; cases hu
    · rw [hu, s.keep p u hu (.inl h1)]
  | .nst is, ⟨p, xs, e, c, h, n⟩ => ⟨p, xs, e, s.phi _ c, s.keep _ _ h (.inr (.inl c)), n.mono s⟩
/-- a new object was not there -/
def AVF (H : Hp) (v : V) : AV → Prop
  | .new _ => ∀ p, v = .ref p → H p = none
  | _ => True
theorem AVF.back {m m' : Mem} {H H' : Hp} (s : Step m H m' H') {v : V} : ∀ {a : AV}, AVF H' v a → AVF H v a
  | .dat _, _ => trivial
  | .own _, _ => trivial
  | .new _, h => fun p e => s.none (h p e)
  | .nst _, _ => trivial

/-- the slots -/
structure EnvR (K : PySem.W.Frag) (m : Mem) (H : Hp) (σ : L2.St) (ρ : AE) : Prop where
  len : σ.length = ρ.length
  at_ : ∀ (i : Nat) (a : AV), ρ[i]? = some (some a) → ∃ v, σ[i]? = some (some v) ∧ AVR K m H v a
theorem EnvR.mono {K : PySem.W.Frag} {m m' : Mem} {H H' : Hp} {σ : L2.St} {ρ : AE} (e : EnvR K m H σ ρ) (s : Step m H m' H') : EnvR K m' H' σ ρ :=
  ⟨e.len, fun i a h => let ⟨v, h1, h2⟩ := e.at_ i a h; ⟨v, h1, h2.mono s⟩⟩
theorem EnvR.set {K : PySem.W.Frag} {m : Mem} {H : Hp} {σ : L2.St} {ρ : AE} (e : EnvR K m H σ ρ) {i : Nat} {v : V} {a : AV} (h : AVR K m H v a) : EnvR K m H (σ.set i (some v)) (ρ.set i (some a)) := by
  refine ⟨by rw [List.length_set, List.length_set, e.len], fun j b hb => ?_⟩
  by_cases hij : i = j
  · subst hij
    by_cases hi : i < ρ.length
    · rw [List.getElem?_set_self hi] at hb
      cases hb
      exact ⟨v, List.getElem?_set_self (by rw [e.len]; exact hi), h⟩
    · rw [List.getElem?_eq_none (by rw [List.length_set]; omega)] at hb
      cases hb
  · rw [List.getElem?_set_ne hij] at hb ⊢
    exact e.at_ j b hb

/-! ### results -/
inductive R where
  | ok (a : AV) (S : SS) | exc (x : Exn) (S : SS) | bad
inductive RA where
  | ok (as : List AV) (S : SS) | exc (x : Exn) (S : SS) | bad
inductive RB where
  | ok (b : Bool) (S : SS) | exc (x : Exn) (S : SS) | bad
inductive RI where
  | ok (ds : List D) (S : SS) | exc (x : Exn) (S : SS) | bad
inductive SR where
  | nx (ρ : AE) (S : SS) | rt (a : AV) (S : SS) | bk (ρ : AE) (S : SS) | ct (ρ : AE) (S : SS) | exc (x : Exn) (ρ : AE) (S : SS) | bad

/-- what an error of the mirror is -/
def XR (mg : Str → Option Value) (H : Hp) (x : Exn) (c : Value) (d : Option Addr) : Prop :=
  ∃ C, mg x.cls = some (.ref C) ∧ c = .ref C ∧ match x.fld with
    | [] => d = none
    | fs => ∃ dd vs, d = some dd ∧ H dd = some (.xd vs) ∧ vs.map (·.1) = fs.map (·.1)
def WQ (mg : Str → Option Value) (W : WX) (σ : L2.St) (x : Exn) (H : Hp) : Prop := ∀ c d, XR mg H x c d → W c d σ H

structure Kx where
  K : PySem.W.Frag
  mg : Str → Option Value
  W : WX
def RQ (k : Kx) (σ : L2.St) (m : Mem) (H : Hp) (r : R) (Q : VK) : Prop :=
  match r with
  | .ok a S => ∀ v m' H', Step m H m' H' → Wd k.K m' H' S → AVR k.K m' H' v a → AVF H v a → Q v H'
  | .exc x S => ∀ m' H', Step m H m' H' → Wd k.K m' H' S → WQ k.mg k.W σ x H'
  | .bad => False
def RAQ (k : Kx) (σ : L2.St) (m : Mem) (H : Hp) (r : RA) (Q : List V → Hp → Prop) : Prop :=
  match r with
  | .ok as S => ∀ vs m' H', Step m H m' H' → Wd k.K m' H' S → Paired (AVR k.K m' H') vs as → Paired (AVF H) vs as → Q vs H'
  | .exc x S => ∀ m' H', Step m H m' H' → Wd k.K m' H' S → WQ k.mg k.W σ x H'
  | .bad => False
def RBQ (k : Kx) (σ : L2.St) (m : Mem) (H : Hp) (r : RB) (Q : Bool → Hp → Prop) : Prop :=
  match r with
  | .ok b S => ∀ m' H', Step m H m' H' → Wd k.K m' H' S → Q b H'
  | .exc x S => ∀ m' H', Step m H m' H' → Wd k.K m' H' S → WQ k.mg k.W σ x H'
  | .bad => False
def SQ (k : Kx) (m : Mem) (H : Hp) (r : SR) (D : Ends) : Prop :=
  match r with
  | .nx ρ S => ∀ σ' m' H', Step m H m' H' → Wd k.K m' H' S → EnvR k.K m' H' σ' ρ → D.nx σ' H'
  | .bk ρ S => ∀ σ' m' H', Step m H m' H' → Wd k.K m' H' S → EnvR k.K m' H' σ' ρ → D.bk σ' H'
  | .ct ρ S => ∀ σ' m' H', Step m H m' H' → Wd k.K m' H' S → EnvR k.K m' H' σ' ρ → D.ct σ' H'
  | .rt a S => ∀ v m' H', Step m H m' H' → Wd k.K m' H' S → AVR k.K m' H' v a → AVF H v a → D.rt v H'
  | .exc x ρ S => ∀ σ' m' H', Step m H m' H' → Wd k.K m' H' S → EnvR k.K m' H' σ' ρ → WQ k.mg k.W σ' x H'
  | .bad => False
def tR (k : Kx) (ρ : AE) (S : SS) (r : R) : TE := fun σ H Q => ∃ m, Wd k.K m H S ∧ EnvR k.K m H σ ρ ∧ RQ k σ m H r Q
def tRA (k : Kx) (ρ : AE) (S : SS) (r : RA) : TA := fun σ H Q => ∃ m, Wd k.K m H S ∧ EnvR k.K m H σ ρ ∧ RAQ k σ m H r Q
def tRB (k : Kx) (ρ : AE) (S : SS) (r : RB) : TT := fun σ H Q => ∃ m, Wd k.K m H S ∧ EnvR k.K m H σ ρ ∧ RBQ k σ m H r Q
def tS (k : Kx) (ρ : AE) (S : SS) (r : SR) : TS := fun D σ H => ∃ m, Wd k.K m H S ∧ EnvR k.K m H σ ρ ∧ SQ k m H r D
/-- expressions, tests, arguments, statements and their mirrors -/
def kx (X : Cx) (W : WX) : Kx := ⟨X.K, X.mg, W⟩
def JE (X : Cx) (W : WX) (e : Expr) (f : AE → SS → R) : Prop := ∀ ρ S, PE X e (tR (kx X W) ρ S (f ρ S))
def JT (X : Cx) (W : WX) (e : Expr) (f : AE → SS → RB) : Prop := ∀ ρ S, PT X e (tRB (kx X W) ρ S (f ρ S))
def JA (X : Cx) (W : WX) (es : List Expr) (f : AE → SS → RA) : Prop := ∀ ρ S, PA X es (tRA (kx X W) ρ S (f ρ S))
def JS (X : Cx) (W : WX) (s : Stmt) (f : AE → SS → SR) : Prop := ∀ ρ S, PS X s (tS (kx X W) ρ S (f ρ S))
def JSs (X : Cx) (W : WX) (s : List Stmt) (f : AE → SS → SR) : Prop := ∀ ρ S, PSs X s (tS (kx X W) ρ S (f ρ S))
end Ew

set_option Elab.async false
set_option linter.all false
set_option maxRecDepth 100000
set_option maxHeartbeats 4000000
namespace Ew
open PySem PySem.Spec PyProof.Rows L2

def R.bind (r : R) (f : AV → SS → R) : R := match r with | .ok a S => f a S | .exc x S => .exc x S | .bad => .bad
def R.toB (r : R) (f : AV → SS → RB) : RB := match r with | .ok a S => f a S | .exc x S => .exc x S | .bad => .bad
def R.toA (r : R) (f : AV → SS → RA) : RA := match r with | .ok a S => f a S | .exc x S => .exc x S | .bad => .bad
def RA.bind (r : RA) (f : List AV → SS → RA) : RA := match r with | .ok a S => f a S | .exc x S => .exc x S | .bad => .bad
def RA.toR (r : RA) (f : List AV → SS → R) : R := match r with | .ok a S => f a S | .exc x S => .exc x S | .bad => .bad
def RA.toI (r : RA) (f : List AV → SS → RI) : RI := match r with | .ok a S => f a S | .exc x S => .exc x S | .bad => .bad
def RB.toR (r : RB) (f : Bool → SS → R) : R := match r with | .ok a S => f a S | .exc x S => .exc x S | .bad => .bad
def RB.bind (r : RB) (f : Bool → SS → RB) : RB := match r with | .ok a S => f a S | .exc x S => .exc x S | .bad => .bad
def RB.toS (r : RB) (ρ : AE) (f : Bool → SS → SR) : SR := match r with | .ok a S => f a S | .exc x S => .exc x ρ S | .bad => .bad
def R.toS (r : R) (ρ : AE) (f : AV → SS → SR) : SR := match r with | .ok a S => f a S | .exc x S => .exc x ρ S | .bad => .bad
def R.toI (r : R) (f : AV → SS → RI) : RI := match r with | .ok a S => f a S | .exc x S => .exc x S | .bad => .bad

section
variable {X : Cx} {W : WX}
theorem PE.imp {e : Expr} {t t' : TE} (h : PE X e t) (i : ∀ σ H Q, t' σ H Q → t σ H Q) : PE X e t' := ⟨fun pins s σ H Q I q => h.run pins s σ H Q I (i σ H Q q)⟩
theorem PT.imp {e : Expr} {t t' : TT} (h : PT X e t) (i : ∀ σ H Q, t' σ H Q → t σ H Q) : PT X e t' := ⟨fun pins s σ H Q I q => h.run pins s σ H Q I (i σ H Q q)⟩
theorem PA.imp {e : List Expr} {t t' : TA} (h : PA X e t) (i : ∀ σ H Q, t' σ H Q → t σ H Q) : PA X e t' := ⟨fun pos pins s σ H Q I q => h.run pos pins s σ H Q I (i σ H Q q)⟩
theorem PS.imp {e : Stmt} {t t' : TS} (h : PS X e t) (i : ∀ D σ H, t' D σ H → t D σ H) : PS X e t' := ⟨fun pins s σ H Q I q => h.run pins s σ H Q I (i Q σ H q)⟩
theorem PSs.imp {e : List Stmt} {t t' : TS} (h : PSs X e t) (i : ∀ D σ H, t' D σ H → t D σ H) : PSs X e t' := ⟨fun pins s σ H Q I q => h.run pins s σ H Q I (i Q σ H q)⟩
theorem PI.imp {tg e : Expr} {t t' : TI} (h : PI X tg e t) (i : ∀ σ H Q, t' σ H Q → t σ H Q) : PI X tg e t' := ⟨fun pins s σ H Q I q => h.run pins s σ H Q I (i σ H Q q)⟩
theorem PE.ex {e : Expr} {t : TE} (h : ∀ σ H Q, t σ H Q → ∃ t', PE X e t' ∧ t' σ H Q) : PE X e t := ⟨fun pins s σ H Q I q => by
  obtain ⟨t', h', q'⟩ := h σ H Q q
  exact h'.run pins s σ H Q I q'⟩
theorem PT.ex {e : Expr} {t : TT} (h : ∀ σ H Q, t σ H Q → ∃ t', PT X e t' ∧ t' σ H Q) : PT X e t := ⟨fun pins s σ H Q I q => by
  obtain ⟨t', h', q'⟩ := h σ H Q q
  exact h'.run pins s σ H Q I q'⟩
theorem PS.ex {e : Stmt} {t : TS} (h : ∀ D σ H, t D σ H → ∃ t', PS X e t' ∧ t' D σ H) : PS X e t := ⟨fun pins s σ H Q I q => by
  obtain ⟨t', h', q'⟩ := h Q σ H q
  exact h'.run pins s σ H Q I q'⟩
theorem PSs.ex {e : List Stmt} {t : TS} (h : ∀ D σ H, t D σ H → ∃ t', PSs X e t' ∧ t' D σ H) : PSs X e t := ⟨fun pins s σ H Q I q => by
  obtain ⟨t', h', q'⟩ := h Q σ H q
  exact h'.run pins s σ H Q I q'⟩
theorem PI.ex {tg e : Expr} {t : TI} (h : ∀ σ H Q, t σ H Q → ∃ t', PI X tg e t' ∧ t' σ H Q) : PI X tg e t := ⟨fun pins s σ H Q I q => by
  obtain ⟨t', h', q'⟩ := h σ H Q q
  exact h'.run pins s σ H Q I q'⟩

variable {k : Kx} {σ : L2.St} {m m1 : Mem} {H H1 : Hp}
theorem RQ.back {r : R} {Q : VK} (s : Step m H m1 H1) (h : RQ k σ m H r Q) : RQ k σ m1 H1 r Q := by
  cases r with
  | ok a S => exact fun v m' H' s' w a' f => h v m' H' (s.trans s') w a' (f.back s)
  | exc x S => exact fun m' H' s' w => h m' H' (s.trans s') w
  | bad => exact h
theorem RAQ.back {r : RA} {Q : List V → Hp → Prop} (s : Step m H m1 H1) (h : RAQ k σ m H r Q) : RAQ k σ m1 H1 r Q := by
  cases r with
  | ok a S => exact fun v m' H' s' w a' f => h v m' H' (s.trans s') w a' (L2.Paired.mapP f fun _ _ f => AVF.back s f)
  | exc x S => exact fun m' H' s' w => h m' H' (s.trans s') w
  | bad => exact h
theorem RBQ.back {r : RB} {Q : Bool → Hp → Prop} (s : Step m H m1 H1) (h : RBQ k σ m H r Q) : RBQ k σ m1 H1 r Q := by
  cases r with
  | ok a S => exact fun m' H' s' w => h m' H' (s.trans s') w
  | exc x S => exact fun m' H' s' w => h m' H' (s.trans s') w
  | bad => exact h
theorem SQ.back {r : SR} {D : Ends} (s : Step m H m1 H1) (h : SQ k m H r D) : SQ k m1 H1 r D := by
  cases r with
  | nx ρ S => exact fun σ' m' H' s' => h σ' m' H' (s.trans s')
  | bk ρ S => exact fun σ' m' H' s' => h σ' m' H' (s.trans s')
  | ct ρ S => exact fun σ' m' H' s' => h σ' m' H' (s.trans s')
  | rt a S => exact fun v m' H' s' w a' f => h v m' H' (s.trans s') w a' (f.back s)
  | exc x ρ S => exact fun σ' m' H' s' => h σ' m' H' (s.trans s')
  | bad => exact h
end

/-! ### what is read: a datum as it stands now -/
def view : AV → SS → Option D
  | .dat d, _ => some d
  | .own n, S => (S[n]?).map AO.toD
  | .new o, _ => some o.toD
  | .nst _, _ => none
def RepV (K : PySem.W.Frag) (P : Addr → Prop) (H : Hp) (v : V) (d : D) : Prop :=
  match d with
  | .lst ds => ∃ a xs, v = .ref a ∧ H a = some (.lst xs) ∧ RepL K P H xs ds
  | .dct es => ∃ a kvs, v = .ref a ∧ Rd H a (.dK kvs) ∧ RepK K P H kvs es
  | d => Rep K P H v d
theorem Rep.v {K : PySem.W.Frag} {P : Addr → Prop} {H : Hp} {v : V} {d : D} (h : Rep K P H v d) : RepV K P H v d := by
  cases h with
  | lst c e r => exact ⟨_, _, rfl, e, r⟩
  | dct c e r => exact ⟨_, _, rfl, e, r⟩
  | non => exact .non
  | bl b => exact .bl b
  | int i => exact .int i
  | str s => exact .str s
  | ty s => exact .ty s
  | tup a b => exact .tup a b
  | scr a => exact .scr a
  | opq v => exact .opq v
theorem OC.v {K : PySem.W.Frag} {P : Addr → Prop} {H : Hp} {p : Addr} : ∀ {o : AO}, OC K P H p o → RepV K P H (.ref p) o.toD
  | .lst _, ⟨xs, h, r⟩ => ⟨_, _, rfl, h, r⟩
  | .dct _, ⟨xs, h, r⟩ => ⟨_, _, rfl, .inl h, r⟩
  | .fz _, ⟨r, _, _⟩ => r.v
theorem OO.v {K : PySem.W.Frag} {m : Mem} {H : Hp} {p : Addr} : ∀ {o : AO}, OO K m H p o → RepV K m.P H (.ref p) o.toD
  | .lst _, ⟨xs, h, r⟩ => ⟨_, _, rfl, h, r⟩
  | .dct _, ⟨xs, h, r⟩ => ⟨_, _, rfl, .inl h, r⟩
  | .fz _, ⟨r, _, _⟩ => r.v
  | .nx _, _ => .opq _
theorem view_rep {K : PySem.W.Frag} {m : Mem} {H : Hp} {S : SS} {v : V} {a : AV} {d : D} (w : Wd K m H S) (h : AVR K m H v a) (e : view a S = some d) : RepV K m.P H v d := by
  cases a with
  | dat d' =>
    cases e
    exact Rep.v h
  | own n =>
    obtain ⟨p, rfl, hp⟩ := h
    obtain ⟨o, ho, eo⟩ := Option.map_eq_some_iff.mp e
    subst eo
    exact (w.obj n p o hp ho).v
  | new o =>
    obtain ⟨p, rfl, _, _, _, h⟩ := h
    cases e
    exact h.v
  | nst is => cases e

/-- what an operation hands back: a datum, or a new object -/
inductive RD where
  | dt (d : D) | ob (o : AO)
def RD.av : RD → AV
  | .dt d => .dat d
  | .ob o => .new o
def NewR (K : PySem.W.Frag) (P : Addr → Prop) (H H' : Hp) (v : V) (r : RD) : Prop :=
  (H' = H ∨ ∃ p o, H p = none ∧ H' = upd H p o) ∧
  match r with
  | .dt d => Rep K P H' v d
  | .ob o => ∃ p, v = .ref p ∧ H p = none ∧ o.live = true ∧ OC K P H' p o
theorem step_upd {m : Mem} {H : Hp} {p : Addr} {o : HO} (h : H p = none) : Step m H m (upd H p o) :=
  ⟨⟨[], by simp, by simp⟩, fun b u e _ => by rw [upd_ne (ne_of_none e h)]; exact e, fun _ c => c, fun _ c => .inl c, fun b u e => ⟨u, by rw [upd_ne (ne_of_none e h)]; exact e⟩⟩
theorem Wd.step {K : PySem.W.Frag} {m : Mem} {H H' : Hp} {S : SS} (w : Wd K m H S) (s : Step m H m H') (k : ∀ p ∈ m.L, H' p = H p) : Wd K m H' S :=
  ⟨w.len, w.nd, fun n p o hp ho => (w.obj n p o hp ho).mono s.stay (Grow.refl m) (k p (List.mem_of_getElem? hp)), w.sep, fun p c => by
    obtain ⟨o, e⟩ := w.phi p c
    exact s.trk p o e⟩
theorem NewR.step {K : PySem.W.Frag} {m : Mem} {H H' : Hp} {S : SS} {v : V} {r : RD} (w : Wd K m H S) (h : NewR K m.P H H' v r) : Step m H m H' ∧ Wd K m H' S ∧ AVR K m H' v r.av ∧ AVF H v r.av := by
  obtain ⟨h1, h2⟩ := h
  have st : Step m H m H' := by
    rcases h1 with rfl | ⟨p, o, hp, rfl⟩
    · exact .refl _ _
    · exact step_upd hp
  have kp : ∀ p ∈ m.L, H' p = H p := fun p hp => by
    obtain ⟨u, hu, _⟩ := w.there hp
    rcases h1 with rfl | ⟨q, o, hq, rfl⟩
    · rfl
    · rw [upd_ne (ne_of_none hu hq)]
  refine ⟨st, w.step st kp, ?_, ?_⟩
  · cases r with
    | dt d => exact h2
    | ob o =>
      obtain ⟨p, e, hp, hl, ho⟩ := h2
      exact ⟨p, e, (w.new hp).1, (w.new hp).2, hl, ho⟩
  · cases r with
    | dt d => exact True.intro
    | ob o =>
      obtain ⟨p, e, hp, hl, ho⟩ := h2
      show ∀ q, v = V.ref q → H q = none
      intro q eq
      rw [e] at eq; cases eq
      exact hp
theorem NewR.val {K : PySem.W.Frag} {P : Addr → Prop} {H : Hp} {v : V} {d : D} (h : Rep K P H v d) : NewR K P H H v (.dt d) := ⟨.inl rfl, h⟩

section
variable {X : Cx} {W : WX}
/-! ### names and constants -/
def eVar (i : Nat) : AE → SS → R := fun ρ S => match ρ[i]? with
  | some (some (.dat d)) => .ok (.dat d) S
  | some (some (.own n)) => .ok (.own n) S
  | _ => .bad
theorem je_var (i : Nat) {x : Str} {pos : Pos} (hN : X.N[i]? = some x := by rfl) (hv : Vis X.env.scope x := by first | exact Or.inl rfl | exact Or.inr (Or.inl rfl) | exact Or.inr (Or.inr rfl)) (hd : (x == ("__debug__" : Str)) = false := by decide)
    (hcd : (x == ("__classdict__" : Str)) = false := by decide) : JE X W (.Name x pos) (eVar i) := fun ρ S => by
  refine PE.imp (pe_var hN hv hd hcd) fun σ H Q ⟨m, w, en, q⟩ => ?_
  unfold eVar at q
  split at q
  · rename_i d e
    obtain ⟨v, h1, h2⟩ := en.at_ i _ e
    exact ⟨v, h1, q v m H (.refl _ _) w h2 trivial⟩
  · rename_i n e
    obtain ⟨v, h1, h2⟩ := en.at_ i _ e
    exact ⟨v, h1, q v m H (.refl _ _) w h2 trivial⟩
  · exact q.elim
def eC (d : D) : AE → SS → R := fun _ S => .ok (.dat d) S
theorem je_of {e : Expr} {v : V} {d : D} (h : PE X e (tC v)) (r : ∀ P H, Rep X.K P H v d) : JE X W e (eC d) := fun ρ S =>
  PE.imp h fun σ H Q ⟨m, w, en, q⟩ => q v m H (.refl _ _) w (r _ _) trivial
theorem je_int {i : Int} {j pos} : JE X W (.Constant (.int i) j pos) (eC (.int i)) := je_of pe_int fun _ _ => .int i
theorem je_bl {b : Bool} {j pos} : JE X W (.Constant (.bool b) j pos) (eC (.bl b)) := je_of pe_bl fun _ _ => .bl b
theorem je_non {j pos} : JE X W (.Constant .none j pos) (eC .non) := je_of pe_non fun _ _ => .non
theorem je_str {s : Str} {j pos} : JE X W (.Constant (.str s) j pos) (eC (.str s)) := je_of pe_str fun _ _ => .str s
/-- a constant of the module -/
structure GC (K : PySem.W.Frag) (mg : Str → Option Value) (x : Str) (d : D) : Prop where
  ex : ∃ u v, mg x = some u ∧ RelV v u ∧ ∀ P H, Rep K P H v d
theorem je_gc {x : Str} {pos : Pos} {d : D} (g : GC X.K X.mg x d) (hg : Gl X x := by rfl) (hd : (x == ("__debug__" : Str)) = false := by decide) : JE X W (.Name x pos) (eC d) := by
  obtain ⟨u, v, h1, h2, h3⟩ := g.ex
  exact je_of (pe_glob hg h1 h2 hd) h3

/-! ### operators -/
def OpV (K : PySem.W.Frag) (r : R2) (g : D → D → Option RD) : Prop :=
  ∀ (P : Addr → Prop) (H : Hp) (x y : V) (d e : D) (z : RD) (Q : VK), RepV K P H x d → RepV K P H y e → g d e = some z → (∀ v H', NewR K P H H' v z → Q v H') → r x y H Q
def ap2 (g : D → D → Option RD) (x y : AV) (S : SS) : R := match view x S, view y S with
  | some d, some e => (match g d e with
    | some z => .ok z.av S
    | none => .bad)
  | _, _ => .bad
theorem ap2_ok {K : PySem.W.Frag} {k : Kx} {r : R2} {g : D → D → Option RD} (h : OpV k.K r g) {σ : L2.St} {m : Mem} {H : Hp} {S : SS} {x y : V} {a b : AV} {Q : VK} (w : Wd k.K m H S) (ha : AVR k.K m H x a) (hb : AVR k.K m H y b) (q : RQ k σ m H (ap2 g a b S) Q) : r x y H Q := by
  unfold ap2 at q
  split at q
  · rename_i d e hd he
    split at q
    · rename_i z hz
      refine h m.P H x y d e z Q (view_rep w ha hd) (view_rep w hb he) hz fun v H' n => ?_
      obtain ⟨s1, s2, s3, s4⟩ := n.step w
      exact q v m H' s1 s2 s3 s4
    · exact q.elim
  · exact q.elim
def eBin (g : D → D → Option RD) (f h : AE → SS → R) : AE → SS → R := fun ρ S => (f ρ S).bind fun x S1 => (h ρ S1).bind fun y S2 => ap2 g x y S2
theorem two {a b : Expr} {f h : AE → SS → R} (ja : JE X W a f) (jb : JE X W b h) {g : AV → AV → SS → R} {rr : R2} (ho : ∀ (σ : L2.St) (m : Mem) (H : Hp) (S : SS) (x y : V) (u w : AV) (Q : VK), Wd X.K m H S → AVR X.K m H x u → AVR X.K m H y w → RQ (kx X W) σ m H (g u w S) Q → rr x y H Q) (ρ : AE) (S : SS) :
    ∃ ta tb, PE X a ta ∧ PE X b tb ∧ ∀ σ H Q, tR (kx X W) ρ S ((f ρ S).bind fun x S1 => (h ρ S1).bind fun y S2 => g x y S2) σ H Q → tOp rr ta tb σ H Q := by
  cases hf : f ρ S with
  | bad => exact ⟨_, _, ja ρ S, jb ρ S, fun σ H Q ⟨m, w, en, q⟩ => q.elim⟩
  | exc x S1 => exact ⟨_, _, ja ρ S, jb ρ S, fun σ H Q ⟨m, w, en, q⟩ => ⟨m, w, en, by rw [hf]; exact q⟩⟩
  | ok x S1 =>
    refine ⟨_, _, ja ρ S, jb ρ S1, fun σ H Q ⟨m, w, en, q⟩ => ⟨m, w, en, ?_⟩⟩
    rw [hf]
    intro v m1 H1 s1 w1 a1 f1
    refine ⟨m1, w1, en.mono s1, ?_⟩
    have q := RQ.back s1 q
    change RQ (kx X W) σ m1 H1 ((h ρ S1).bind fun y S2 => g x y S2) Q at q
    cases hh : h ρ S1 with
    | bad => rw [hh] at q; exact q.elim
    | exc y S2 => rw [hh] at q; exact q
    | ok y S2 =>
      rw [hh] at q
      intro v2 m2 H2 s2 w2 a2 f2
      exact ho σ m2 H2 S2 v v2 x y Q w2 (a1.mono s2) a2 (RQ.back s2 q)
theorem je_op {op : Operator} {r : R2} {g : D → D → Option RD} {a b : Expr} {pos : Pos} {f h : AE → SS → R} (ho : OpR X (binaryOp op) r) (hv : OpV X.K r g) (ja : JE X W a f) (jb : JE X W b h) : JE X W (.BinOp a op b pos) (eBin g f h) := fun ρ S => by
  obtain ⟨ta, tb, ha, hb, i⟩ := two ja jb (g := ap2 g) (rr := r) (fun σ m H S x y u w Q w1 a1 a2 q => ap2_ok (K := X.K) (k := kx X W) hv w1 a1 a2 q) ρ S
  exact PE.imp (pe_op ho ha hb) i
theorem je_cmp {op : CmpOp} {r : R2} {g : D → D → Option RD} {a b : Expr} {pos : Pos} {f h : AE → SS → R} (ho : OpR X (compareOp op) r) (hv : OpV X.K r g) (ja : JE X W a f) (jb : JE X W b h) (hm : behindInMarks op b = false := by first | exact nomark _ | rfl) : JE X W (.Compare a [op] [b] pos) (eBin g f h) := fun ρ S => by
  obtain ⟨ta, tb, ha, hb, i⟩ := two ja jb (g := ap2 g) (rr := r) (fun σ m H S x y u w Q w1 a1 a2 q => ap2_ok (K := X.K) (k := kx X W) hv w1 a1 a2 q) ρ S
  exact PE.imp (pe_cmpR ho ha hb hm) i
/-! a value as a test -/
def truth : D → Option Bool
  | .non => some false
  | .bl b => some b
  | .int i => some (i != 0)
  | .str s => if s.length ≤ sizeLine then some ((s.length : Int) != 0) else none
  | .tup ds => some (!ds.isEmpty)
  | .lst ds => some (!ds.isEmpty)
  | .dct es => none
  | .scr ns => some (!ns.isEmpty)
  | .ty _ => none
  | .opq => none
def tru (a : AV) (S : SS) : RB := match view a S with
  | some d => (match truth d with
    | some b => .ok b S
    | none => .bad)
  | none => .bad
def bl2 (g : D → D → Option RD) (x y : AV) (S : SS) : RB := match view x S, view y S with
  | some d, some e => (match g d e with
    | some (.dt (.bl b)) => .ok b S
    | _ => .bad)
  | _, _ => .bad
def tBin (g : D → D → Option RD) (f h : AE → SS → R) : AE → SS → RB := fun ρ S => (f ρ S).toB fun x S1 => (h ρ S1).toB fun y S2 => bl2 g x y S2
theorem jt_cmp {op : CmpOp} {r : R2} {g : D → D → Option RD} {a b : Expr} {pos : Pos} {f h : AE → SS → R} (ho : OpR X (compareOp op) r) (hv : OpV X.K r g) (ja : JE X W a f) (jb : JE X W b h) (hm : behindInMarks op b = false := by first | exact nomark _ | rfl) : JT X W (.Compare a [op] [b] pos) (tBin g f h) := fun ρ S => by
  cases hf : f ρ S with
  | bad => exact PT.imp (pt_cmpR ho (ja ρ S) (jb ρ S) hm) fun σ H Q ⟨m, w, en, q⟩ => by unfold tBin at q; rw [hf] at q; exact q.elim
  | exc x S1 => exact PT.imp (pt_cmpR ho (ja ρ S) (jb ρ S) hm) fun σ H Q ⟨m, w, en, q⟩ => ⟨m, w, en, by unfold tBin at q; rw [hf] at q ⊢; exact q⟩
  | ok x S1 =>
    refine PT.imp (pt_cmpR ho (ja ρ S) (jb ρ S1) hm) fun σ H Q ⟨m, w, en, q⟩ => ⟨m, w, en, ?_⟩
    unfold tBin at q
    rw [hf] at q ⊢
    intro v m1 H1 s1 w1 a1 f1
    refine ⟨m1, w1, en.mono s1, ?_⟩
    have q := RBQ.back s1 q
    change RBQ (kx X W) σ m1 H1 ((h ρ S1).toB fun y S2 => bl2 g x y S2) Q at q
    cases hh : h ρ S1 with
    | bad => rw [hh] at q; exact q.elim
    | exc y S2 => rw [hh] at q; exact q
    | ok y S2 =>
      rw [hh] at q
      intro v2 m2 H2 s2 w2 a2 f2
      have q := RBQ.back s2 q
      change RBQ (kx X W) σ m2 H2 (bl2 g x y S2) Q at q
      unfold bl2 at q
      split at q
      · rename_i d e hd he
        split at q
        · rename_i b hz
          refine hv m2.P H2 v v2 d e _ _ (view_rep w2 (a1.mono s2) hd) (view_rep w2 a2 he) hz fun u H' n => ?_
          obtain ⟨t1, t2, t3, t4⟩ := n.step w2
          have t5 : Rep X.K m2.P H' u (.bl b) := t3
          cases t5
          exact ⟨b, rfl, q m2 H' t1 t2⟩
        · exact q.elim
      · exact q.elim
theorem truV_of {K : PySem.W.Frag} {P : Addr → Prop} {H : Hp} {v : V} {d : D} {b : Bool} (h : RepV K P H v d) (e : truth d = some b) : TruV K v H b := by
  cases d with
  | non => cases (show Rep K P H v .non from h); cases e; exact rfl
  | bl c => cases (show Rep K P H v (.bl c) from h); cases e; exact rfl
  | int i => cases (show Rep K P H v (.int i) from h); cases e; exact rfl
  | str s =>
    cases (show Rep K P H v (.str s) from h)
    by_cases c : s.length ≤ sizeLine
    · have e : (if s.length ≤ sizeLine then some ((s.length : Int) != 0) else none) = some b := e
      rw [if_pos c] at e
      cases e
      exact ⟨c, rfl⟩
    · have e : (if s.length ≤ sizeLine then some ((s.length : Int) != 0) else none) = some b := e
      rw [if_neg c] at e
      cases e
  | tup ds =>
    cases (show Rep K P H v (.tup ds) from h) with
    | tup c r =>
      cases e
      refine .inr (.inl ⟨_, c, ?_⟩)
      cases r <;> rfl
  | lst ds =>
    obtain ⟨a, xs, rfl, c, r⟩ := h
    cases e
    refine .inl ⟨_, .of c, ?_⟩
    cases r <;> rfl
  | dct es => cases e
  | ty n => cases e
  | opq => cases e
  | scr ns =>
    cases (show Rep K P H v (.scr ns) from h) with
    | scr c =>
      cases e
      refine .inl ⟨_, c.l, ?_⟩
      cases ns <;> rfl
def tVal (f : AE → SS → R) : AE → SS → RB := fun ρ S => (f ρ S).toB tru
theorem jt_val {e : Expr} {f : AE → SS → R} (h : JE X W e f) (he : ∀ whole, isTrue e X.env whole = (do let v ← whole; standAt e.pos; holding [v] (truthy v)) := by intro _; rfl) : JT X W e (tVal f) := fun ρ S =>
  PT.imp (pt_truth (h ρ S) he) fun σ H Q ⟨m, w, en, q⟩ => ⟨m, w, en, by
    unfold tVal at q
    cases hf : f ρ S with
    | bad => rw [hf] at q; exact q.elim
    | exc x S1 => rw [hf] at q; exact q
    | ok x S1 =>
      rw [hf] at q
      intro v m1 H1 s1 w1 a1 f1
      have q := RBQ.back s1 q
      change RBQ (kx X W) σ m1 H1 (tru x S1) Q at q
      unfold tru at q
      split at q
      · rename_i d hd
        split at q
        · rename_i b hb
          exact ⟨b, truV_of (view_rep w1 a1 hd) hb, q m1 H1 (.refl _ _) w1⟩
        · exact q.elim
      · exact q.elim⟩
end
end Ew

set_option Elab.async false
set_option linter.all false
set_option maxRecDepth 100000
set_option maxHeartbeats 4000000
namespace Ew
open PySem PySem.Spec PyProof.Rows L2

section
variable {X : Cx} {W : WX}
/-! ### and, or, not, if as values and as tests -/
def eAnd (f h : AE → SS → R) : AE → SS → R := fun ρ S => (f ρ S).bind fun x S1 => match x with
  | .dat (.bl true) => h ρ S1
  | .dat (.bl false) => .ok (.dat (.bl false)) S1
  | _ => .bad
def eOr (f h : AE → SS → R) : AE → SS → R := fun ρ S => (f ρ S).bind fun x S1 => match x with
  | .dat (.bl false) => h ρ S1
  | .dat (.bl true) => .ok (.dat (.bl true)) S1
  | _ => .bad
def eNot (f : AE → SS → R) : AE → SS → R := fun ρ S => (f ρ S).bind fun x S1 => match x with
  | .dat (.bl b) => .ok (.dat (.bl (!b))) S1
  | _ => .bad
theorem je_one {op a pos} {f : AE → SS → R} (h : JE X W a f) : JE X W (.BoolOp op [a] pos) f := fun ρ S => pe_one (h ρ S)
theorem je_and {a b : Expr} {rest : List Expr} {pos : Pos} {f h : AE → SS → R} (ja : JE X W a f) (jb : JE X W (.BoolOp .And (b :: rest) pos) h) : JE X W (.BoolOp .And (a :: b :: rest) pos) (eAnd f h) := fun ρ S => by
  cases hf : f ρ S with
  | bad => exact PE.imp (pe_and (ja ρ S) (jb ρ S)) fun σ H Q ⟨m, w, en, q⟩ => by unfold eAnd at q; rw [hf] at q; exact q.elim
  | exc x S1 => exact PE.imp (pe_and (ja ρ S) (jb ρ S)) fun σ H Q ⟨m, w, en, q⟩ => ⟨m, w, en, by unfold eAnd at q; rw [hf] at q ⊢; exact q⟩
  | ok x S1 =>
    refine PE.imp (pe_and (ja ρ S) (jb ρ S1)) fun σ H Q ⟨m, w, en, q⟩ => ⟨m, w, en, ?_⟩
    unfold eAnd at q
    rw [hf] at q ⊢
    intro v m1 H1 s1 w1 a1 f1
    have q := RQ.back s1 q
    dsimp only [R.bind] at q
    split at q
    · cases (show Rep _ _ _ v (.bl true) from a1)
      exact ⟨true, rfl, iteT ⟨m1, w1, en.mono s1, q⟩⟩
    · cases (show Rep _ _ _ v (.bl false) from a1)
      exact ⟨false, rfl, iteF (q _ m1 H1 (.refl _ _) w1 (.bl false) trivial)⟩
    · exact q.elim
theorem je_or {a b : Expr} {rest : List Expr} {pos : Pos} {f h : AE → SS → R} (ja : JE X W a f) (jb : JE X W (.BoolOp .Or (b :: rest) pos) h) : JE X W (.BoolOp .Or (a :: b :: rest) pos) (eOr f h) := fun ρ S => by
  cases hf : f ρ S with
  | bad => exact PE.imp (pe_or (ja ρ S) (jb ρ S)) fun σ H Q ⟨m, w, en, q⟩ => by unfold eOr at q; rw [hf] at q; exact q.elim
  | exc x S1 => exact PE.imp (pe_or (ja ρ S) (jb ρ S)) fun σ H Q ⟨m, w, en, q⟩ => ⟨m, w, en, by unfold eOr at q; rw [hf] at q ⊢; exact q⟩
  | ok x S1 =>
    refine PE.imp (pe_or (ja ρ S) (jb ρ S1)) fun σ H Q ⟨m, w, en, q⟩ => ⟨m, w, en, ?_⟩
    unfold eOr at q
    rw [hf] at q ⊢
    intro v m1 H1 s1 w1 a1 f1
    have q := RQ.back s1 q
    dsimp only [R.bind] at q
    split at q
    · cases (show Rep _ _ _ v (.bl false) from a1)
      exact ⟨false, rfl, iteF ⟨m1, w1, en.mono s1, q⟩⟩
    · cases (show Rep _ _ _ v (.bl true) from a1)
      exact ⟨true, rfl, iteT (q _ m1 H1 (.refl _ _) w1 (.bl true) trivial)⟩
    · exact q.elim
theorem je_not {a : Expr} {pos : Pos} {f : AE → SS → R} (ja : JE X W a f) : JE X W (.UnaryOp .Not a pos) (eNot f) := fun ρ S => by
  refine PE.imp (pe_not (ja ρ S)) fun σ H Q ⟨m, w, en, q⟩ => ⟨m, w, en, ?_⟩
  unfold eNot at q
  cases hf : f ρ S with
  | bad => rw [hf] at q; exact q.elim
  | exc x S1 => rw [hf] at q; exact q
  | ok x S1 =>
    rw [hf] at q
    intro v m1 H1 s1 w1 a1 f1
    have q := RQ.back s1 q
    dsimp only [R.bind] at q
    split at q
    · rename_i c _
      cases (show Rep _ _ _ v (.bl c) from a1)
      exact ⟨c, rfl, q _ m1 H1 (.refl _ _) w1 (.bl _) trivial⟩
    · exact q.elim
def eIf (t : AE → SS → RB) (f h : AE → SS → R) : AE → SS → R := fun ρ S => (t ρ S).toR fun b S1 => match b with
  | true => f ρ S1
  | false => h ρ S1
theorem je_if {c a b : Expr} {pos : Pos} {t : AE → SS → RB} {f h : AE → SS → R} (jc : JT X W c t) (ja : JE X W a f) (jb : JE X W b h) : JE X W (.IfExp c a b pos) (eIf t f h) := fun ρ S => by
  cases ht : t ρ S with
  | bad => exact PE.imp (pe_ifExp (jc ρ S) (ja ρ S) (jb ρ S)) fun σ H Q ⟨m, w, en, q⟩ => by unfold eIf at q; rw [ht] at q; exact q.elim
  | exc x S1 => exact PE.imp (pe_ifExp (jc ρ S) (ja ρ S) (jb ρ S)) fun σ H Q ⟨m, w, en, q⟩ => ⟨m, w, en, by unfold eIf at q; rw [ht] at q ⊢; exact q⟩
  | ok b S1 =>
    refine PE.imp (pe_ifExp (jc ρ S) (ja ρ S1) (jb ρ S1)) fun σ H Q ⟨m, w, en, q⟩ => ⟨m, w, en, ?_⟩
    unfold eIf at q
    rw [ht] at q ⊢
    intro m1 H1 s1 w1
    have q := RQ.back s1 q
    cases b with
    | true => exact iteT ⟨m1, w1, en.mono s1, q⟩
    | false => exact iteF ⟨m1, w1, en.mono s1, q⟩
/-! tests -/
def tNt (t : AE → SS → RB) : AE → SS → RB := fun ρ S => (t ρ S).bind fun b S1 => .ok (!b) S1
theorem jt_not {a : Expr} {pos : Pos} {t : AE → SS → RB} (ja : JT X W a t) : JT X W (.UnaryOp .Not a pos) (tNt t) := fun ρ S => by
  refine PT.imp (pt_not (ja ρ S)) fun σ H Q ⟨m, w, en, q⟩ => ⟨m, w, en, ?_⟩
  unfold tNt at q
  cases ht : t ρ S with
  | bad => rw [ht] at q; exact q.elim
  | exc x S1 => rw [ht] at q; exact q
  | ok b S1 => rw [ht] at q; exact q
def JW (X : Cx) (W : WX) (e : Expr) (f : AE → SS → RB) : Prop := ∀ ρ S, PW X e (tRB (kx X W) ρ S (f ρ S))
theorem PW.imp {e : Expr} {t t' : TT} (h : PW X e t) (i : ∀ σ H Q, t' σ H Q → t σ H Q) : PW X e t' := ⟨fun wh pins s σ H Q I q => h.run wh pins s σ H Q I (i σ H Q q)⟩
theorem jt_w {e : Expr} {f : AE → SS → RB} (h : JW X W e f) : JT X W e f := fun ρ S => (h ρ S).pt
theorem jw_and1 {a : Expr} {pos : Pos} {t : AE → SS → RB} (h : JT X W a t) : JW X W (.BoolOp .And [a] pos) t := fun ρ S => pw_and1 (h ρ S)
theorem jw_or1 {a : Expr} {pos : Pos} {t : AE → SS → RB} (h : JT X W a t) : JW X W (.BoolOp .Or [a] pos) t := fun ρ S => pw_or1 (h ρ S)
def tAn (t u : AE → SS → RB) : AE → SS → RB := fun ρ S => (t ρ S).bind fun b S1 => match b with
  | true => u ρ S1
  | false => .ok false S1
def tO (t u : AE → SS → RB) : AE → SS → RB := fun ρ S => (t ρ S).bind fun b S1 => match b with
  | true => .ok true S1
  | false => u ρ S1
theorem jw_and {a b : Expr} {rest : List Expr} {pos : Pos} {t u : AE → SS → RB} (ja : JT X W a t) (jb : JW X W (.BoolOp .And (b :: rest) pos) u) : JW X W (.BoolOp .And (a :: b :: rest) pos) (tAn t u) := fun ρ S => by
  cases ht : t ρ S with
  | bad => exact PW.imp (pw_and (ja ρ S) (jb ρ S)) fun σ H Q ⟨m, w, en, q⟩ => by unfold tAn at q; rw [ht] at q; exact q.elim
  | exc x S1 => exact PW.imp (pw_and (ja ρ S) (jb ρ S)) fun σ H Q ⟨m, w, en, q⟩ => ⟨m, w, en, by unfold tAn at q; rw [ht] at q ⊢; exact q⟩
  | ok b S1 =>
    refine PW.imp (pw_and (ja ρ S) (jb ρ S1)) fun σ H Q ⟨m, w, en, q⟩ => ⟨m, w, en, ?_⟩
    unfold tAn at q
    rw [ht] at q ⊢
    intro m1 H1 s1 w1
    have q := RBQ.back s1 q
    cases b with
    | true => exact iteT ⟨m1, w1, en.mono s1, q⟩
    | false => exact iteF (q m1 H1 (.refl _ _) w1)
theorem jw_or {a b : Expr} {rest : List Expr} {pos : Pos} {t u : AE → SS → RB} (ja : JT X W a t) (jb : JW X W (.BoolOp .Or (b :: rest) pos) u) : JW X W (.BoolOp .Or (a :: b :: rest) pos) (tO t u) := fun ρ S => by
  cases ht : t ρ S with
  | bad => exact PW.imp (pw_or (ja ρ S) (jb ρ S)) fun σ H Q ⟨m, w, en, q⟩ => by unfold tO at q; rw [ht] at q; exact q.elim
  | exc x S1 => exact PW.imp (pw_or (ja ρ S) (jb ρ S)) fun σ H Q ⟨m, w, en, q⟩ => ⟨m, w, en, by unfold tO at q; rw [ht] at q ⊢; exact q⟩
  | ok b S1 =>
    refine PW.imp (pw_or (ja ρ S) (jb ρ S1)) fun σ H Q ⟨m, w, en, q⟩ => ⟨m, w, en, ?_⟩
    unfold tO at q
    rw [ht] at q ⊢
    intro m1 H1 s1 w1
    have q := RBQ.back s1 q
    cases b with
    | false => exact iteF ⟨m1, w1, en.mono s1, q⟩
    | true => exact iteT (q m1 H1 (.refl _ _) w1)

/-! ### arguments -/
def aNil : AE → SS → RA := fun _ S => .ok [] S
def aCons (f : AE → SS → R) (h : AE → SS → RA) : AE → SS → RA := fun ρ S => (f ρ S).toA fun x S1 => (h ρ S1).bind fun xs S2 => .ok (x :: xs) S2
theorem ja_nil : JA X W [] aNil := fun ρ S => PA.imp pa_nil fun σ H Q ⟨m, w, en, q⟩ => q [] m H (.refl _ _) w .nil .nil
theorem ja_cons {e : Expr} {es : List Expr} {f : AE → SS → R} {h : AE → SS → RA} (ja : JE X W e f) (jr : JA X W es h) (hs : starEach (e :: es) X.env = (false, eval e X.env) :: starEach es X.env := by rfl) : JA X W (e :: es) (aCons f h) := fun ρ S => by
  cases hf : f ρ S with
  | bad => exact PA.imp (pa_cons (ja ρ S) (jr ρ S) hs) fun σ H Q ⟨m, w, en, q⟩ => by unfold aCons at q; rw [hf] at q; exact q.elim
  | exc x S1 => exact PA.imp (pa_cons (ja ρ S) (jr ρ S) hs) fun σ H Q ⟨m, w, en, q⟩ => ⟨m, w, en, by unfold aCons at q; rw [hf] at q ⊢; exact q⟩
  | ok x S1 =>
    refine PA.imp (pa_cons (ja ρ S) (jr ρ S1) hs) fun σ H Q ⟨m, w, en, q⟩ => ⟨m, w, en, ?_⟩
    unfold aCons at q
    rw [hf] at q ⊢
    intro v m1 H1 s1 w1 a1 f1
    refine ⟨m1, w1, en.mono s1, ?_⟩
    change RAQ (kx X W) σ m H ((h ρ S1).bind fun xs S2 => .ok (x :: xs) S2) Q at q
    cases hh : h ρ S1 with
    | bad => rw [hh] at q; exact q.elim
    | exc y S2 => rw [hh] at q; exact RAQ.back s1 q
    | ok ys S2 =>
      rw [hh] at q
      intro vs m2 H2 s2 w2 a2 f2
      exact q (v :: vs) m2 H2 (s1.trans s2) w2 (.cons (a1.mono s2) a2) (.cons f1 (L2.Paired.mapP f2 fun _ _ z => AVF.back s1 z))

/-! ### built-in functions that read -/
def views : List AV → SS → Option (List D)
  | [], _ => some []
  | a :: as, S => match view a S, views as S with
    | some d, some ds => some (d :: ds)
    | _, _ => none
def ap (g : List D → Option RD) (as : List AV) (S : SS) : R := match views as S with
  | some ds => (match g ds with
    | some z => .ok z.av S
    | none => .bad)
  | none => .bad
theorem views_rep {K : PySem.W.Frag} {m : Mem} {H : Hp} {S : SS} (w : Wd K m H S) : ∀ {vs : List V} {as : List AV} {ds : List D}, Paired (AVR K m H) vs as → views as S = some ds → Paired (RepV K m.P H) vs ds
  | _, _, _, .nil, e => by cases e; exact .nil
  | _, _, _, .cons (a := v) (b := a) h t, e => by
    unfold views at e
    split at e
    · rename_i d ds e1 e2
      cases e
      exact .cons (view_rep w h e1) (views_rep w t e2)
    · cases e
def CallV (K : PySem.W.Frag) (r : List V → Hp → VK → Prop) (g : List D → Option RD) : Prop :=
  ∀ (P : Addr → Prop) (H : Hp) (vs : List V) (ds : List D) (z : RD) (Q : VK), Paired (RepV K P H) vs ds → g ds = some z → (∀ v H', NewR K P H H' v z → Q v H') → r vs H Q
def eAp (g : List D → Option RD) (f : AE → SS → RA) : AE → SS → R := fun ρ S => (f ρ S).toR (ap g)
theorem ap_ok {K : PySem.W.Frag} {k : Kx} {r : List V → Hp → VK → Prop} {g : List D → Option RD} (h : CallV k.K r g) {σ : L2.St} {m : Mem} {H : Hp} {S : SS} {vs : List V} {as : List AV} {Q : VK} (w : Wd k.K m H S) (ha : Paired (AVR k.K m H) vs as) (q : RQ k σ m H (ap g as S) Q) : r vs H Q := by
  unfold ap at q
  split at q
  · rename_i ds hd
    split at q
    · rename_i z hz
      refine h m.P H vs ds z Q (views_rep w ha hd) hz fun v H' n => ?_
      obtain ⟨s1, s2, s3, s4⟩ := n.step w
      exact q v m H' s1 s2 s3 s4
    · exact q.elim
  · exact q.elim
theorem args_of {es : List Expr} {f : AE → SS → RA} (ja : JA X W es f) {g : List AV → SS → R} {rr : List V → Hp → VK → Prop} (ho : ∀ (σ : L2.St) (m : Mem) (H : Hp) (S : SS) (vs : List V) (as : List AV) (Q : VK), Wd X.K m H S → Paired (AVR X.K m H) vs as → RQ (kx X W) σ m H (g as S) Q → rr vs H Q) (ρ : AE) (S : SS) (σ : L2.St) (H : Hp) (Q : VK)
    (q : tR (kx X W) ρ S ((f ρ S).toR g) σ H Q) : tCB rr (tRA (kx X W) ρ S (f ρ S)) σ H Q := by
  obtain ⟨m, w, en, q⟩ := q
  refine ⟨m, w, en, ?_⟩
  cases hf : f ρ S with
  | bad => rw [hf] at q; exact q.elim
  | exc x S1 => rw [hf] at q; exact q
  | ok as S1 =>
    rw [hf] at q
    intro vs m1 H1 s1 w1 a1 f1
    exact ho σ m1 H1 S1 vs as Q w1 a1 (RQ.back s1 q)
end
end Ew

set_option Elab.async false
set_option linter.all false
set_option maxRecDepth 100000
set_option maxHeartbeats 4000000
namespace Ew
open PySem PySem.Spec PyProof.Rows L2

section
variable {X : Cx} {W : WX}
theorem je_callB {id : String} {r : List V → Hp → VK → Prop} {g : List D → Option RD} {x : Str} {e : Expr} {es : List Expr} {p pos : Pos} {f : AE → SS → RA} (hc : CallR X (.builtin id) r) (hv' : CallV X.K r g) (hm : X.mg x = none) (hv : bootBuiltins x = some (.builtin id)) (ja : JA X W (e :: es) f)
    (hg : Gl X x := by rfl) (hn : x ≠ "__name__" := by decide) (hdb : (x == ("__debug__" : Str)) = false := by decide)
    (he : starEach (e :: es) X.env = (false, eval e X.env) :: starEach es X.env := by rfl) (hpl : (backTo pos (starEach es X.env)).any (·.1) = false := by rfl) : JE X W (.Call (.Name x p) (e :: es) [] pos) (eAp g f) := fun ρ S =>
  PE.imp (pe_callB hc hg hm hv (ja ρ S) hn hdb he hpl) fun σ H Q q => args_of ja (g := ap g) (rr := r) (fun σ m H S vs as Q w1 a1 q => ap_ok (K := X.K) (k := kx X W) hv' w1 a1 q) ρ S σ H Q q
theorem je_callT {T : String} {r : List V → Hp → VK → Prop} {g : List D → Option RD} {x : Str} {e : Expr} {es : List Expr} {p pos : Pos} {f : AE → SS → RA} (hc : CallR X (.type T) r) (hv' : CallV X.K r g) (hm : X.mg x = none) (hv : bootBuiltins x = some (.type T)) (ja : JA X W (e :: es) f)
    (hg : Gl X x := by rfl) (hn : x ≠ "__name__" := by decide) (hdb : (x == ("__debug__" : Str)) = false := by decide)
    (he : starEach (e :: es) X.env = (false, eval e X.env) :: starEach es X.env := by rfl) (hpl : (backTo pos (starEach es X.env)).any (·.1) = false := by rfl) : JE X W (.Call (.Name x p) (e :: es) [] pos) (eAp g f) := fun ρ S =>
  PE.imp (pe_callTy hc hg hm hv (ja ρ S) hn hdb he hpl) fun σ H Q q => args_of ja (g := ap g) (rr := r) (fun σ m H S vs as Q w1 a1 q => ap_ok (K := X.K) (k := kx X W) hv' w1 a1 q) ρ S σ H Q q

/-! ### methods of built-in types that read -/
def tyD (T : String) : D → Bool
  | .str _ => T == "str"
  | .lst _ => T == "list"
  | .dct _ => false
  | _ => false
theorem tyD_ok {K : PySem.W.Frag} {P : Addr → Prop} {H : Hp} {v : V} {d : D} {T : String} (h : RepV K P H v d) (e : tyD T d = true) : tyV K T v H := by
  cases d with
  | str s =>
    cases (show Rep K P H v (.str s) from h)
    exact beq_iff_eq.mp e
  | lst ds =>
    obtain ⟨a, xs, rfl, c, r⟩ := h
    exact .inl ⟨beq_iff_eq.mp e, xs, .of c⟩
  | _ => cases e
def MtV (K : PySem.W.Frag) (r : V → List V → Hp → VK → Prop) (g : D → List D → Option RD) : Prop :=
  ∀ (P : Addr → Prop) (H : Hp) (x : V) (d : D) (vs : List V) (ds : List D) (z : RD) (Q : VK), RepV K P H x d → Paired (RepV K P H) vs ds → g d ds = some z → (∀ v H', NewR K P H H' v z → Q v H') → r x vs H Q
def apM (g : D → List D → Option RD) (a : AV) (as : List AV) (S : SS) : R := match view a S, views as S with
  | some d, some ds => (match g d ds with
    | some z => .ok z.av S
    | none => .bad)
  | _, _ => .bad
/-- the receiver has the type at once; the arguments are reckoned behind it -/
def eMt (T : String) (g : D → List D → Option RD) (f : AE → SS → R) (h : AE → SS → RA) : AE → SS → R := fun ρ S => (f ρ S).bind fun x S1 => match view x S1 with
  | some d => (match tyD T d with
    | true => (h ρ S1).toR fun as S2 => apM g x as S2
    | false => .bad)
  | none => .bad
theorem apM_ok {K : PySem.W.Frag} {k : Kx} {r : V → List V → Hp → VK → Prop} {g : D → List D → Option RD} (h : MtV k.K r g) {σ : L2.St} {m : Mem} {H : Hp} {S : SS} {x : V} {a : AV} {vs : List V} {as : List AV} {Q : VK} (w : Wd k.K m H S) (hx : AVR k.K m H x a) (ha : Paired (AVR k.K m H) vs as) (q : RQ k σ m H (apM g a as S) Q) : r x vs H Q := by
  unfold apM at q
  split at q
  · rename_i d ds hd hds
    split at q
    · rename_i z hz
      refine h m.P H x d vs ds z Q (view_rep w hx hd) (views_rep w ha hds) hz fun v H' n => ?_
      obtain ⟨s1, s2, s3, s4⟩ := n.step w
      exact q v m H' s1 s2 s3 s4
    · exact q.elim
  · exact q.elim
theorem je_mt {T : String} {id : String} {name : Str} {r : V → List V → Hp → VK → Prop} {g : D → List D → Option RD} {o e : Expr} {es : List Expr} {apos pos : Pos} {f : AE → SS → R} {h : AE → SS → RA} (hm : MtR X id r) (hv : MtV X.K r g)
    (pb : ∀ {to : TE} {t : TA}, PE X o to → PA X (e :: es) t → PE X (.Call (.Attribute o name apos) (e :: es) [] pos) (tBM X.K T r to t)) (jo : JE X W o f) (ja : JA X W (e :: es) h) : JE X W (.Call (.Attribute o name apos) (e :: es) [] pos) (eMt T g f h) := fun ρ S => by
  cases hf : f ρ S with
  | bad => exact PE.imp (pb (jo ρ S) (ja ρ S)) fun σ H Q ⟨m, w, en, q⟩ => by unfold eMt at q; rw [hf] at q; exact q.elim
  | exc x S1 => exact PE.imp (pb (jo ρ S) (ja ρ S)) fun σ H Q ⟨m, w, en, q⟩ => ⟨m, w, en, by unfold eMt at q; rw [hf] at q ⊢; exact q⟩
  | ok x S1 =>
    refine PE.imp (pb (jo ρ S) (ja ρ S1)) fun σ H Q ⟨m, w, en, q⟩ => ⟨m, w, en, ?_⟩
    unfold eMt at q
    rw [hf] at q ⊢
    intro v m1 H1 s1 w1 a1 f1
    have q := RQ.back s1 q
    dsimp only [R.bind] at q
    split at q
    · rename_i d hd
      split at q
      · rename_i ht
        refine ⟨tyD_ok (view_rep w1 a1 hd) ht, m1, w1, en.mono s1, ?_⟩
        cases hh : h ρ S1 with
        | bad => rw [hh] at q; exact q.elim
        | exc y S2 => rw [hh] at q; exact q
        | ok as S2 =>
          rw [hh] at q
          intro vs m2 H2 s2 w2 a2 f2
          exact apM_ok (K := X.K) (k := kx X W) hv w2 (a1.mono s2) a2 (RQ.back s2 q)
      · exact q.elim
    · exact q.elim
/-- no arguments -/
def eMt0 (T : String) (g : D → List D → Option RD) (f : AE → SS → R) : AE → SS → R := fun ρ S => (f ρ S).bind fun x S1 => match view x S1 with
  | some d => (match tyD T d with
    | true => apM g x [] S1
    | false => .bad)
  | none => .bad
theorem je_mt0 {T : String} {id : String} {name : Str} {r : V → List V → Hp → VK → Prop} {g : D → List D → Option RD} {o : Expr} {apos pos : Pos} {f : AE → SS → R} (hm : MtR X id r) (hv : MtV X.K r g)
    (pb : ∀ {to : TE}, PE X o to → PE X (.Call (.Attribute o name apos) [] [] pos) (tBM0 X.K T r to)) (jo : JE X W o f) : JE X W (.Call (.Attribute o name apos) [] [] pos) (eMt0 T g f) := fun ρ S => by
  refine PE.imp (pb (jo ρ S)) fun σ H Q ⟨m, w, en, q⟩ => ⟨m, w, en, ?_⟩
  unfold eMt0 at q
  cases hf : f ρ S with
  | bad => rw [hf] at q; exact q.elim
  | exc x S1 => rw [hf] at q; exact q
  | ok x S1 =>
    rw [hf] at q
    intro v m1 H1 s1 w1 a1 f1
    have q := RQ.back s1 q
    dsimp only [R.bind] at q
    split at q
    · rename_i d hd
      split at q
      · rename_i ht
        exact ⟨tyD_ok (view_rep w1 a1 hd) ht, apM_ok (K := X.K) (k := kx X W) hv w1 a1 .nil q⟩
      · exact q.elim
    · exact q.elim

/-! ### subscripts -/
def IxV (K : PySem.W.Frag) (r : R2) (g : D → D → Option RD) : Prop := OpV K r g
theorem je_ix {r : R2} {g : D → D → Option RD} {a b : Expr} {pos : Pos} {f h : AE → SS → R} (ho : IxR X r) (hv : OpV X.K r g) (ja : JE X W a f) (jb : JE X W b h) (hs : PlainIx b := by exact fun _ _ => rfl) : JE X W (.Subscript a b pos) (eBin g f h) := fun ρ S => by
  obtain ⟨ta, tb, ha, hb, i⟩ := two ja jb (g := ap2 g) (rr := r) (fun σ m H S x y u w Q w1 a1 a2 q => ap2_ok (K := X.K) (k := kx X W) hv w1 a1 a2 q) ρ S
  exact PE.imp (pe_ix ho ha hb hs) i
/-- a part of a slice -/
inductive RO where
  | ok (o : Option Int) (S : SS) | exc (x : Exn) (S : SS) | bad
def RO.toR (r : RO) (f : Option Int → SS → R) : R := match r with | .ok a S => f a S | .exc x S => .exc x S | .bad => .bad
def R.toO (r : R) : RO := match r with | .ok (.dat (.int i)) S => .ok (some i) S | .exc x S => .exc x S | _ => .bad
def ROQ (k : Kx) (σ : L2.St) (m : Mem) (H : Hp) (r : RO) (Q : Option Int → Hp → Prop) : Prop :=
  match r with
  | .ok b S => ∀ m' H', Step m H m' H' → Wd k.K m' H' S → Q b H'
  | .exc x S => ∀ m' H', Step m H m' H' → Wd k.K m' H' S → WQ k.mg k.W σ x H'
  | .bad => False
def tRO (k : Kx) (ρ : AE) (S : SS) (r : RO) : TO := fun σ H Q => ∃ m, Wd k.K m H S ∧ EnvR k.K m H σ ρ ∧ ROQ k σ m H r Q
def JO (X : Cx) (W : WX) (e : Option Expr) (f : AE → SS → RO) : Prop := ∀ ρ S, PO X e (tRO (kx X W) ρ S (f ρ S))
def oNone : AE → SS → RO := fun _ S => .ok none S
def oSome (f : AE → SS → R) : AE → SS → RO := fun ρ S => (f ρ S).toO
theorem PO.imp {e : Option Expr} {t t' : TO} (h : PO X e t) (i : ∀ σ H Q, t' σ H Q → t σ H Q) : PO X e t' := ⟨fun pins s σ H Q I q => h.run pins s σ H Q I (i σ H Q q)⟩
theorem jo_none : JO X W none oNone := fun ρ S => PO.imp po_none fun σ H Q ⟨m, w, en, q⟩ => q m H (.refl _ _) w
theorem jo_some {e : Expr} {f : AE → SS → R} (j : JE X W e f) : JO X W (some e) (oSome f) := fun ρ S => PO.imp (po_some (j ρ S)) fun σ H Q ⟨m, w, en, q⟩ => ⟨m, w, en, by
  unfold oSome R.toO at q
  cases hf : f ρ S with
  | bad => rw [hf] at q; exact q.elim
  | exc x S1 => rw [hf] at q; exact q
  | ok x S1 =>
    rw [hf] at q
    intro v m1 H1 s1 w1 a1 f1
    split at q
    · rename_i i S2 e
      cases e
      cases (show Rep _ _ _ v (.int i) from a1)
      exact ⟨i, rfl, q m1 H1 s1 w1⟩
    · rename_i e; cases e
    · exact q.elim⟩
def SlV (K : PySem.W.Frag) (r : V → Option Int → Option Int → Hp → VK → Prop) (g : D → Option Int → Option Int → Option RD) : Prop :=
  ∀ (P : Addr → Prop) (H : Hp) (x : V) (d : D) (lo hi : Option Int) (z : RD) (Q : VK), RepV K P H x d → g d lo hi = some z → (∀ v H', NewR K P H H' v z → Q v H') → r x lo hi H Q
def apS (g : D → Option Int → Option Int → Option RD) (a : AV) (lo hi : Option Int) (S : SS) : R := match view a S with
  | some d => (match g d lo hi with
    | some z => .ok z.av S
    | none => .bad)
  | none => .bad
def eSl (g : D → Option Int → Option Int → Option RD) (f : AE → SS → R) (l h : AE → SS → RO) : AE → SS → R := fun ρ S => (f ρ S).bind fun x S1 => (l ρ S1).toR fun lo S2 => (h ρ S2).toR fun hi S3 => apS g x lo hi S3
theorem je_sl {r : V → Option Int → Option Int → Hp → VK → Prop} {g : D → Option Int → Option Int → Option RD} {e : Expr} {lo hi : Option Expr} {p2 pos : Pos} {f : AE → SS → R} {l h : AE → SS → RO} (hr : SlR X r) (hv : SlV X.K r g) (je : JE X W e f) (jl : JO X W lo l) (jh : JO X W hi h) : JE X W (.Subscript e (.Slice lo hi none p2) pos) (eSl g f l h) := fun ρ S => by
  cases hf : f ρ S with
  | bad => exact PE.imp (pe_slice hr (je ρ S) (jl ρ S) (jh ρ S)) fun σ H Q ⟨m, w, en, q⟩ => by unfold eSl at q; rw [hf] at q; exact q.elim
  | exc x S1 => exact PE.imp (pe_slice hr (je ρ S) (jl ρ S) (jh ρ S)) fun σ H Q ⟨m, w, en, q⟩ => ⟨m, w, en, by unfold eSl at q; rw [hf] at q ⊢; exact q⟩
  | ok x S1 =>
    cases hl : l ρ S1 with
    | bad => exact PE.imp (pe_slice hr (je ρ S) (jl ρ S1) (jh ρ S1)) fun σ H Q ⟨m, w, en, q⟩ => by unfold eSl at q; rw [hf] at q; dsimp only [R.bind] at q; rw [hl] at q; exact q.elim
    | exc y S2 => exact PE.imp (pe_slice hr (je ρ S) (jl ρ S1) (jh ρ S1)) fun σ H Q ⟨m, w, en, q⟩ => ⟨m, w, en, by
        unfold eSl at q; rw [hf] at q ⊢; dsimp only [R.bind] at q; rw [hl] at q
        intro v m1 H1 s1 w1 a1 f1
        exact ⟨m1, w1, en.mono s1, by rw [hl]; exact RQ.back s1 q⟩⟩
    | ok i S2 =>
      refine PE.imp (pe_slice hr (je ρ S) (jl ρ S1) (jh ρ S2)) fun σ H Q ⟨m, w, en, q⟩ => ⟨m, w, en, ?_⟩
      unfold eSl at q; rw [hf] at q ⊢; dsimp only [R.bind] at q; rw [hl] at q; dsimp only [RO.toR] at q
      intro v m1 H1 s1 w1 a1 f1
      refine ⟨m1, w1, en.mono s1, ?_⟩
      rw [hl]
      intro m2 H2 s2 w2
      refine ⟨m2, w2, (en.mono s1).mono s2, ?_⟩
      have s12 := s1.trans s2
      cases hh : h ρ S2 with
      | bad => rw [hh] at q; exact q.elim
      | exc y S3 => rw [hh] at q; exact RQ.back s12 q
      | ok j S3 =>
        rw [hh] at q
        intro m3 H3 s3 w3
        have q := RQ.back (s12.trans s3) q
        dsimp only [apS] at q
        split at q
        · rename_i d hd
          split at q
          · rename_i z hz
            refine hv m3.P H3 v d i j z Q (view_rep w3 ((a1.mono s2).mono s3) hd) hz fun v' H' n => ?_
            obtain ⟨t1, t2, t3, t4⟩ := n.step w3
            exact q v' m3 H' t1 t2 t3 t4
          · exact q.elim
        · exact q.elim
end
end Ew

set_option Elab.async false
set_option linter.all false
set_option maxRecDepth 100000
set_option maxHeartbeats 4000000
namespace Ew
open PySem PySem.Spec PyProof.Rows L2

/-! ### freezing: a value becomes a datum -/
def AVQ (K : PySem.W.Frag) (m : Mem) (H : Hp) (v : V) : AV → Prop
  | .dat d => Rep K m.P H v d
  | .own n => ∃ p, v = .ref p ∧ m.L[n]? = some p
  | .new o => ∃ p, v = .ref p ∧ p ∉ m.L ∧ o.live = true ∧ OC K m.P H p o
  | .nst is => ∃ p xs, v = .ref p ∧ m.P p ∧ H p = some (.lst xs) ∧ NstL m xs is
theorem AVR.q {K : PySem.W.Frag} {m : Mem} {H : Hp} {v : V} : ∀ {a : AV}, AVR K m H v a → AVQ K m H v a
  | .dat _, h => h
  | .own _, h => h
  | .new _, ⟨p, e, h1, _, h3, h4⟩ => ⟨p, e, h1, h3, h4⟩
  | .nst _, h => h
theorem AVQ.grow {K : PySem.W.Frag} {m : Mem} {P' : Addr → Prop} {H : Hp} {v : V} (g : ∀ b, m.P b → P' b) : ∀ {a : AV}, AVQ K m H v a → AVQ K ⟨m.L, P'⟩ H v a
  | .dat _, h => Rep.mono ⟨fun _ _ h _ => h, fun _ _ _ h => h, g⟩ h
  | .own _, h => h
  | .new _, ⟨p, e, h1, h3, h4⟩ => ⟨p, e, h1, h3, h4.mono ⟨fun _ _ h _ => h, fun _ _ _ h => h, g⟩ rfl⟩
  | .nst _, ⟨p, xs, e, c, h, n⟩ => ⟨p, xs, e, g _ c, h, ⟨n.len, n.at_⟩⟩
def frz : AV → SS → Option (D × SS)
  | .dat d, S => some (d, S)
  | .own n, S => match S[n]? with
    | some o => some (o.toD, S.set n (.fz o.toD))
    | none => none
  | .new o, S => some (o.toD, S)
  | .nst _, _ => none
theorem OC.frozen {K : PySem.W.Frag} {P P' : Addr → Prop} {H : Hp} {p : Addr} (g : ∀ b, P b → P' b) (c : P' p) : ∀ {o : AO}, OC K P H p o → Rep K P' H (.ref p) o.toD
  | .lst _, ⟨xs, h, r⟩ => .lst c h (r.mono ⟨fun _ _ h _ => h, fun _ _ _ h => h, g⟩)
  | .dct _, ⟨xs, h, r⟩ => .dct c (.inl h) (r.mono ⟨fun _ _ h _ => h, fun _ _ _ h => h, g⟩)
  | .fz _, ⟨r, _, _⟩ => r.mono ⟨fun _ _ h _ => h, fun _ _ _ h => h, g⟩
theorem OO.frozen {K : PySem.W.Frag} {m : Mem} {P' : Addr → Prop} {H : Hp} {p : Addr} (g : ∀ b, m.P b → P' b) (c : P' p) : ∀ {o : AO}, OO K m H p o → Rep K P' H (.ref p) o.toD
  | .nx _, _ => .opq _
  | .lst _, ⟨xs, h, r⟩ => .lst c h (r.mono ⟨fun _ _ h _ => h, fun _ _ _ h => h, g⟩)
  | .dct _, ⟨xs, h, r⟩ => .dct c (.inl h) (r.mono ⟨fun _ _ h _ => h, fun _ _ _ h => h, g⟩)
  | .fz _, ⟨r, _, _⟩ => r.mono ⟨fun _ _ h _ => h, fun _ _ _ h => h, g⟩
theorem frz_ok {K : PySem.W.Frag} {m0 m : Mem} {H0 H : Hp} {S S' : SS} {v : V} {a : AV} {d : D} (s : Step m0 H0 m H) (w : Wd K m H S) (h : AVQ K m H v a) (f : AVF H0 v a) (e : frz a S = some (d, S')) :
    ∃ P', (∀ b, m.P b → P' b) ∧ Step m0 H0 ⟨m.L, P'⟩ H ∧ Wd K ⟨m.L, P'⟩ H S' ∧ Rep K P' H v d := by
  cases a with
  | dat d' =>
    cases e
    exact ⟨m.P, fun _ c => c, s, w, h⟩
  | own n =>
    obtain ⟨p, rfl, hp⟩ := h
    dsimp only [frz] at e
    split at e
    · rename_i o ho
      cases e
      have oo := w.obj n p o hp ho
      obtain ⟨u, hu, nu⟩ := oo.there
      have hn : n < S.length := (List.getElem?_eq_some_iff.mp ho).1
      have g : ∀ b, m.P b → (m.P b ∨ b = p) := fun _ c => .inl c
      have st : Stay K m.P H (fun b => m.P b ∨ b = p) H := ⟨fun _ _ h _ => h, fun _ _ _ h => h, g⟩
      refine ⟨fun b => m.P b ∨ b = p, g, ⟨s.ext, s.keep, fun b c => .inl (s.phi b c), fun b c => ?_, s.trk⟩, ⟨?_, w.nd, fun n' p' o' e1 e2 => ?_, fun n' p' o' e1 e2 l => ?_, fun b c => ?_⟩, oo.frozen g (.inr rfl)⟩
      · rcases c with c | rfl
        · exact s.fr b c
        · obtain ⟨ps, el, fr⟩ := s.ext
          have : b ∈ m.L := List.mem_of_getElem? hp
          rw [el] at this
          rcases List.mem_append.mp this with z | z
          · exact .inr (.inl z)
          · exact .inr (.inr (fr b z))
      · rw [List.length_set]; exact w.len
      · by_cases q : n = n'
        · subst q
          rw [List.getElem?_set_self hn] at e2
          cases e2
          change m.L[n]? = some p' at e1
          rw [hp] at e1; cases e1
          exact ⟨oo.frozen g (.inr rfl), .inr rfl, u, hu, nu⟩
        · rw [List.getElem?_set_ne q] at e2
          exact (w.obj n' p' o' e1 e2).mono (m' := ⟨m.L, fun b => m.P b ∨ b = p⟩) st Grow.of rfl
      · by_cases q : n = n'
        · subst q
          rw [List.getElem?_set_self hn] at e2
          cases e2
          cases l
        · rw [List.getElem?_set_ne q] at e2
          rintro (c | rfl)
          · exact w.sep n' p' o' e1 e2 l c
          · exact q ((List.getElem?_inj (List.getElem?_eq_some_iff.mp hp).1 w.nd).mp (hp.trans e1.symm))
      · rcases c with c | rfl
        · exact w.phi b c
        · exact ⟨u, hu⟩
    · cases e
  | new o =>
    obtain ⟨p, rfl, hp, hl, oo⟩ := h
    cases e
    obtain ⟨u, hu, nu⟩ := oo.there
    have g : ∀ b, m.P b → (m.P b ∨ b = p) := fun _ c => .inl c
    have st : Stay K m.P H (fun b => m.P b ∨ b = p) H := ⟨fun _ _ h _ => h, fun _ _ _ h => h, g⟩
    refine ⟨fun b => m.P b ∨ b = p, g, ⟨s.ext, s.keep, fun b c => .inl (s.phi b c), fun b c => ?_, s.trk⟩, ⟨w.len, w.nd, fun n' p' o' e1 e2 => (w.obj n' p' o' e1 e2).mono (m' := ⟨m.L, fun b => m.P b ∨ b = p⟩) st Grow.of rfl, fun n' p' o' e1 e2 l => ?_, fun b c => ?_⟩, oo.frozen g (.inr rfl)⟩
    · rcases c with c | rfl
      · exact s.fr b c
      · exact .inr (.inr (f b rfl))
    · rintro (c | rfl)
      · exact w.sep n' p' o' e1 e2 l c
      · exact hp (List.mem_of_getElem? e1)
    · rcases c with c | rfl
      · exact w.phi b c
      · exact ⟨u, hu⟩
  | nst is => cases e
def frzs : List AV → SS → Option (List D × SS)
  | [], S => some ([], S)
  | a :: as, S => match frz a S with
    | some (d, S1) => (match frzs as S1 with
      | some (ds, S2) => some (d :: ds, S2)
      | none => none)
    | none => none
theorem frzs_ok {K : PySem.W.Frag} {m0 : Mem} {H0 H : Hp} : ∀ {vs : List V} {as : List AV} {m : Mem} {S S' : SS} {ds : List D}, Step m0 H0 m H → Wd K m H S → Paired (AVQ K m H) vs as → Paired (AVF H0) vs as → frzs as S = some (ds, S') →
    ∃ P', (∀ b, m.P b → P' b) ∧ Step m0 H0 ⟨m.L, P'⟩ H ∧ Wd K ⟨m.L, P'⟩ H S' ∧ RepL K P' H vs ds
  | _, _, m, _, _, _, s, w, .nil, .nil, e => by cases e; exact ⟨m.P, fun _ c => c, s, w, .nil⟩
  | _, _, m, _, _, _, s, w, .cons h t, .cons f u, e => by
    unfold frzs at e
    split at e
    · rename_i d S1 e1
      split at e
      · rename_i ds S2 e2
        cases e
        obtain ⟨P1, g1, s1, w1, r1⟩ := frz_ok s w h f e1
        obtain ⟨P2, g2, s2, w2, r2⟩ := frzs_ok (m := ⟨m.L, P1⟩) s1 w1 (L2.Paired.mapP t fun _ _ z => AVQ.grow g1 z) u e2
        exact ⟨P2, fun b c => g2 b (g1 b c), s2, w2, .cons (r1.mono ⟨fun _ _ h _ => h, fun _ _ _ h => h, g2⟩) r2⟩
      · cases e
    · cases e

section
variable {X : Cx} {W : WX}
/-! ### displays -/
def line : Nat := 16777216
theorem line_le {n : Nat} (h : n ≤ line) : n ≤ sizeLine := by rw [sizeLine_eq]; exact h
theorem line_lt {n : Nat} (h : n < line) : n < sizeLine := by rw [sizeLine_eq]; exact h
def mkT (as : List AV) (S : SS) : R := match frzs as S with
  | some (ds, S') => (match decide (ds.length ≤ line) with
    | true => .ok (.dat (.tup ds)) S'
    | false => .bad)
  | none => .bad
def mkL (as : List AV) (S : SS) : R := match frzs as S with
  | some (ds, S') => (match decide (ds.length ≤ line) with
    | true => .ok (.new (.lst ds)) S'
    | false => .bad)
  | none => .bad
theorem RepL.length {K : PySem.W.Frag} {P : Addr → Prop} {H : Hp} : ∀ {vs : List V} {ds : List D}, RepL K P H vs ds → vs.length = ds.length
  | _, _, .nil => rfl
  | _, _, .cons _ t => congrArg (· + 1) (RepL.length t)
def eTup (f : AE → SS → RA) : AE → SS → R := fun ρ S => (f ρ S).toR mkT
def eLst (f : AE → SS → RA) : AE → SS → R := fun ρ S => (f ρ S).toR mkL
theorem je_tup {es : List Expr} {x1} {pos : Pos} {f : AE → SS → RA} (ja : JA X W es f) : JE X W (.Tuple es x1 pos) (eTup f) := fun ρ S => by
  refine PE.imp (pe_tup (ja ρ S)) fun σ H Q ⟨m, w, en, q⟩ => ⟨m, w, en, ?_⟩
  unfold eTup at q
  cases hf : f ρ S with
  | bad => rw [hf] at q; exact q.elim
  | exc x S1 => rw [hf] at q; exact q
  | ok as S1 =>
    rw [hf] at q
    intro vs m1 H1 s1 w1 a1 f1
    dsimp only [RA.toR, mkT] at q
    split at q
    · rename_i ds S2 e
      split at q
      · rename_i hl
        obtain ⟨P', g, s2, w2, r⟩ := frzs_ok s1 w1 (L2.Paired.mapP a1 fun _ _ z => z.q) f1 e
        refine ⟨line_le (by rw [r.length]; exact of_decide_eq_true hl), fun p hp => ?_⟩
        have n : NewR X.K P' H1 (upd H1 p (.tup vs)) (.ref p) (.dt (.tup ds)) := ⟨.inr ⟨p, _, hp, rfl⟩, .tup (.of upd_same) (r.mono (step_upd (m := ⟨m1.L, P'⟩) hp).stay)⟩
        obtain ⟨t1, t2, t3, t4⟩ := NewR.step (m := ⟨m1.L, P'⟩) w2 n
        exact q _ _ _ (s2.trans t1) t2 t3 trivial
      · exact q.elim
    · exact q.elim
theorem je_lst {es : List Expr} {pos : Pos} {f : AE → SS → RA} (ja : JA X W es f) : JE X W (.List es pos) (eLst f) := fun ρ S => by
  refine PE.imp (pe_lst (ja ρ S)) fun σ H Q ⟨m, w, en, q⟩ => ⟨m, w, en, ?_⟩
  unfold eLst at q
  cases hf : f ρ S with
  | bad => rw [hf] at q; exact q.elim
  | exc x S1 => rw [hf] at q; exact q
  | ok as S1 =>
    rw [hf] at q
    intro vs m1 H1 s1 w1 a1 f1
    dsimp only [RA.toR, mkL] at q
    split at q
    · rename_i ds S2 e
      split at q
      · rename_i hl
        obtain ⟨P', g, s2, w2, r⟩ := frzs_ok s1 w1 (L2.Paired.mapP a1 fun _ _ z => z.q) f1 e
        refine ⟨line_le (by rw [r.length]; exact of_decide_eq_true hl), fun p hp => ?_⟩
        have n : NewR X.K P' H1 (upd H1 p (.lst vs)) (.ref p) (.ob (.lst ds)) := ⟨.inr ⟨p, _, hp, rfl⟩, p, rfl, hp, rfl, vs, upd_same, (r.mono (step_upd (m := ⟨m1.L, P'⟩) hp).stay)⟩
        obtain ⟨t1, t2, t3, t4⟩ := NewR.step (m := ⟨m1.L, P'⟩) w2 n
        exact q _ _ _ (s2.trans t1) t2 t3 (AVF.back s2 t4)
      · exact q.elim
    · exact q.elim

/-! ### own functions -/
def pick {α : Type} : List Nat → List α → Option (List α)
  | [], _ => some []
  | n :: ns, l => match l[n]?, pick ns l with
    | some x, some xs => some (x :: xs)
    | _, _ => none
def put {α : Type} : List Nat → List α → List α → List α
  | n :: ns, x :: xs, l => put ns xs (l.set n x)
  | _, _, l => l
def nodupB : List Nat → Bool
  | [] => true
  | n :: ns => !ns.contains n && nodupB ns
def AV.hs : List AV → List Nat
  | [] => []
  | .own n :: as => n :: AV.hs as
  | .nst _ :: as => 0 :: 0 :: AV.hs as
  | _ :: as => AV.hs as
def fz1 : AV → AV
  | .new o => .dat o.toD
  | a => a
def ren (ns : List Nat) : AV → AV
  | .own n => .own (ns.idxOf n)
  | a => a
/-- no object that holds objects -/
def clO : AO → Bool
  | .nx _ => false
  | _ => true
def clB : SS → Bool
  | [] => true
  | o :: S => clO o && clB S
def okL (S' S : SS) : Bool := Nat.beq S'.length S.length && clB S'
def callF (F : List AV → SS → R) (as : List AV) (S : SS) : R :=
  let ns := AV.hs as
  match nodupB ns, pick ns S with
  | true, some Sc => (match clB Sc with
   | false => .bad
   | true => (match F (as.map fun a => ren ns (fz1 a)) Sc with
    | .ok a Sc' => (match okL Sc' Sc with
      | true => (match a with
        | .own i => (match ns[i]? with
          | some n => .ok (.own n) (put ns Sc' S)
          | none => .bad)
        | .nst _ => .bad
        | a => .ok a (put ns Sc' S))
      | false => .bad)
    | .exc x Sc' => (match okL Sc' Sc with
      | true => .exc x (put ns Sc' S)
      | false => .bad)
    | .bad => .bad))
  | _, _ => .bad
/-- the promise of a function whose mirror is F -/
def spOf (K : PySem.W.Frag) (mg : Str → Option Value) (n : Nat) (F : List AV → SS → R) : Sp := fun vs H Q E => vs.length = n ∧ ∃ m S as, Wd K m H S ∧ Paired (AVR K m H) vs as ∧
  match F as S with
  | .ok a S' => S'.length = S.length ∧ ∀ v P' H', Step m H ⟨m.L, P'⟩ H' → Wd K ⟨m.L, P'⟩ H' S' → AVR K ⟨m.L, P'⟩ H' v a → AVF H v a → Q v H'
  | .exc x S' => S'.length = S.length ∧ ∀ P' H', Step m H ⟨m.L, P'⟩ H' → Wd K ⟨m.L, P'⟩ H' S' → ∀ c d, XR mg H' x c d → E c d H'
  | .bad => False
end
end Ew

set_option Elab.async false
set_option linter.all false
set_option maxRecDepth 100000
set_option maxHeartbeats 4000000
namespace Ew
open PySem PySem.Spec PyProof.Rows L2

/-! ### lists by places -/
theorem pick_len {α : Type} : ∀ {ns : List Nat} {l r : List α}, pick ns l = some r → r.length = ns.length
  | [], _, _, e => by cases e; rfl
  | n :: ns, l, r, e => by
    unfold pick at e
    split at e
    · rename_i x xs h1 h2
      cases e
      exact congrArg (· + 1) (pick_len h2)
    · cases e
theorem pick_get {α : Type} : ∀ {ns : List Nat} {l r : List α}, pick ns l = some r → ∀ (i n : Nat), ns[i]? = some n → r[i]? = l[n]?
  | [], _, _, e, i, n, h => by simp at h
  | m :: ns, l, r, e, i, n, h => by
    unfold pick at e
    split at e
    · rename_i x xs h1 h2
      cases e
      cases i with
      | zero =>
        have : m = n := by simpa using h
        subst this
        rw [h1]; rfl
      | succ i => exact pick_get h2 i n (by simpa using h)
    · cases e
theorem pick_some {α β : Type} : ∀ {ns : List Nat} {l : List α} {r : List α} {l' : List β}, l.length = l'.length → pick ns l = some r → ∃ r', pick ns l' = some r'
  | [], _, _, _, _, _ => ⟨[], rfl⟩
  | m :: ns, l, r, l', hl, e => by
    unfold pick at e
    split at e
    · rename_i x xs h1 h2
      obtain ⟨r', e'⟩ := pick_some hl h2
      have hm : m < l'.length := by rw [← hl]; exact (List.getElem?_eq_some_iff.mp h1).1
      exact ⟨l'[m] :: r', by unfold pick; rw [List.getElem?_eq_getElem hm, e']⟩
    · cases e
theorem put_len {α : Type} : ∀ {ns : List Nat} {xs l : List α}, (put ns xs l).length = l.length
  | [], _, _ => by unfold put; rfl
  | _ :: _, [], _ => by unfold put; rfl
  | n :: ns, x :: xs, l => by
    unfold put
    rw [put_len, List.length_set]
theorem put_out {α : Type} {n : Nat} : ∀ {ns : List Nat} {xs l : List α}, n ∉ ns → (put ns xs l)[n]? = l[n]?
  | [], _, _, _ => by unfold put; rfl
  | _ :: _, [], _, _ => by unfold put; rfl
  | m :: ns, x :: xs, l, h => by
    unfold put
    rw [put_out (fun z => h (List.mem_cons_of_mem _ z)), List.getElem?_set_ne (fun z => h (by rw [z]; exact List.mem_cons_self))]
theorem put_in {α : Type} : ∀ {ns : List Nat} {xs l : List α} {i n : Nat} {x : α}, nodupB ns = true → ns[i]? = some n → xs[i]? = some x → n < l.length → (put ns xs l)[n]? = some x
  | [], _, _, _, _, _, _, h, _, _ => by simp at h
  | _ :: _, [], _, _, _, _, _, _, h, _ => by simp at h
  | m :: ns, y :: xs, l, i, n, x, hd, h1, h2, hl => by
    unfold nodupB at hd
    have hd1 : m ∉ ns := by
      have := (Bool.and_eq_true _ _ ▸ hd).1
      simpa using this
    have hd2 := (Bool.and_eq_true _ _ ▸ hd).2
    unfold put
    cases i with
    | zero =>
      have e1 : m = n := by simpa using h1
      have e2 : y = x := by simpa using h2
      subst e1 e2
      rw [put_out hd1, List.getElem?_set_self hl]
    | succ i => exact put_in hd2 (by simpa using h1) (by simpa using h2) (by rw [List.length_set]; exact hl)
theorem nodupB_ok : ∀ {ns : List Nat}, nodupB ns = true → ns.Nodup
  | [], _ => List.nodup_nil
  | n :: ns, h => by
    unfold nodupB at h
    have h1 := (Bool.and_eq_true _ _ ▸ h).1
    have h2 := (Bool.and_eq_true _ _ ▸ h).2
    exact List.nodup_cons.mpr ⟨by simpa using h1, nodupB_ok h2⟩
theorem hs_mem {n : Nat} : ∀ {as : List AV}, AV.own n ∈ as → n ∈ AV.hs as
  | a :: as, h => by
    rcases List.mem_cons.mp h with e | h
    · subst e
      exact List.mem_cons_self
    · have ih := hs_mem h
      cases a with
      | own k => exact List.mem_cons_of_mem _ ih
      | dat d => exact ih
      | new o => exact ih
      | nst is => exact List.mem_cons_of_mem _ (List.mem_cons_of_mem _ ih)
theorem hs_nst {is : List Nat} : ∀ {as : List AV}, AV.nst is ∈ as → nodupB (AV.hs as) = false
  | a :: as, h => by
    rcases List.mem_cons.mp h with e | h
    · subst e
      show (!((0 :: AV.hs as).contains 0) && _) = false
      rw [List.contains_cons, beq_self_eq_true, Bool.true_or]; rfl
    · have ih := hs_nst h
      cases a with
      | own k =>
        show (_ && nodupB (AV.hs as)) = false
        rw [ih, Bool.and_false]
      | dat d => exact ih
      | new o => exact ih
      | nst is =>
        show (!((0 :: AV.hs as).contains 0) && _) = false
        rw [List.contains_cons, beq_self_eq_true, Bool.true_or]; rfl
theorem fz1s_ok {K : PySem.W.Frag} {m0 : Mem} {H0 H : Hp} {S : SS} : ∀ {vs : List V} {as : List AV} {m : Mem}, Step m0 H0 m H → Wd K m H S → Paired (AVQ K m H) vs as → Paired (AVF H0) vs as →
    ∃ P', (∀ b, m.P b → P' b) ∧ Step m0 H0 ⟨m.L, P'⟩ H ∧ Wd K ⟨m.L, P'⟩ H S ∧ Paired (AVR K ⟨m.L, P'⟩ H) vs (as.map fz1)
  | _, _, m, s, w, .nil, .nil => ⟨m.P, fun _ c => c, s, w, .nil⟩
  | _, _, m, s, w, .cons (a := v) (b := a) (l₁ := vs) (l₂ := as) h t, .cons f u => by
    have key : ∃ P1, (∀ b, m.P b → P1 b) ∧ Step m0 H0 ⟨m.L, P1⟩ H ∧ Wd K ⟨m.L, P1⟩ H S ∧ ∀ P2, (∀ b, P1 b → P2 b) → AVR K ⟨m.L, P2⟩ H v (fz1 a) := by
      cases a with
      | dat d => exact ⟨m.P, fun _ c => c, s, w, fun P2 g => Rep.mono ⟨fun _ _ h _ => h, fun _ _ _ h => h, g⟩ h⟩
      | own n => exact ⟨m.P, fun _ c => c, s, w, fun P2 g => h⟩
      | nst is =>
        obtain ⟨p, xs, e, c, h1, h2⟩ := h
        exact ⟨m.P, fun _ c => c, s, w, fun P2 g => ⟨p, xs, e, g _ c, h1, ⟨h2.len, h2.at_⟩⟩⟩
      | new o =>
        obtain ⟨P1, g, s1, w1, r⟩ := frz_ok (d := o.toD) (S' := S) s w h f rfl
        exact ⟨P1, g, s1, w1, fun P2 g2 => Rep.mono ⟨fun _ _ h _ => h, fun _ _ _ h => h, g2⟩ r⟩
    obtain ⟨P1, g1, s1, w1, r1⟩ := key
    obtain ⟨P2, g2, s2, w2, r2⟩ := fz1s_ok (m := ⟨m.L, P1⟩) s1 w1 (L2.Paired.mapP t fun _ _ z => AVQ.grow g1 z) u
    exact ⟨P2, fun b c => g2 b (g1 b c), s2, w2, .cons (r1 P2 g2) r2⟩
theorem idx_get {n : Nat} : ∀ {ns : List Nat}, n ∈ ns → ns[ns.idxOf n]? = some n := fun {ns} h => by
  have h1 : ns.idxOf n < ns.length := List.idxOf_lt_length_of_mem h
  rw [List.getElem?_eq_getElem h1, List.getElem_idxOf h1]
theorem paired_map {α β γ : Type} {F : α → β → Prop} {G : α → γ → Prop} {f : β → γ} : ∀ {xs : List α} {ys : List β}, Paired F xs ys → (∀ x y, y ∈ ys → F x y → G x (f y)) → Paired G xs (ys.map f)
  | _, _, .nil, _ => .nil
  | _, _, .cons h t, g => .cons (g _ _ List.mem_cons_self h) (paired_map t fun x y hy => g x y (List.mem_cons_of_mem _ hy))
theorem clB_get : ∀ {S : SS} {n : Nat} {o : AO}, clB S = true → S[n]? = some o → clO o = true
  | [], _, _, _, h => by simp at h
  | x :: S, n, o, c, h => by
    have c : (clO x && clB S) = true := c
    rw [Bool.and_eq_true] at c
    cases n with
    | zero => have h : some x = some o := h; cases h; exact c.1
    | succ n => exact clB_get c.2 (by simpa using h)
theorem okL_e {S' S : SS} (h : okL S' S = true) : S'.length = S.length ∧ clB S' = true := by
  have h : (Nat.beq S'.length S.length && clB S') = true := h
  rw [Bool.and_eq_true] at h
  exact ⟨Nat.eq_of_beq_eq_true h.1, h.2⟩
theorem OO.cl {K : PySem.W.Frag} {L L' : List Addr} {P : Addr → Prop} {H : Hp} {p : Addr} : ∀ {o : AO}, clO o = true → OO K ⟨L, P⟩ H p o → OO K ⟨L', P⟩ H p o
  | .lst _, _, h => h
  | .dct _, _, h => h
  | .fz _, _, h => h
  | .nx _, c, _ => by cases c
theorem callF_ok {k : Kx} {σ : L2.St} {m0 m : Mem} {H0 H : Hp} {S : SS} {vs : List V} {as : List AV} {F : List AV → SS → R} {Q : VK} {n : Nat} {E : XK} (hE : ∀ c d H', k.W c d σ H' → E c d H') (hn : vs.length = n) (s : Step m0 H0 m H) (w : Wd k.K m H S) (ha : Paired (AVR k.K m H) vs as) (hf : Paired (AVF H0) vs as)
    (q : RQ k σ m0 H0 (callF F as S) Q) : spOf k.K k.mg n F vs H Q E := by
  obtain ⟨P1, g1, s1, w1, r1⟩ := fz1s_ok s w (L2.Paired.mapP ha fun _ _ z => z.q) hf
  unfold callF at q
  dsimp only at q
  generalize hns : AV.hs as = ns at q
  split at q
  · rename_i Sc hnd hpk
    split at q
    · exact q.elim
    rename_i hcl
    obtain ⟨Lc, hLc⟩ := pick_some (l' := m.L) w.len.symm hpk
    have hlen : Sc.length = ns.length := pick_len hpk
    have hLen : Lc.length = ns.length := pick_len hLc
    have nd : ns.Nodup := nodupB_ok hnd
    have nth : ∀ (i : Nat) (p : Addr), Lc[i]? = some p → ∃ n', ns[i]? = some n' ∧ m.L[n']? = some p := fun i p h => by
      have hi := (List.getElem?_eq_some_iff.mp h).1
      rw [hLen] at hi
      exact ⟨ns[i], List.getElem?_eq_getElem hi, by rw [← pick_get hLc i ns[i] (List.getElem?_eq_getElem hi)]; exact h⟩
    have memL : ∀ p, p ∈ Lc → p ∈ m.L := fun p hp => by
      obtain ⟨i, hi, e⟩ := List.mem_iff_getElem.mp hp
      obtain ⟨n', _, h⟩ := nth i p (by rw [List.getElem?_eq_getElem hi, e])
      exact List.mem_of_getElem? h
    have wc : Wd k.K ⟨Lc, P1⟩ H Sc := by
      refine ⟨by rw [hLen, hlen], ?_, fun i p o e1 e2 => ?_, fun i p o e1 e2 l => ?_, w1.phi⟩
      · refine List.pairwise_iff_getElem.mpr fun i j hi hj hij e => ?_
        change Lc[i] = Lc[j] at e
        obtain ⟨a, ha1, ha2⟩ := nth i Lc[i] (List.getElem?_eq_getElem hi)
        obtain ⟨b, hb1, hb2⟩ := nth j Lc[j] (List.getElem?_eq_getElem hj)
        rw [e] at ha2
        have eab : a = b := (List.getElem?_inj (List.getElem?_eq_some_iff.mp ha2).1 w.nd).mp (ha2.trans hb2.symm)
        subst eab
        have := (List.getElem?_inj (List.getElem?_eq_some_iff.mp ha1).1 nd).mp (ha1.trans hb1.symm)
        omega
      · obtain ⟨n', h1, h2⟩ := nth i p e1
        exact (w1.obj n' p o h2 (by rw [← pick_get hpk i n' h1]; exact e2)).cl (clB_get hcl e2)
      · obtain ⟨n', h1, h2⟩ := nth i p e1
        exact w1.sep n' p o h2 (by rw [← pick_get hpk i n' h1]; exact e2) l
    have ac : Paired (AVR k.K ⟨Lc, P1⟩ H) vs (as.map fun a => ren ns (fz1 a)) := by
      have e : (as.map fun a => ren ns (fz1 a)) = (as.map fz1).map (ren ns) := by rw [List.map_map]; rfl
      rw [e]
      refine paired_map r1 fun x y hy h => ?_
      cases y with
      | dat d => exact h
      | new o =>
        obtain ⟨p, e, c1, c2, c3, c4⟩ := h
        exact ⟨p, e, fun z => c1 (memL p z), c2, c3, c4⟩
      | nst is =>
        obtain ⟨a, ha1, ha2⟩ := List.mem_map.mp hy
        have : a = .nst is := by
          cases a with
          | nst js => exact ha2
          | own i => cases ha2
          | dat d => cases ha2
          | new o => cases ha2
        rw [this] at ha1
        have z := hs_nst ha1
        rw [hns, hnd] at z
        cases z
      | own j =>
        obtain ⟨p, e, c⟩ := h
        have hj : j ∈ ns := by
          rw [← hns]
          refine hs_mem ?_
          obtain ⟨a, ha1, ha2⟩ := List.mem_map.mp hy
          cases a with
          | own i => cases ha2; exact ha1
          | dat d => cases ha2
          | new o => cases ha2
          | nst js => cases ha2
        exact ⟨p, e, by show Lc[ns.idxOf j]? = some p; rw [pick_get hLc _ j (idx_get hj)]; exact c⟩
    have back : ∀ (Sc' : SS) (P' : Addr → Prop) (H' : Hp), okL Sc' Sc = true → Step ⟨Lc, P1⟩ H ⟨Lc, P'⟩ H' → Wd k.K ⟨Lc, P'⟩ H' Sc' → Step m0 H0 ⟨m.L, P'⟩ H' ∧ Wd k.K ⟨m.L, P'⟩ H' (put ns Sc' S) := fun Sc' P' H' hl0 st wd => by
      obtain ⟨hl, hcl'⟩ := okL_e hl0
      have st2 : Step ⟨m.L, P1⟩ H ⟨m.L, P'⟩ H' := by
        refine ⟨⟨[], by simp, by simp⟩, fun b o h c => st.keep b o h ?_, st.phi, fun b c => ?_, st.trk⟩
        · rcases c with c | c | c
          · exact .inl fun z => c (memL b z)
          · exact .inr (.inl c)
          · exact .inr (.inr c)
        · rcases st.fr b c with z | z | z
          · exact .inl z
          · exact .inr (.inl (memL b z))
          · exact .inr (.inr z)
      have kp : ∀ (n' : Nat) (p : Addr), m.L[n']? = some p → n' ∉ ns → p ∉ Lc := fun n' p h1 h2 h3 => by
        obtain ⟨i, hi, e⟩ := List.mem_iff_getElem.mp h3
        obtain ⟨j, hj1, hj2⟩ := nth i p (by rw [List.getElem?_eq_getElem hi, e])
        have : n' = j := (List.getElem?_inj (List.getElem?_eq_some_iff.mp h1).1 w.nd).mp (h1.trans hj2.symm)
        subst this
        exact h2 (List.mem_of_getElem? hj1)
      refine ⟨s1.trans st2, ⟨by rw [put_len]; exact w.len, w.nd, fun n' p o e1 e2 => ?_, fun n' p o e1 e2 l => ?_, wd.phi⟩⟩
      · by_cases hm : n' ∈ ns
        · obtain ⟨i, hi, e⟩ := List.mem_iff_getElem.mp hm
          have hi' : ns[i]? = some n' := by rw [List.getElem?_eq_getElem hi, e]
          have hx : i < Sc'.length := by rw [hl, hlen]; exact hi
          have := put_in (l := S) hnd hi' (List.getElem?_eq_getElem hx) (by rw [← w.len]; exact (List.getElem?_eq_some_iff.mp e1).1)
          rw [this] at e2
          cases e2
          exact (wd.obj i p _ (by rw [pick_get hLc i n' hi']; exact e1) (List.getElem?_eq_getElem hx)).cl (clB_get hcl' (List.getElem?_eq_getElem hx))
        · rw [put_out hm] at e2
          have oo := w1.obj n' p o e1 e2
          obtain ⟨u, hu, _⟩ := oo.there
          exact oo.mono (m' := ⟨m.L, P'⟩) st2.stay Grow.of (by rw [hu, st.keep p u hu (.inl (kp n' p e1 hm))])
      · by_cases hm : n' ∈ ns
        · obtain ⟨i, hi, e⟩ := List.mem_iff_getElem.mp hm
          have hi' : ns[i]? = some n' := by rw [List.getElem?_eq_getElem hi, e]
          have hx : i < Sc'.length := by rw [hl, hlen]; exact hi
          have := put_in (l := S) hnd hi' (List.getElem?_eq_getElem hx) (by rw [← w.len]; exact (List.getElem?_eq_some_iff.mp e1).1)
          rw [this] at e2
          cases e2
          exact wd.sep i p _ (by rw [pick_get hLc i n' hi']; exact e1) (List.getElem?_eq_getElem hx) l
        · rw [put_out hm] at e2
          intro c
          rcases st.fr p c with z | z | z
          · exact w1.sep n' p o e1 e2 l z
          · exact kp n' p e1 hm z
          · obtain ⟨u, hu, _⟩ := (w1.obj n' p o e1 e2).there
            rw [z] at hu; cases hu
    refine ⟨hn, ⟨Lc, P1⟩, Sc, _, wc, ac, ?_⟩
    generalize F (List.map (fun a => ren ns (fz1 a)) as) Sc = r at q
    cases r with
    | bad => exact q.elim
    | exc x Sc' =>
      dsimp only at q
      split at q
      · rename_i hl0
        have hl := (okL_e hl0).1
        refine ⟨hl, fun P' H' st wd c d xr => ?_⟩
        obtain ⟨b1, b2⟩ := back Sc' P' H' hl0 st wd
        exact hE c d H' (q _ _ b1 b2 c d xr)
      · exact q.elim
    | ok a Sc' =>
      dsimp only at q
      split at q
      · rename_i hl0
        have hl := (okL_e hl0).1
        refine ⟨hl, fun v P' H' st wd av af => ?_⟩
        obtain ⟨b1, b2⟩ := back Sc' P' H' hl0 st wd
        cases a with
        | dat d => exact q v _ _ b1 b2 av trivial
        | nst is => exact q.elim
        | own i =>
          obtain ⟨p, rfl, hp⟩ := av
          obtain ⟨n', h1, h2⟩ := nth i p hp
          dsimp only at q
          rw [h1] at q
          exact q _ _ _ b1 b2 ⟨p, rfl, h2⟩ trivial
        | new o =>
          obtain ⟨p, rfl, c1, c2, c3, c4⟩ := av
          have fr : H p = none := af p rfl
          have pL : p ∉ m.L := fun z => by
            obtain ⟨u, hu, _⟩ := w.there z
            rw [fr] at hu; cases hu
          exact q _ _ _ b1 b2 ⟨p, rfl, pL, c2, c3, c4⟩ (AVF.back s af)
      · exact q.elim
  · exact q.elim

section
variable {X : Cx} {W : WX}
/-- a function that is called: where it stands, what it promises -/
structure Fn (P : Program) (w : World) (K : PySem.W.Frag) (mg : Str → Option Value) (base : Heap) (k : Nat) (x : Str) (n : Nat) (F : List AV → SS → R) : Prop where
  ex : ∃ f fd ps, FnOk P w K mg base (L2.CX P w) k f fd ps (spOf K mg n F) ∧ mg x = some (.ref f) ∧ PySem.W.keepIn K (.ref f) = true ∧ Binds K fd ps []
structure Cxt (X : Cx) (W : WX) (k : Nat) : Prop where
  tk : Takes X W
  po : PassesOwn (model X.prog X.w) X.A X.env X.xe
  room : Room k X.A
theorem Fn.mono {P : Program} {w : World} {K : PySem.W.Frag} {mg : Str → Option Value} {base : Heap} {j k n : Nat} {x : Str} {F : List AV → SS → R} (h : Fn P w K mg base j x n F) (l : j ≤ k) : Fn P w K mg base k x n F := by
  obtain ⟨f, fd, ps, h1, h2, h3, h4⟩ := h.ex
  exact ⟨f, fd, ps, h1.mono l, h2, h3, h4⟩
def eCall (n : Nat) (F : List AV → SS → R) (f : AE → SS → RA) : AE → SS → R := fun ρ S => (f ρ S).toR fun as S1 => match Nat.beq as.length n with
  | true => callF F as S1
  | false => .bad
theorem paired_len {α β : Type} {F : α → β → Prop} : ∀ {xs : List α} {ys : List β}, Paired F xs ys → xs.length = ys.length
  | _, _, .nil => rfl
  | _, _, .cons _ t => congrArg (· + 1) (paired_len t)
theorem je_call {k n : Nat} {x : Str} {F : List AV → SS → R} {e : Expr} {es : List Expr} {p pos : Pos} {f : AE → SS → RA} (c : Cxt X W k) (Fk : Fn X.prog X.w X.K X.mg X.base k x n F) (ja : JA X W (e :: es) f)
    (hg : Gl X x := by rfl) (hdb : (x == ("__debug__" : Str)) = false := by decide) (he : starEach (e :: es) X.env = (false, eval e X.env) :: starEach es X.env := by rfl) (hpl : (backTo pos (starEach es X.env)).any (·.1) = false := by rfl) :
    JE X W (.Call (.Name x p) (e :: es) [] pos) (eCall n F f) := fun ρ S => by
  obtain ⟨g, fd, ps, F1, hm, hk, hb⟩ := Fk.ex
  refine PE.imp (pe_callS (E := WE W) F1 c.room hg hm hk hb (fun σ => passAt c.tk σ) (ja ρ S) hdb he hpl) fun σ H Q ⟨m, w, en, q⟩ => ⟨m, w, en, ?_⟩
  unfold eCall at q
  cases hf : f ρ S with
  | bad => rw [hf] at q; exact q.elim
  | exc x S1 => rw [hf] at q; exact q
  | ok as S1 =>
    rw [hf] at q
    intro vs m1 H1 s1 w1 a1 f1
    dsimp only [RA.toR] at q
    split at q
    · rename_i hl
      have hl : as.length = n := Nat.eq_of_beq_eq_true hl
      exact callF_ok (k := kx X W) (m0 := m) (H0 := H) (fun _ _ _ z => z) ((paired_len a1).trans hl) s1 w1 a1 f1 q
    · exact q.elim
end
/-! ### bodies -/
def cutR (k : Nat) (S : SS) (a : AV) : R := match clB (S.take k) with
  | true => .ok a (S.take k)
  | false => .bad
def cutX (k : Nat) (S : SS) (x : Exn) : R := match clB (S.take k) with
  | true => .exc x (S.take k)
  | false => .bad
def retS (r : SR) (k : Nat) : R := match r with
  | .nx _ S => cutR k S (.dat .non)
  | .rt a S => (match a with
    | .own i => (match Nat.blt i k with
      | true => cutR k S (.own i)
      | false => (match S[i]? with
        | some (.fz d) => cutR k S (.dat d)
        | some (.lst ds) => cutR k S (.new (.lst ds))
        | some (.dct ds) => cutR k S (.new (.dct ds))
        | some (.nx _) => .bad
        | none => .bad))
    | .nst _ => .bad
    | a => cutR k S a)
  | .exc x _ S => cutX k S x
  | _ => .bad
def runF (N : Nat) (body : AE → SS → SR) : List AV → SS → R := fun as S => retS (body (as.map some ++ List.replicate (N - as.length) none) S) S.length
theorem Wd.cut {K : PySem.W.Frag} {m m' : Mem} {H H' : Hp} {S S' : SS} (w0 : Wd K m H S) (s : Step m H m' H') (w : Wd K m' H' S') (c : clB (S'.take S.length) = true) : Step m H ⟨m.L, m'.P⟩ H' ∧ Wd K ⟨m.L, m'.P⟩ H' (S'.take S.length) := by
  obtain ⟨ps, e, f⟩ := s.ext
  have hl : m.L.length = S.length := w0.len
  have tk : ∀ (n : Nat) (p : Addr), m.L[n]? = some p → m'.L[n]? = some p := fun n p h => by
    rw [e, List.getElem?_append_left (List.getElem?_eq_some_iff.mp h).1]; exact h
  have tk2 : ∀ (n : Nat) (o : AO), (S'.take S.length)[n]? = some o → S'[n]? = some o := fun n o h => by
    rw [List.getElem?_take] at h
    split at h
    · exact h
    · cases h
  refine ⟨⟨⟨[], by simp, by simp⟩, s.keep, s.phi, s.fr, s.trk⟩, ⟨?_, ?_, fun n p o h1 h2 => OO.cl (L := m'.L) (clB_get c h2) (w.obj n p o (tk n p h1) (tk2 n o h2)), fun n p o h1 h2 => w.sep n p o (tk n p h1) (tk2 n o h2), w.phi⟩⟩
  · rw [List.length_take, ← w.len, e, List.length_append]
    show m.L.length = _
    omega
  · have := w.nd
    rw [e] at this
    exact (List.nodup_append.mp this).1
theorem Wd.cutlen {K : PySem.W.Frag} {m m' : Mem} {H H' : Hp} {S S' : SS} (w0 : Wd K m H S) (s : Step m H m' H') (w : Wd K m' H' S') : (S'.take S.length).length = S.length := by
  obtain ⟨ps, e, f⟩ := s.ext
  rw [List.length_take, ← w.len, ← w0.len, e, List.length_append]
  omega
theorem env_start {K : PySem.W.Frag} {m : Mem} {H : Hp} {N : List Str} {vs : List V} {as : List AV} (h : Paired (AVR K m H) vs as) : EnvR K m H (L2.start N vs) (as.map some ++ List.replicate (N.length - as.length) none) := by
  have hl := paired_len h
  refine ⟨by simp [L2.start, hl], fun i a ha => ?_⟩
  by_cases hi : i < as.length
  · rw [List.getElem?_append_left (by simpa using hi), List.getElem?_map] at ha
    obtain ⟨b, hb, e⟩ := Option.map_eq_some_iff.mp ha
    cases e
    have hv : i < vs.length := by omega
    refine ⟨vs[i], ?_, ?_⟩
    · unfold L2.start
      rw [List.getElem?_append_left (by simpa using hv), List.getElem?_map, List.getElem?_eq_getElem hv]
      rfl
    · obtain ⟨b', hb', r⟩ := paired_get h (List.getElem?_eq_getElem hv)
      rw [hb] at hb'; cases hb'
      exact r
  · rw [List.getElem?_append_right (by simpa using Nat.le_of_not_lt hi)] at ha
    rw [List.getElem?_replicate] at ha
    split at ha <;> cases ha
section
variable {P : Program} {w : World} {K : PySem.W.Frag} {mg : Str → Option Value} {base : Heap}
theorem fn_ok {x qual : Str} {st : Stmt} {f : Addr} {fd : FuncData} {N ps : List Str} {k : Nat} {body : AE → SS → SR} (F : Fun K x qual st f fd) (S : FnScope N ps (defScope st))
    (hb : ∀ (cdv : Value) (A : Around) (outer : List Env) (s : Shared) (H : Hp) (E : XK), Cxt (cxOf (L2.CX P w) P w K mg base N qual (defScope st) f cdv A outer s H E) (fun c d _ H => E c d H) k →
      JSs (cxOf (L2.CX P w) P w K mg base N qual (defScope st) f cdv A outer s H E) (fun c d _ H => E c d H) (defBody st) body) :
    FnOk P w K mg base (L2.CX P w) (k + 1) f fd ps (spOf K mg ps.length (runF N.length body)) := by
  refine F.okX S (fun vs H Q E h => h.1) fun cdv A outer s H vs Q E hr hsp => ?_
  obtain ⟨hn, m, S0, as, w0, av, q⟩ := hsp
  refine ⟨_, hb cdv A outer s H E ⟨takes_of rfl rfl rfl rfl, passes_of rfl, hr⟩ (as.map some ++ List.replicate (N.length - as.length) none) S0, m, w0, env_start av, ?_⟩
  unfold runF at q
  generalize hr : body (as.map some ++ List.replicate (N.length - as.length) none) S0 = r at q
  cases r with
  | bad => exact q.elim
  | bk ρ S' => exact q.elim
  | ct ρ S' => exact q.elim
  | nx ρ S' =>
    intro σ' m' H' s' w' e'
    dsimp only [retS, cutR] at q
    cases hc : clB (S'.take S0.length) with
    | false => rw [hc] at q; exact q.elim
    | true =>
      rw [hc] at q
      obtain ⟨c1, c2⟩ := w0.cut s' w' hc
      exact q.2 .non m'.P H' c1 c2 .non trivial
  | exc x ρ S' =>
    intro σ' m' H' s' w' e' c d xr
    dsimp only [retS, cutX] at q
    cases hc : clB (S'.take S0.length) with
    | false => rw [hc] at q; exact q.elim
    | true =>
      rw [hc] at q
      obtain ⟨c1, c2⟩ := w0.cut s' w' hc
      exact q.2 m'.P H' c1 c2 c d xr
  | rt a S' =>
    intro v m' H' s' w' a' f'
    obtain ⟨pps, el, fr⟩ := s'.ext
    cases a with
    | dat d =>
      dsimp only [retS, cutR] at q
      cases hc : clB (S'.take S0.length) with
      | false => rw [hc] at q; exact q.elim
      | true =>
        rw [hc] at q
        obtain ⟨c1, c2⟩ := w0.cut s' w' hc
        exact q.2 v m'.P H' c1 c2 a' trivial
    | nst is => exact q.elim
    | new o =>
      dsimp only [retS, cutR] at q
      cases hc : clB (S'.take S0.length) with
      | false => rw [hc] at q; exact q.elim
      | true =>
        rw [hc] at q
        obtain ⟨c1, c2⟩ := w0.cut s' w' hc
        obtain ⟨p, rfl, d1, d2, d3, d4⟩ := a'
        exact q.2 _ m'.P H' c1 c2 ⟨p, rfl, fun z => d1 (by rw [el]; exact List.mem_append_left _ z), d2, d3, d4⟩ f'
    | own i =>
      obtain ⟨p, rfl, hp⟩ := a'
      dsimp only [retS] at q
      cases hi : Nat.blt i S0.length with
      | true =>
        rw [hi] at q
        dsimp only [cutR] at q
        cases hc : clB (S'.take S0.length) with
        | false => rw [hc] at q; exact q.elim
        | true =>
          rw [hc] at q
          obtain ⟨c1, c2⟩ := w0.cut s' w' hc
          have hi : i < S0.length := by simpa using hi
          refine q.2 _ m'.P H' c1 c2 ⟨p, rfl, ?_⟩ trivial
          rw [el, List.getElem?_append_left (by rw [w0.len]; exact hi)] at hp
          exact hp
      | false =>
        rw [hi] at q
        dsimp only at q
        have hi : ¬ i < S0.length := fun z => by
          have h2 : Nat.blt i S0.length = true := by simpa using z
          rw [hi] at h2; cases h2
        have pn : H p = none ∧ p ∉ m.L := by
          have hp' := hp
          rw [el, List.getElem?_append_right (by rw [w0.len]; omega)] at hp'
          have hq := fr p (List.mem_of_getElem? hp')
          exact ⟨hq, fun z => by
            obtain ⟨u, hu, _⟩ := w0.there z
            rw [hq] at hu; cases hu⟩
        have afr : ∀ o, AVF H (V.ref p) (.new o) := fun o q e => by cases e; exact pn.1
        cases ho : S'[i]? with
        | none => rw [ho] at q; exact q.elim
        | some o =>
        rw [ho] at q
        cases o with
        | nx _ => exact q.elim
        | fz d =>
          dsimp only [cutR] at q
          cases hc : clB (S'.take S0.length) with
          | false => rw [hc] at q; exact q.elim
          | true =>
            rw [hc] at q
            obtain ⟨c1, c2⟩ := w0.cut s' w' hc
            exact q.2 _ m'.P H' c1 c2 (w'.obj i p _ hp ho).1 trivial
        | lst ds =>
          dsimp only [cutR] at q
          cases hc : clB (S'.take S0.length) with
          | false => rw [hc] at q; exact q.elim
          | true =>
            rw [hc] at q
            obtain ⟨c1, c2⟩ := w0.cut s' w' hc
            exact q.2 _ m'.P H' c1 c2 ⟨p, rfl, pn.2, w'.sep i p _ hp ho rfl, rfl, w'.obj i p _ hp ho⟩ (afr _)
        | dct ds =>
          dsimp only [cutR] at q
          cases hc : clB (S'.take S0.length) with
          | false => rw [hc] at q; exact q.elim
          | true =>
            rw [hc] at q
            obtain ⟨c1, c2⟩ := w0.cut s' w' hc
            exact q.2 _ m'.P H' c1 c2 ⟨p, rfl, pn.2, w'.sep i p _ hp ho rfl, rfl, w'.obj i p _ hp ho⟩ (afr _)
end
end Ew

set_option Elab.async false
set_option linter.all false
set_option maxRecDepth 100000
set_option maxHeartbeats 4000000
namespace Ew
open PySem PySem.Spec PyProof.Rows L2

section
variable {X : Cx} {W : WX}
/-! ### statements -/
def sNx : AE → SS → SR := fun ρ S => .nx ρ S
def SR.seq (r : SR) (g : AE → SS → SR) : SR := match r with | .nx ρ S => g ρ S | r => r
def sSeq (f g : AE → SS → SR) : AE → SS → SR := fun ρ S => (f ρ S).seq g
theorem jss_nil : JSs X W [] sNx := fun ρ S => PSs.imp pss_nil fun D σ H ⟨m, w, en, q⟩ => q σ m H (.refl _ _) w en
theorem jss_cons {st : Stmt} {rest : List Stmt} {f g : AE → SS → SR} (j1 : JS X W st f) (j2 : JSs X W rest g) : JSs X W (st :: rest) (sSeq f g) := fun ρ S => by
  cases hf : f ρ S with
  | nx ρ1 S1 =>
    refine PSs.imp (pss_cons (j1 ρ S) (j2 ρ1 S1)) fun D σ H ⟨m, w, en, q⟩ => ⟨m, w, en, ?_⟩
    unfold sSeq at q
    rw [hf] at q ⊢
    intro σ1 m1 H1 s1 w1 e1
    exact ⟨m1, w1, e1, SQ.back s1 q⟩
  | rt a S1 => exact PSs.imp (pss_cons (j1 ρ S) (j2 ρ S)) fun D σ H ⟨m, w, en, q⟩ => ⟨m, w, en, by unfold sSeq at q; rw [hf] at q ⊢; exact q⟩
  | bk ρ1 S1 => exact PSs.imp (pss_cons (j1 ρ S) (j2 ρ S)) fun D σ H ⟨m, w, en, q⟩ => ⟨m, w, en, by unfold sSeq at q; rw [hf] at q ⊢; exact q⟩
  | ct ρ1 S1 => exact PSs.imp (pss_cons (j1 ρ S) (j2 ρ S)) fun D σ H ⟨m, w, en, q⟩ => ⟨m, w, en, by unfold sSeq at q; rw [hf] at q ⊢; exact q⟩
  | exc x ρ1 S1 => exact PSs.imp (pss_cons (j1 ρ S) (j2 ρ S)) fun D σ H ⟨m, w, en, q⟩ => ⟨m, w, en, by unfold sSeq at q; rw [hf] at q ⊢; exact q⟩
  | bad => exact PSs.imp (pss_cons (j1 ρ S) (j2 ρ S)) fun D σ H ⟨m, w, en, q⟩ => by unfold sSeq at q; rw [hf] at q; exact q.elim
theorem jss_one {st : Stmt} {f : AE → SS → SR} (j1 : JS X W st f) : JSs X W [st] f := fun ρ S => pss_one (j1 ρ S)
theorem js_pass {pos : Pos} : JS X W (.Pass pos) sNx := fun ρ S => PS.imp ps_pass fun D σ H ⟨m, w, en, q⟩ => q σ m H (.refl _ _) w en
def sBk : AE → SS → SR := fun ρ S => .bk ρ S
def sCt : AE → SS → SR := fun ρ S => .ct ρ S
theorem js_break {pos : Pos} : JS X W (.Break pos) sBk := fun ρ S => PS.imp ps_break fun D σ H ⟨m, w, en, q⟩ => q σ m H (.refl _ _) w en
theorem js_continue {pos : Pos} : JS X W (.Continue pos) sCt := fun ρ S => PS.imp ps_continue fun D σ H ⟨m, w, en, q⟩ => q σ m H (.refl _ _) w en

/-- from an expression's result to a statement's -/
theorem R.toS_ok {k : Kx} {σ : L2.St} {m : Mem} {H : Hp} {r : R} {ρ : AE} {g : AV → SS → SR} {D : Ends} {Q : VK} (en : EnvR k.K m H σ ρ) (q : SQ k m H (r.toS ρ g) D)
    (h : ∀ a S v m1 H1, Step m H m1 H1 → Wd k.K m1 H1 S → AVR k.K m1 H1 v a → AVF H v a → SQ k m H (g a S) D → Q v H1) : RQ k σ m H r Q := by
  cases r with
  | bad => exact q.elim
  | exc x S => exact fun m1 H1 s1 w1 => q σ m1 H1 s1 w1 (en.mono s1)
  | ok a S => exact fun v m1 H1 s1 w1 a1 f1 => h a S v m1 H1 s1 w1 a1 f1 q
/-- a value comes into a slot -/
def sSet (i : Nat) (f : AE → SS → R) : AE → SS → SR := fun ρ S => (f ρ S).toS ρ fun a S1 => .nx (ρ.set i (some (fz1 a))) S1
def sSetO (i : Nat) (f : AE → SS → R) : AE → SS → SR := fun ρ S => (f ρ S).toS ρ fun a S1 => match a with
  | .new o => .nx (ρ.set i (some (.own S1.length))) (S1 ++ [o])
  | a => .nx (ρ.set i (some a)) S1
/-- a new object is owned from now on -/
theorem own_ok {K : PySem.W.Frag} {m0 m : Mem} {H0 H : Hp} {S : SS} {p : Addr} {o : AO} (s : Step m0 H0 m H) (w : Wd K m H S) (h : AVR K m H (.ref p) (.new o)) (f : AVF H0 (.ref p) (.new o)) :
    Step m0 H0 ⟨m.L ++ [p], m.P⟩ H ∧ Wd K ⟨m.L ++ [p], m.P⟩ H (S ++ [o]) ∧ AVR K ⟨m.L ++ [p], m.P⟩ H (.ref p) (.own S.length) := by
  obtain ⟨p', e, h1, h2, h3, h4⟩ := h
  cases e
  obtain ⟨ps, el, fr⟩ := s.ext
  have gr : Grow m ⟨m.L ++ [p], m.P⟩ := fun n q h => by
    show (m.L ++ [p])[n]? = some q
    rw [List.getElem?_append_left (List.getElem?_eq_some_iff.mp h).1]; exact h
  have st : Stay K m.P H m.P H := ⟨fun _ _ h _ => h, fun _ _ _ h => h, fun _ h => h⟩
  refine ⟨⟨⟨ps ++ [p], by rw [← List.append_assoc, ← el], fun q hq => ?_⟩, s.keep, s.phi, s.fr, s.trk⟩, ⟨by simp [w.len], ?_, fun n q o' e1 e2 => ?_, fun n q o' e1 e2 l => ?_, w.phi⟩, p, rfl, ?_⟩
  · rcases List.mem_append.mp hq with z | z
    · exact fr q z
    · rw [List.mem_singleton.mp z]; exact f p rfl
  · exact List.nodup_append.mpr ⟨w.nd, by simp, fun a ha b hb => by rw [List.mem_singleton.mp hb]; exact fun z => h1 (z ▸ ha)⟩
  · change (m.L ++ [p])[n]? = some q at e1
    by_cases hn : n < S.length
    · rw [List.getElem?_append_left (by rw [w.len]; exact hn)] at e1
      rw [List.getElem?_append_left hn] at e2
      exact (w.obj n q o' e1 e2).mono (m' := ⟨m.L ++ [p], m.P⟩) st gr rfl
    · rw [List.getElem?_append_right (by rw [w.len]; omega), w.len] at e1
      rw [List.getElem?_append_right (by omega)] at e2
      have hz : n - S.length = 0 := by
        have := (List.getElem?_eq_some_iff.mp e2).1
        simp at this; omega
      rw [hz] at e1 e2
      cases e1; cases e2
      exact (OC.o (m := ⟨m.L ++ [p], m.P⟩) h4)
  · change (m.L ++ [p])[n]? = some q at e1
    by_cases hn : n < S.length
    · rw [List.getElem?_append_left (by rw [w.len]; exact hn)] at e1
      rw [List.getElem?_append_left hn] at e2
      exact w.sep n q o' e1 e2 l
    · rw [List.getElem?_append_right (by rw [w.len]; omega), w.len] at e1
      rw [List.getElem?_append_right (by omega)] at e2
      have hz : n - S.length = 0 := by
        have := (List.getElem?_eq_some_iff.mp e2).1
        simp at this; omega
      rw [hz] at e1 e2
      cases e1; cases e2
      exact h2
  · show (m.L ++ [p])[S.length]? = some p
    rw [List.getElem?_append_right (by rw [w.len]; omega), w.len]
    simp
/-- a value frozen where it is new -/
theorem fz1_ok {K : PySem.W.Frag} {m0 m : Mem} {H0 H : Hp} {S : SS} {v : V} {a : AV} (s : Step m0 H0 m H) (w : Wd K m H S) (h : AVR K m H v a) (f : AVF H0 v a) :
    ∃ P', (∀ b, m.P b → P' b) ∧ Step m0 H0 ⟨m.L, P'⟩ H ∧ Wd K ⟨m.L, P'⟩ H S ∧ AVR K ⟨m.L, P'⟩ H v (fz1 a) := by
  obtain ⟨P', g, s1, w1, r⟩ := fz1s_ok s w (.cons h.q .nil) (.cons f .nil)
  cases r with
  | cons r _ => exact ⟨P', g, s1, w1, r⟩
theorem js_set {i : Nat} {x : Str} {e : Expr} {pos pos' : Pos} {f : AE → SS → R} (je : JE X W e f) (hN : X.N.Nodup) (hi : X.N[i]? = some x := by rfl) (hx : Loc X.env.scope x := by first | exact Or.inl rfl | exact Or.inr rfl) (hs : swapsWith e (some (.Name x pos')) pos.line X.env = pure false := by rfl) (hf : X.fn x = true ∨ X.env.scope.names.lookup x = some .local := by first | exact .inl rfl | exact .inr rfl | assumption) :
    JS X W (.Assign [.Name x pos'] e pos) (sSet i f) := fun ρ S => PS.imp (ps_set hN hi hx (je ρ S) hs hf) fun D σ H ⟨m, w, en, q⟩ =>
  ⟨m, w, en, R.toS_ok en q fun a S1 v m1 H1 s1 w1 a1 f1 q => by
    obtain ⟨P', g, s2, w2, a2⟩ := fz1_ok s1 w1 a1 f1
    exact q _ _ _ s2 w2 ((en.mono s2).set a2)⟩
theorem js_setO {i : Nat} {x : Str} {e : Expr} {pos pos' : Pos} {f : AE → SS → R} (je : JE X W e f) (hN : X.N.Nodup) (hi : X.N[i]? = some x := by rfl) (hx : Loc X.env.scope x := by first | exact Or.inl rfl | exact Or.inr rfl) (hs : swapsWith e (some (.Name x pos')) pos.line X.env = pure false := by rfl) (hf : X.fn x = true ∨ X.env.scope.names.lookup x = some .local := by first | exact .inl rfl | exact .inr rfl | assumption) :
    JS X W (.Assign [.Name x pos'] e pos) (sSetO i f) := fun ρ S => PS.imp (ps_set hN hi hx (je ρ S) hs hf) fun D σ H ⟨m, w, en, q⟩ =>
  ⟨m, w, en, R.toS_ok en q fun a S1 v m1 H1 s1 w1 a1 f1 q => by
    cases a with
    | dat d => exact q _ _ _ s1 w1 ((en.mono s1).set a1)
    | own n => exact q _ _ _ s1 w1 ((en.mono s1).set a1)
    | nst is => exact q _ _ _ s1 w1 ((en.mono s1).set a1)
    | new o =>
      obtain ⟨p, rfl, _⟩ := id a1
      obtain ⟨s2, w2, a2⟩ := own_ok s1 w1 a1 f1
      exact q _ _ _ s2 w2 ((en.mono s2).set a2)⟩
def sDrop (f : AE → SS → R) : AE → SS → SR := fun ρ S => (f ρ S).toS ρ fun _ S1 => .nx ρ S1
theorem js_expr {e : Expr} {pos : Pos} {f : AE → SS → R} (je : JE X W e f) (hs : swapsWith e none pos.line X.env = pure false := by rfl) : JS X W (.Expr e pos) (sDrop f) := fun ρ S => PS.imp (ps_expr (je ρ S) hs) fun D σ H ⟨m, w, en, q⟩ =>
  ⟨m, w, en, R.toS_ok en q fun a S1 v m1 H1 s1 w1 a1 f1 q => q _ _ _ s1 w1 (en.mono s1)⟩
def sRet (f : AE → SS → R) : AE → SS → SR := fun ρ S => (f ρ S).toS ρ fun a S1 => .rt a S1
theorem js_ret {e : Expr} {pos : Pos} {f : AE → SS → R} (je : JE X W e f) : JS X W (.Return (some e) pos) (sRet f) := fun ρ S => PS.imp (ps_ret (je ρ S)) fun D σ H ⟨m, w, en, q⟩ =>
  ⟨m, w, en, R.toS_ok en q fun a S1 v m1 H1 s1 w1 a1 f1 q => q _ _ _ s1 w1 a1 f1⟩
def sRetN : AE → SS → SR := fun ρ S => .rt (.dat .non) S
theorem js_retN {pos : Pos} : JS X W (.Return none pos) sRetN := fun ρ S => PS.imp ps_retN fun D σ H ⟨m, w, en, q⟩ => q _ m H (.refl _ _) w .non trivial
def sIf (t : AE → SS → RB) (f g : AE → SS → SR) : AE → SS → SR := fun ρ S => (t ρ S).toS ρ fun b S1 => match b with
  | true => f ρ S1
  | false => g ρ S1
theorem js_if {c : Expr} {a b : List Stmt} {pos : Pos} {t : AE → SS → RB} {f g : AE → SS → SR} (jc : JT X W c t) (ja : JSs X W a f) (jb : JSs X W b g) : JS X W (.If c a b pos) (sIf t f g) := fun ρ S => by
  cases ht : t ρ S with
  | bad => exact PS.imp (ps_if (jc ρ S) (ja ρ S) (jb ρ S)) fun D σ H ⟨m, w, en, q⟩ => by unfold sIf at q; rw [ht] at q; exact q.elim
  | exc x S1 => exact PS.imp (ps_if (jc ρ S) (ja ρ S) (jb ρ S)) fun D σ H ⟨m, w, en, q⟩ => ⟨m, w, en, by
      unfold sIf at q; rw [ht] at q ⊢
      exact fun m1 H1 s1 w1 => q σ m1 H1 s1 w1 (en.mono s1)⟩
  | ok b S1 =>
    refine PS.imp (ps_if (jc ρ S) (ja ρ S1) (jb ρ S1)) fun D σ H ⟨m, w, en, q⟩ => ⟨m, w, en, ?_⟩
    unfold sIf at q
    rw [ht] at q ⊢
    intro m1 H1 s1 w1
    have q := SQ.back s1 q
    cases b with
    | true => exact iteT ⟨m1, w1, en.mono s1, q⟩
    | false => exact iteF ⟨m1, w1, en.mono s1, q⟩
/-! targets made of names -/
/-- the slots but those of some places -/
def Off (vs : List Nat) (σ σ' : L2.St) : Prop := σ'.length = σ.length ∧ ∀ i, i ∉ vs → σ'[i]? = σ[i]?
theorem Off.refl (vs : List Nat) (σ : L2.St) : Off vs σ σ := ⟨rfl, fun _ _ => rfl⟩
theorem Off.trans {vs : List Nat} {a b c : L2.St} (x : Off vs a b) (y : Off vs b c) : Off vs a c := ⟨y.1.trans x.1, fun i h => (y.2 i h).trans (x.2 i h)⟩
theorem Off.mono {vs ws : List Nat} {a b : L2.St} (x : Off vs a b) (h : ∀ i, i ∈ vs → i ∈ ws) : Off ws a b := ⟨x.1, fun i hi => x.2 i fun z => hi (h i z)⟩
theorem off_set {σ : L2.St} {i : Nat} {v : Option V} : Off [i] σ (σ.set i v) := ⟨List.length_set, fun j hj => List.getElem?_set_ne fun e => hj (by rw [e]; exact List.mem_singleton_self _)⟩
def JG (X : Cx) (tg : Expr) (is : List Nat) (g : D → AE → Option AE) : Prop := ∀ d ρ ρ', g d ρ = some ρ' → PG X tg (fun v σ H Q => ∃ m S, Wd X.K m H S ∧ EnvR X.K m H σ ρ ∧ Rep X.K m.P H v d ∧ ∀ σ', EnvR X.K m H σ' ρ' → Off is σ σ' → Q σ' H)
def JGs (X : Cx) (tgs : List Expr) (is : List Nat) (g : List D → AE → Option AE) : Prop := ∀ ds ρ ρ', g ds ρ = some ρ' → PGs X tgs (fun vs σ H Q => ∃ m S, Wd X.K m H S ∧ EnvR X.K m H σ ρ ∧ RepL X.K m.P H vs ds ∧ ∀ σ', EnvR X.K m H σ' ρ' → Off is σ σ' → Q σ' H)
theorem PG.imp {e : Expr} {t t' : TG} (h : PG X e t) (i : ∀ v σ H Q, t' v σ H Q → t v σ H Q) : PG X e t' := ⟨fun pins s σ H v u Q I r q => h.run pins s σ H v u Q I r (i v σ H Q q)⟩
theorem PGs.imp {e : List Expr} {t t' : TGs} (h : PGs X e t) (i : ∀ v σ H Q, t' v σ H Q → t v σ H Q) : PGs X e t' := ⟨fun pins s σ H v u Q I r q => h.run pins s σ H v u Q I r (i v σ H Q q)⟩
theorem PG.ex {e : Expr} {t : TG} (h : ∀ v σ H Q, t v σ H Q → ∃ t', PG X e t' ∧ t' v σ H Q) : PG X e t := ⟨fun pins s σ H v u Q I r q => by
  obtain ⟨t', h', q'⟩ := h v σ H Q q
  exact h'.run pins s σ H v u Q I r q'⟩
def gN (i : Nat) : D → AE → Option AE := fun d ρ => some (ρ.set i (some (.dat d)))
theorem jg_name {i : Nat} {x : Str} {pos : Pos} (hN : X.N.Nodup) (hi : X.N[i]? = some x := by rfl) (hx : Loc X.env.scope x := by first | exact Or.inl rfl | exact Or.inr rfl) (hf : X.fn x = true ∨ X.env.scope.names.lookup x = some .local := by first | exact .inl rfl | exact .inr rfl | assumption) : JG X (.Name x pos) [i] (gN i) := fun d ρ ρ' e => by
  cases e
  exact PG.imp (pg_name hN hi hx hf) fun v σ H Q ⟨m, S, w, en, r, q⟩ => q _ (en.set r) off_set
def gsNil : List D → AE → Option AE := fun ds ρ => match ds with
  | [] => some ρ
  | _ => none
def gsCons (g : D → AE → Option AE) (h : List D → AE → Option AE) : List D → AE → Option AE := fun ds ρ => match ds with
  | d :: ds => (match g d ρ with
    | some ρ' => h ds ρ'
    | none => none)
  | [] => none
def gT (h : List D → AE → Option AE) : D → AE → Option AE := fun d ρ => match d with
  | .tup ds => h ds ρ
  | .lst ds => h ds ρ
  | _ => none
theorem jgs_nil : JGs X [] [] gsNil := fun ds ρ ρ' e => by
  cases ds with
  | nil => cases e; exact PGs.imp pgs_nil fun v σ H Q ⟨m, S, w, en, r, q⟩ => ⟨by cases r; rfl, q _ en (.refl _ _)⟩
  | cons d ds => cases e
theorem jgs_cons {e : Expr} {es : List Expr} {is js : List Nat} {g : D → AE → Option AE} {h : List D → AE → Option AE} (j1 : JG X e is g) (j2 : JGs X es js h) (hs : (assignEach (e :: es) X.env).map (·.2) = assign e X.env :: (assignEach es X.env).map (·.2) := by rfl) : JGs X (e :: es) (is ++ js) (gsCons g h) := fun ds ρ ρ' eq => by
  cases ds with
  | nil => cases eq
  | cons d ds =>
    dsimp only [gsCons] at eq
    split at eq
    · rename_i ρ1 e1
      refine PGs.imp (pgs_cons (j1 d ρ ρ1 e1) (j2 ds ρ1 ρ' eq) hs) fun vs σ H Q ⟨m, S, w, en, r, q⟩ => ?_
      cases r with
      | cons r1 r2 => exact ⟨_, _, rfl, m, S, w, en, r1, fun σ1 en1 o1 => ⟨m, S, w, en1, r2, fun σ2 en2 o2 => q σ2 en2 ((o1.mono fun i hi => List.mem_append_left _ hi).trans (o2.mono fun i hi => List.mem_append_right _ hi))⟩⟩
    · cases eq
/-- how many items a written tuple of targets takes -/
theorem gs_len0 : ∀ ds ρ ρ', gsNil ds ρ = some ρ' → ds.length = 0 := fun ds ρ ρ' e => by
  cases ds with
  | nil => rfl
  | cons d ds => cases e
theorem gs_len1 {g : D → AE → Option AE} {h : List D → AE → Option AE} {n : Nat} (hh : ∀ ds ρ ρ', h ds ρ = some ρ' → ds.length = n) : ∀ ds ρ ρ', gsCons g h ds ρ = some ρ' → ds.length = n + 1 := fun ds ρ ρ' e => by
  cases ds with
  | nil => cases e
  | cons d ds =>
    dsimp only [gsCons] at e
    split at e
    · exact congrArg (· + 1) (hh _ _ _ e)
    · cases e
theorem jg_tup {es : List Expr} {is : List Nat} {k : Nat} {pos : Pos} {h : List D → AE → Option AE} (hc : X.calm = true) (j : JGs X es is h) {n : Nat} (hl : ∀ ds ρ ρ', h ds ρ = some ρ' → ds.length = n)
    (hn : (assignEach es X.env).length = n := by rfl) (hst : (assignEach es X.env).findIdx? (·.1) = none := by rfl) : JG X (.Tuple es k pos) is (gT h) := fun d ρ ρ' e => by
  cases d with
  | tup ds =>
    have el := hl ds ρ ρ' e
    refine PG.imp (pg_tup hc (j ds ρ ρ' e) hn hst) fun v σ H Q ⟨m, S, w, en, r, q⟩ => ?_
    cases r with
    | tup c r => exact ⟨_, _, rfl, c, r.length.trans el, m, S, w, en, r, q⟩
  | lst ds =>
    have el := hl ds ρ ρ' e
    refine PG.imp (pg_lst hc (j ds ρ ρ' e) hn hst) fun v σ H Q ⟨m, S, w, en, r, q⟩ => ?_
    cases r with
    | lst p c r => exact ⟨_, _, rfl, .inl (.inl c), r.length.trans el, m, S, w, en, r, q⟩
  | _ => cases e
/-- a, b = e -/
def unpV (a : AV) (S : SS) : Option D := match a with
  | .dat d => some d
  | a => (match view a S with
    | some (.tup ds) => some (.tup ds)
    | _ => none)
theorem unpV_rep {K : PySem.W.Frag} {m : Mem} {H : Hp} {S : SS} {v : V} {a : AV} {d : D} (w : Wd K m H S) (h : AVR K m H v a) (e : unpV a S = some d) : Rep K m.P H v d := by
  cases a with
  | dat d' => cases e; exact h
  | own n =>
    dsimp only [unpV] at e
    split at e
    · rename_i ds hd
      cases e
      exact view_rep w h hd
    · cases e
  | nst is =>
    dsimp only [unpV, view] at e
    cases e
  | new o =>
    dsimp only [unpV] at e
    split at e
    · rename_i ds hd
      cases e
      exact view_rep w h hd
    · cases e
def sUnp (g : D → AE → Option AE) (f : AE → SS → R) : AE → SS → SR := fun ρ S => (f ρ S).toS ρ fun a S1 => match unpV a S1 with
  | some d => (match g d ρ with
    | some ρ' => .nx ρ' S1
    | none => .bad)
  | none => .bad
theorem js_unp {tg e : Expr} {is : List Nat} {pos : Pos} {f : AE → SS → R} {g : D → AE → Option AE} (je : JE X W e f) (jg : JG X tg is g) (hs : swapsWithSole [tg] e pos.line X.env = pure false := by rfl) (hw : swappedStores [tg] e X.env = pure none := by rfl)
    (h1 : (assignEach [tg] X.env).map (·.2) = [assign tg X.env] := by rfl) : JS X W (.Assign [tg] e pos) (sUnp g f) := fun ρ S => by
  have hg : PG X tg (fun v σ H Q => ∃ d ρ', g d ρ = some ρ' ∧ ∃ m S, Wd X.K m H S ∧ EnvR X.K m H σ ρ ∧ Rep X.K m.P H v d ∧ ∀ σ', EnvR X.K m H σ' ρ' → Off is σ σ' → Q σ' H) :=
    PG.ex fun v σ H Q ⟨d, ρ', e, h⟩ => ⟨_, jg d ρ ρ' e, h⟩
  exact PS.imp (ps_asg (je ρ S) hg hs hw h1) fun D σ H ⟨m, w, en, q⟩ => ⟨m, w, en, R.toS_ok en q fun a S1 v m1 H1 s1 w1 a1 f1 q => by
    split at q
    · rename_i ds hd
      split at q
      · rename_i ρ' eg
        exact ⟨_, ρ', eg, m1, S1, w1, en.mono s1, unpV_rep w1 a1 hd, fun σ' en' _ => q σ' m1 H1 s1 w1 en'⟩
      · exact q.elim
    · exact q.elim⟩
end
end Ew

set_option Elab.async false
set_option linter.all false
set_option maxRecDepth 100000
set_option maxHeartbeats 4000000
namespace Ew
open PySem PySem.Spec PyProof.Rows L2

/-! ### loops -/
/-- what an iterator gives: the data ds, one after the other, as long as nothing frozen is touched -/
def WalkD (K : PySem.W.Frag) (J : It) (ds : List D) (m0 : Mem) (H0 : Hp) : Prop := ∀ m H, Step m0 H0 m H →
  (∀ i, i < ds.length → J.go i H) ∧ J.stop ds.length H ∧ ∀ i x H1, i < ds.length → J.yld i H x H1 → (H1 = H ∨ ∃ p xs, H p = none ∧ H1 = upd H p (.tup xs)) ∧ ∃ d, ds[i]? = some d ∧ Rep K m.P H1 x d
def RIQ (k : Kx) (σ : L2.St) (m : Mem) (H : Hp) (r : RI) (Q : It → Hp → Prop) : Prop :=
  match r with
  | .ok ds S => ∀ J m' H', Step m H m' H' → Wd k.K m' H' S → WalkD k.K J ds m' H' → Q J H'
  | .exc x S => ∀ m' H', Step m H m' H' → Wd k.K m' H' S → WQ k.mg k.W σ x H'
  | .bad => False
def tRI (k : Kx) (ρ : AE) (S : SS) (r : RI) : TI := fun σ H Q => ∃ m, Wd k.K m H S ∧ EnvR k.K m H σ ρ ∧ RIQ k σ m H r Q
def JI (X : Cx) (W : WX) (tg e : Expr) (f : AE → SS → RI) : Prop := ∀ ρ S, PI X tg e (tRI (kx X W) ρ S (f ρ S))

def forD (body : D → AE → SS → SR) : List D → AE → SS → SR
  | [], ρ, S => .nx ρ S
  | d :: ds, ρ, S => match body d ρ S with
    | .nx ρ' S' => forD body ds ρ' S'
    | .ct ρ' S' => forD body ds ρ' S'
    | .bk ρ' S' => .nx ρ' S'
    | r => r
def turn (g : D → AE → Option AE) (f : AE → SS → SR) : D → AE → SS → SR := fun d ρ S => match g d ρ with
  | some ρ' => f ρ' S
  | none => .bad
def RI.toS (r : RI) (ρ : AE) (f : List D → SS → SR) : SR := match r with | .ok a S => f a S | .exc x S => .exc x ρ S | .bad => .bad
def sFor (it : AE → SS → RI) (g : D → AE → Option AE) (f : AE → SS → SR) : AE → SS → SR := fun ρ S => (it ρ S).toS ρ fun ds S1 => forD (turn g f) ds ρ S1
theorem step_tup {m : Mem} {H H1 : Hp} (h : H1 = H ∨ ∃ p xs, H p = none ∧ H1 = upd H p (.tup xs)) : Step m H m H1 := by
  rcases h with rfl | ⟨p, xs, hp, rfl⟩
  · exact .refl _ _
  · exact step_upd hp
theorem wd_tup {K : PySem.W.Frag} {m : Mem} {H H1 : Hp} {S : SS} (w : Wd K m H S) (h : H1 = H ∨ ∃ p xs, H p = none ∧ H1 = upd H p (.tup xs)) : Wd K m H1 S := by
  refine w.step (step_tup h) fun p hp => ?_
  obtain ⟨u, hu, _⟩ := w.there hp
  rcases h with rfl | ⟨q, o, hq, rfl⟩
  · rfl
  · rw [upd_ne (ne_of_none hu hq)]
section
variable {X : Cx} {W : WX}
def tGu (K : PySem.W.Frag) (is : List Nat) (g : D → AE → Option AE) : TG := fun v σ H Q => ∃ d ρ ρ', g d ρ = some ρ' ∧ ∃ m S, Wd K m H S ∧ EnvR K m H σ ρ ∧ Rep K m.P H v d ∧ ∀ σ', EnvR K m H σ' ρ' → Off is σ σ' → Q σ' H
theorem pg_u {tg : Expr} {is : List Nat} {g : D → AE → Option AE} (j : JG X tg is g) : PG X tg (tGu X.K is g) := PG.ex fun v σ H Q ⟨d, ρ, ρ', e, h⟩ => ⟨_, j d ρ ρ' e, h⟩
def tSu (k : Kx) (f : AE → SS → SR) : TS := fun D σ H => ∃ ρ S, tS k ρ S (f ρ S) D σ H
theorem pss_u {st : List Stmt} {f : AE → SS → SR} (j : JSs X W st f) : PSs X st (tSu (kx X W) f) := PSs.ex fun D σ H ⟨ρ, S, h⟩ => ⟨_, j ρ S, h⟩
def tTu (k : Kx) (f : AE → SS → RB) : TT := fun σ H Q => ∃ ρ S, tRB k ρ S (f ρ S) σ H Q
theorem pt_u {e : Expr} {f : AE → SS → RB} (j : JT X W e f) : PT X e (tTu (kx X W) f) := PT.ex fun σ H Q ⟨ρ, S, h⟩ => ⟨_, j ρ S, h⟩
def tEu (k : Kx) (f : AE → SS → R) : TE := fun σ H Q => ∃ ρ S, tR k ρ S (f ρ S) σ H Q
theorem pe_u {e : Expr} {f : AE → SS → R} (j : JE X W e f) : PE X e (tEu (kx X W) f) := PE.ex fun σ H Q ⟨ρ, S, h⟩ => ⟨_, j ρ S, h⟩

theorem js_for {tg iter : Expr} {body : List Stmt} {pos : Pos} {it : AE → SS → RI} {is : List Nat} {g : D → AE → Option AE} {f : AE → SS → SR} (hp : PassesOwn (model X.prog X.w) X.A X.env X.xe) (hc : X.calm = true) (ji : JI X W tg iter it) (jg : JG X tg is g) (jb : JSs X W body f) (hs : ∀ x, foldedSetIterable iter X.env x = pure x := by intro _; rfl) : JS X W (.For tg iter body [] pos) (sFor it g f) := fun ρ S => by
  refine PS.imp (ps_for hp hc (ji ρ S) (pg_u jg) (pss_u jb) (hs := hs)) fun D σ H ⟨m, w, en, q⟩ => ⟨m, w, en, ?_⟩
  unfold sFor at q
  cases hi : it ρ S with
  | bad => rw [hi] at q; exact q.elim
  | exc x S1 => rw [hi] at q; exact fun m1 H1 s1 w1 => q σ m1 H1 s1 w1 (en.mono s1)
  | ok ds S1 =>
    rw [hi] at q
    change SQ (kx X W) m H (forD (turn g f) ds ρ S1) D at q
    intro J m1 H1 s1 w1 wk
    refine ⟨fun i mm σ H => mm = ds.length - i ∧ i ≤ ds.length ∧ ∃ m ρ S, Step m1 H1 m H ∧ Wd X.K m H S ∧ EnvR X.K m H σ ρ ∧ SQ (kx X W) m H (forD (turn g f) (ds.drop i) ρ S) D,
      ⟨ds.length, rfl, Nat.zero_le _, m1, ρ, S1, .refl _ _, w1, en.mono s1, SQ.back s1 q⟩, ?_⟩
    rintro i mm σ' H' ⟨rfl, hile, m', ρ', S', s', w', en', q'⟩
    obtain ⟨go, stop, yl⟩ := wk m' H' s'
    by_cases hlt : i < ds.length
    · refine .inr ⟨go i hlt, fun σ2 H2 => ∃ m2 ρ2 S2, Step m1 H1 m2 H2 ∧ Wd X.K m2 H2 S2 ∧ EnvR X.K m2 H2 σ2 ρ2 ∧ SQ (kx X W) m2 H2 (forD (turn g f) (ds.drop (i + 1)) ρ2 S2) D, fun σ2 H2 h2 => ⟨ds.length - (i + 1), by omega, rfl, hlt, h2⟩, fun x H2 hy => ?_⟩
      obtain ⟨hst, d, hd, hr⟩ := yl i x H2 hlt hy
      have st := step_tup (m := m') hst
      have w2 := wd_tup w' hst
      have e2 := en'.mono st
      have q2 := SQ.back st q'
      have ed : ds.drop i = d :: ds.drop (i + 1) := by
        rw [List.drop_eq_getElem_cons hlt]
        congr 1
        rw [List.getElem?_eq_getElem hlt] at hd
        exact Option.some.inj hd
      rw [ed] at q2
      unfold forD at q2
      unfold turn at q2
      cases eg : g d ρ' with
      | none => rw [eg] at q2; exact q2.elim
      | some ρ2 =>
        rw [eg] at q2
        dsimp only at q2
        refine ⟨d, ρ', ρ2, eg, m', S', w2, e2, hr, fun σ2 en2 _ => ⟨ρ2, S', m', w2, en2, ?_⟩⟩
        have s12 := s'.trans st
        cases hb : f ρ2 S' with
        | bad => rw [hb] at q2; exact q2.elim
        | nx ρ3 S3 =>
          rw [hb] at q2
          exact fun σ3 m3 H3 s3 w3 en3 => ⟨m3, ρ3, S3, s12.trans s3, w3, en3, SQ.back s3 q2⟩
        | ct ρ3 S3 =>
          rw [hb] at q2
          exact fun σ3 m3 H3 s3 w3 en3 => ⟨m3, ρ3, S3, s12.trans s3, w3, en3, SQ.back s3 q2⟩
        | bk ρ3 S3 => rw [hb] at q2; exact q2
        | rt a S3 => rw [hb] at q2; exact q2
        | exc x ρ3 S3 => rw [hb] at q2; exact q2
    · have hi2 : i = ds.length := by omega
      subst hi2
      rw [List.drop_length] at q'
      exact .inl ⟨stop, q' σ' m' H' (.refl _ _) w' en'⟩

/-! while: n turns at most -/
def whileF (t : AE → SS → RB) (f : AE → SS → SR) : Nat → AE → SS → SR
  | 0, _, _ => .bad
  | n + 1, ρ, S => match t ρ S with
    | .ok true S1 => (match f ρ S1 with
      | .nx ρ' S' => whileF t f n ρ' S'
      | .ct ρ' S' => whileF t f n ρ' S'
      | .bk ρ' S' => .nx ρ' S'
      | r => r)
    | .ok false S1 => .nx ρ S1
    | .exc x S1 => .exc x ρ S1
    | .bad => .bad
def sWhile (n : Nat) (t : AE → SS → RB) (f : AE → SS → SR) : AE → SS → SR := whileF t f n
theorem js_while (n : Nat) {c : Expr} {body : List Stmt} {pos : Pos} {t : AE → SS → RB} {f : AE → SS → SR} (hp : PassesOwn (model X.prog X.w) X.A X.env X.xe) (jc : JT X W c t) (jb : JSs X W body f) : JS X W (.While c body [] pos) (sWhile n t f) := fun ρ S => by
  refine PS.imp (ps_while hp (pt_u jc) (pss_u jb)) fun D σ H ⟨m, w, en, q⟩ => ?_
  refine ⟨fun n σ H => ∃ m ρ S, Wd X.K m H S ∧ EnvR X.K m H σ ρ ∧ SQ (kx X W) m H (whileF t f n ρ S) D, ⟨n, m, ρ, S, w, en, q⟩, ?_⟩
  rintro n σ1 H1 ⟨m1, ρ1, S1, w1, en1, q1⟩
  cases n with
  | zero => exact q1.elim
  | succ n =>
    unfold whileF at q1
    refine ⟨ρ1, S1, m1, w1, en1, ?_⟩
    cases ht : t ρ1 S1 with
    | bad => rw [ht] at q1; exact q1.elim
    | exc x S2 => rw [ht] at q1; exact fun m2 H2 s2 w2 => q1 σ1 m2 H2 s2 w2 (en1.mono s2)
    | ok b S2 =>
      rw [ht] at q1
      intro m2 H2 s2 w2
      have q2 := SQ.back s2 q1
      cases b with
      | false => exact iteF (q2 σ1 m2 H2 (.refl _ _) w2 (en1.mono s2))
      | true =>
        refine iteT ⟨fun σ3 H3 => ∃ m3 ρ3 S3, Wd X.K m3 H3 S3 ∧ EnvR X.K m3 H3 σ3 ρ3 ∧ SQ (kx X W) m3 H3 (whileF t f n ρ3 S3) D, fun σ3 H3 h3 => ⟨n, Nat.lt_succ_self n, h3⟩, ρ1, S2, m2, w2, en1.mono s2, ?_⟩
        dsimp only at q2
        cases hb : f ρ1 S2 with
        | bad => rw [hb] at q2; exact q2.elim
        | nx ρ3 S3 =>
          rw [hb] at q2
          exact fun σ3 m3 H3 s3 w3 en3 => ⟨m3, ρ3, S3, w3, en3, SQ.back s3 q2⟩
        | ct ρ3 S3 =>
          rw [hb] at q2
          exact fun σ3 m3 H3 s3 w3 en3 => ⟨m3, ρ3, S3, w3, en3, SQ.back s3 q2⟩
        | bk ρ3 S3 => rw [hb] at q2; exact q2
        | rt a S3 => rw [hb] at q2; exact q2
        | exc x ρ3 S3 => rw [hb] at q2; exact q2
end
end Ew

set_option Elab.async false
set_option linter.all false
set_option maxRecDepth 100000
set_option maxHeartbeats 4000000
namespace Ew
open PySem PySem.Spec PyProof.Rows L2

/-! ### comprehensions -/
def wipeA (ρ : AE) : List Nat → AE
  | [] => ρ
  | v :: vs => (wipeA ρ vs).set v none
theorem wipe_get (σ : L2.St) (i : Nat) : ∀ vs : List Nat, (wipe σ vs)[i]? = if i ∈ vs then (σ[i]?).map (fun _ => none) else σ[i]?
  | [] => by simp [wipe]
  | v :: vs => by
    unfold wipe
    have ih := wipe_get σ i vs
    by_cases e : v = i
    · subst e
      rw [if_pos List.mem_cons_self]
      by_cases hl : v < σ.length
      · rw [List.getElem?_set_self (by rw [wipe_length]; exact hl), List.getElem?_eq_getElem hl]; rfl
      · rw [List.getElem?_eq_none (by rw [List.length_set, wipe_length]; omega), List.getElem?_eq_none (by omega)]; rfl
    · rw [List.getElem?_set_ne e, ih]
      by_cases h : i ∈ vs
      · rw [if_pos h, if_pos (List.mem_cons_of_mem _ h)]
      · rw [if_neg h, if_neg (fun z => by
          rcases List.mem_cons.mp z with z | z
          · exact e z.symm
          · exact h z)]
theorem wipe_off {σ σ2 : L2.St} {is vs : List Nat} (o : Off is (wipe σ vs) σ2) (h : ∀ i, i ∈ is → i ∈ vs) : wipe σ2 vs = wipe σ vs := by
  refine List.ext_getElem? fun i => ?_
  have hl : σ2.length = σ.length := o.1.trans (wipe_length σ vs)
  rw [wipe_get, wipe_get]
  by_cases hi : i ∈ vs
  · rw [if_pos hi, if_pos hi]
    by_cases hb : i < σ.length
    · rw [List.getElem?_eq_getElem hb, List.getElem?_eq_getElem (by omega)]; rfl
    · rw [List.getElem?_eq_none (by omega), List.getElem?_eq_none (by omega)]
  · rw [if_neg hi, if_neg hi, o.2 i (fun z => hi (h i z)), wipe_get, if_neg hi]
theorem EnvR.wipe {K : PySem.W.Frag} {m : Mem} {H : Hp} {σ : L2.St} {ρ : AE} (e : EnvR K m H σ ρ) : ∀ vs : List Nat, EnvR K m H (L2.wipe σ vs) (wipeA ρ vs)
  | [] => e
  | v :: vs => by
    have ih := EnvR.wipe e vs
    refine ⟨by unfold L2.wipe wipeA; rw [List.length_set, List.length_set]; exact ih.len, fun i a h => ?_⟩
    unfold wipeA at h
    unfold L2.wipe
    by_cases q : v = i
    · subst q
      by_cases hl : v < (wipeA ρ vs).length
      · rw [List.getElem?_set_self hl] at h; cases h
      · rw [List.getElem?_eq_none (by rw [List.length_set]; omega)] at h; cases h
    · rw [List.getElem?_set_ne q] at h ⊢
      exact ih.at_ i a h
/-- the items of a comprehension -/
def lcF (g : D → AE → Option AE) (t : AE → SS → RB) (e : AE → SS → R) (ρ0 : AE) : List D → SS → Option (List D × SS)
  | [], S => some ([], S)
  | d :: ds, S => match g d ρ0 with
    | some ρ => (match t ρ S with
      | .ok true S1 => (match e ρ S1 with
        | .ok a S2 => (match frz a S2 with
          | some (x, S3) => (match lcF g t e ρ0 ds S3 with
            | some (xs, S4) => some (x :: xs, S4)
            | none => none)
          | none => none)
        | _ => none)
      | .ok false S1 => lcF g t e ρ0 ds S1
      | _ => none)
    | none => none
def eLc (vs : List Nat) (it : AE → SS → RI) (g : D → AE → Option AE) (t : AE → SS → RB) (e : AE → SS → R) : AE → SS → R := fun ρ S => match it ρ S with
  | .ok ds S1 => (match lcF g t e (wipeA ρ vs) ds S1 with
    | some (xs, S2) => (match decide (xs.length ≤ line) with
      | true => .ok (.new (.lst xs)) S2
      | false => .bad)
    | none => .bad)
  | .exc x S1 => .exc x S1
  | .bad => .bad
def W0 : WX := fun _ _ _ _ => False
def JTs (X : Cx) (W : WX) (es : List Expr) (t : AE → SS → RB) : Prop := ∀ ρ S, PTs X es (tRB (kx X W) ρ S (t ρ S))
def tY : AE → SS → RB := fun _ S => .ok true S
theorem PTs.imp {X : Cx} {e : List Expr} {t t' : TT} (h : PTs X e t) (i : ∀ σ H Q, t' σ H Q → t σ H Q) : PTs X e t' := ⟨fun pins s σ H Q I q => h.run pins s σ H Q I (i σ H Q q)⟩
theorem PTs.ex {X : Cx} {e : List Expr} {t : TT} (h : ∀ σ H Q, t σ H Q → ∃ t', PTs X e t' ∧ t' σ H Q) : PTs X e t := ⟨fun pins s σ H Q I q => by
  obtain ⟨t', h', q'⟩ := h σ H Q q
  exact h'.run pins s σ H Q I q'⟩
theorem jts_nil {X : Cx} {W : WX} : JTs X W [] tY := fun ρ S => PTs.imp pts_nil fun σ H Q ⟨m, w, en, q⟩ => q m H (.refl _ _) w
theorem jts_one {X : Cx} {W : WX} {c : Expr} {t : AE → SS → RB} (j : JT X W c t) : JTs X W [c] t := fun ρ S => pts_one (j ρ S)
theorem pts_u {X : Cx} {W : WX} {e : List Expr} {f : AE → SS → RB} (j : JTs X W e f) : PTs X e (tTu (kx X W) f) := PTs.ex fun σ H Q ⟨ρ, S, h⟩ => ⟨_, j ρ S, h⟩
/-- the new list grows -/
theorem grow_ok {K : PySem.W.Frag} {m1 m : Mem} {H1 H : Hp} {S : SS} {Dl : Addr} {acc : List V} {u : HO} (h1 : H1 Dl = none) (s : Step m1 H1 m H) (w : Wd K m H S) (hL : Dl ∉ m.L) (hP : ¬ m.P Dl) (hD : H Dl = some (.lst acc)) {acc' : List V} :
    Step m1 H1 m (upd H Dl (.lst acc')) ∧ Wd K m (upd H Dl (.lst acc')) S ∧ Stay K m.P H m.P (upd H Dl (.lst acc')) := by
  have st : Stay K m.P H m.P (upd H Dl (.lst acc')) := ⟨fun b o e i => by
      rw [upd_ne fun z => ?_]
      · exact e
      · subst z; rw [hD] at e; cases e; exact i, fun b o c e => by
      have ne : b ≠ Dl := fun z => by
        subst z
        exact hP c
      rw [upd_ne ne]; exact e, fun _ c => c⟩
  refine ⟨⟨s.ext, fun b o e c => ?_, s.phi, s.fr, fun b o e => ?_⟩, ⟨w.len, w.nd, fun n p o e1 e2 => (w.obj n p o e1 e2).mono st (Grow.refl m) ?_, w.sep, fun p c => ?_⟩, st⟩
  · rw [upd_ne (ne_of_none e h1)]; exact s.keep b o e c
  · rw [upd_ne (ne_of_none e h1)]; exact s.trk b o e
  · have ne : p ≠ Dl := fun z => by
      subst z
      exact hL (List.mem_of_getElem? e1)
    rw [upd_ne ne]
  · obtain ⟨o, e⟩ := w.phi p c
    have ne : p ≠ Dl := fun z => by
      subst z
      exact hP c
    exact ⟨o, by rw [upd_ne ne]; exact e⟩
theorem RepL.snoc {K : PySem.W.Frag} {P : Addr → Prop} {H : Hp} : ∀ {vs : List V} {ds : List D} {v : V} {d : D}, RepL K P H vs ds → Rep K P H v d → RepL K P H (vs ++ [v]) (ds ++ [d])
  | _, _, _, _, .nil, h => .cons h .nil
  | _, _, _, _, .cons a t, h => .cons a (RepL.snoc t h)
section
variable {X : Cx} {W : WX}
theorem lc_ok {iter : Expr} {tg : Expr} {it : AE → SS → RI} {is : List Nat} {g : D → AE → Option AE} {t : AE → SS → RB} {e : AE → SS → R} {vs : List Nat} (hi : ∀ i, i ∈ is → i ∈ vs) (ρ : AE) (S : SS) (σ : L2.St) (H : Hp) (Q : VK)
    (q : tR (kx X W) ρ S (eLc vs it g t e ρ S) σ H Q) : tLc (tRI (kx X W) ρ S (it ρ S)) (tGu X.K is g) (tTu ⟨X.K, X.mg, W0⟩ t) (tEu ⟨X.K, X.mg, W0⟩ e) vs σ H Q := by
  obtain ⟨m, w, en, q⟩ := q
  refine ⟨m, w, en, ?_⟩
  unfold eLc at q
  cases hit : it ρ S with
  | bad => rw [hit] at q; exact q.elim
  | exc x S1 => rw [hit] at q; exact q
  | ok ds S1 =>
    rw [hit] at q
    dsimp only at q
    intro J m1 H1 s1 w1 wk Dl hD
    cases hl : lcF g t e (wipeA ρ vs) ds S1 with
    | none => rw [hl] at q; exact q.elim
    | some z =>
      obtain ⟨xs, S2⟩ := z
      rw [hl] at q
      dsimp only at q
      split at q
      · rename_i hline
        have hline : xs.length ≤ line := of_decide_eq_true hline
        have hn := w1.new hD
        refine ⟨fun i mm H' => mm = ds.length - i ∧ i ≤ ds.length ∧ ∃ m' S' acc accD rest, Step m1 H1 m' H' ∧ Wd X.K m' H' S' ∧ Dl ∉ m'.L ∧ ¬ m'.P Dl ∧ H' Dl = some (.lst acc) ∧ RepL X.K m'.P H' acc accD ∧ lcF g t e (wipeA ρ vs) (ds.drop i) S' = some (rest, S2) ∧ accD ++ rest = xs,
          ⟨ds.length, rfl, Nat.zero_le _, m1, S1, [], [], xs, step_upd hD, w1.step (step_upd hD) (fun p hp => by
            obtain ⟨u, hu, _⟩ := w1.there hp
            rw [upd_ne (ne_of_none hu hD)]), hn.1, hn.2, upd_same, .nil, hl, rfl⟩, ?_⟩
        rintro i mm H' ⟨rfl, hile, m', S', acc, accD, rest, s', w', hL, hP, hacc, racc, hlc, hxs⟩
        obtain ⟨go, stop, yl⟩ := wk m' H' s'
        by_cases hlt : i < ds.length
        · refine .inr ⟨go i hlt, fun H2 => ∃ m' S' acc accD rest, Step m1 H1 m' H2 ∧ Wd X.K m' H2 S' ∧ Dl ∉ m'.L ∧ ¬ m'.P Dl ∧ H2 Dl = some (.lst acc) ∧ RepL X.K m'.P H2 acc accD ∧ lcF g t e (wipeA ρ vs) (ds.drop (i + 1)) S' = some (rest, S2) ∧ accD ++ rest = xs,
            fun H2 h2 => ⟨ds.length - (i + 1), by omega, rfl, hlt, h2⟩, fun x H2 hy => ?_⟩
          obtain ⟨hst, d, hd, hr⟩ := yl i x H2 hlt hy
          have st := step_tup (m := m') hst
          have w2 := wd_tup w' hst
          have ed : ds.drop i = d :: ds.drop (i + 1) := by
            rw [List.drop_eq_getElem_cons hlt]
            congr 1
            rw [List.getElem?_eq_getElem hlt] at hd
            exact Option.some.inj hd
          rw [ed] at hlc
          unfold lcF at hlc
          split at hlc
          · rename_i ρ2 eg
            have en2 : EnvR X.K m' H2 (L2.wipe σ vs) (wipeA ρ vs) := ((en.mono s1).mono (s'.trans st)).wipe vs
            refine ⟨d, _, ρ2, eg, m', S', w2, en2, hr, fun σ3 en3 off => ⟨wipe_off off hi, ρ2, S', m', w2, en3, ?_⟩⟩
            have hD2 : H2 Dl = some (.lst acc) := st.keep Dl _ hacc (.inl hL)
            have r2 := racc.mono st.stay
            split at hlc
            · rename_i S3 et
              rw [et]
              intro m3 H3 s3 w3
              refine iteT ⟨ρ2, S3, m3, w3, en3.mono s3, ?_⟩
              have L3 : Dl ∉ m3.L := fun z => by
                obtain ⟨ps, el, fr⟩ := s3.ext
                rw [el] at z
                rcases List.mem_append.mp z with z | z
                · exact hL z
                · rw [fr _ z] at hD2; cases hD2
              have P3 : ¬ m3.P Dl := fun z => by
                rcases s3.fr _ z with z | z | z
                · exact hP z
                · exact hL z
                · rw [z] at hD2; cases hD2
              have hD3 : H3 Dl = some (.lst acc) := s3.keep Dl _ hD2 (.inl hL)
              split at hlc
              · rename_i a S4 ee
                rw [ee]
                split at hlc
                · rename_i x' S5 ef
                  split at hlc
                  · rename_i xs' S6 er
                    cases hlc
                    intro y m4 H4 s4 w4 a4 f4
                    obtain ⟨P', gr, s5, w5, r5⟩ := frz_ok s4 w4 a4.q f4 ef
                    have L4 : Dl ∉ m4.L := fun z => by
                      obtain ⟨ps, el, fr⟩ := s4.ext
                      rw [el] at z
                      rcases List.mem_append.mp z with z | z
                      · exact L3 z
                      · rw [fr _ z] at hD3; cases hD3
                    have P4 : ¬ P' Dl := fun z => by
                      rcases s5.fr _ z with z | z | z
                      · exact P3 z
                      · exact L3 z
                      · rw [z] at hD3; cases hD3
                    have hD4 : H4 Dl = some (.lst acc) := s4.keep Dl _ hD3 (.inl L3)
                    have s15 := ((s'.trans st).trans s3).trans s5
                    have e5 : m4.L = (Mem.mk m4.L P').L := rfl
                    refine ⟨acc, hD4, ?_, ?_⟩
                    · have e1 := r2.length
                      have e2 : accD.length < xs.length := by rw [← hxs, List.length_append, List.length_cons]; omega
                      rw [e1]
                      exact line_lt (by omega)
                    · obtain ⟨t1, t2, t3⟩ := grow_ok (K := X.K) (u := .lst []) (acc' := acc ++ [y]) hD s15 w5 L4 P4 hD4
                      refine ⟨⟨m4.L, P'⟩, S5, acc ++ [y], accD ++ [x'], xs', t1, t2, L4, P4, upd_same, ?_, er, by rw [List.append_assoc]; exact hxs⟩
                      exact RepL.mono t3 (RepL.snoc ((r2.mono s3.stay).mono s5.stay) r5)
                  · cases hlc
                · cases hlc
              · cases hlc
            · rename_i S3 et
              rw [et]
              intro m3 H3 s3 w3
              have L3 : Dl ∉ m3.L := fun z => by
                obtain ⟨ps, el, fr⟩ := s3.ext
                rw [el] at z
                rcases List.mem_append.mp z with z | z
                · exact hL z
                · rw [fr _ z] at hD2; cases hD2
              have P3 : ¬ m3.P Dl := fun z => by
                rcases s3.fr _ z with z | z | z
                · exact hP z
                · exact hL z
                · rw [z] at hD2; cases hD2
              exact iteF ⟨m3, S3, acc, accD, rest, (s'.trans st).trans s3, w3, L3, P3, s3.keep Dl _ hD2 (.inl hL), r2.mono s3.stay, hlc, hxs⟩
            · cases hlc
          · cases hlc
        · have hi2 : i = ds.length := by omega
          subst hi2
          rw [List.drop_length] at hlc
          cases hlc
          rw [List.append_nil] at hxs
          subst hxs
          exact .inl ⟨stop, q _ m' H' (s1.trans s') w' ⟨Dl, rfl, hL, hP, rfl, acc, hacc, racc⟩ (fun p ep => by cases ep; exact s1.none hD)⟩
      · exact q.elim
/-- what a block's parts are asked for: they stand in any block of this scope -/
def Blk (X : Cx) (scope : Scope) (p : Cx → Prop) : Prop := ∀ (s : Shared) (H : Hp) (C : Addr) (cl : List (Str × Addr)) (fp : List Addr), p (X.blk s H scope (compEnvC scope cl C X.env) fp)
theorem je_lc {elt tg iter : Expr} {ifs : List Expr} {scope : Scope} {own : List (Str × Nat)} {pos : Pos} {it : AE → SS → RI} {is : List Nat} {g : D → AE → Option AE} {t : AE → SS → RB} {e : AE → SS → R} (hc : X.calm = true) (hN : X.N.Nodup) (ji : JI X W tg iter it) (ok : BlkOk X.N X.env.scope scope own) (hin : ∀ i, i ∈ is → i ∈ own.map (·.2))
    (jg : Blk X scope fun Y => JG Y tg is g) (jt : Blk X scope fun Y => JTs Y W0 ifs t) (je : Blk X scope fun Y => JE Y W0 elt e) (hs : ∀ x, foldedSetIterable iter X.env x = pure x := by intro _; rfl) : JE X W (.ListComp elt [⟨tg, iter, ifs, 0⟩] scope pos) (eLc (own.map (·.2)) it g t e) := fun ρ S =>
  PE.imp (pe_lc hc hN (ji ρ S) ok (fun s H C cl fp => pg_u (jg s H C cl fp)) (fun s H C cl fp => pts_u (jt s H C cl fp)) (fun s H C cl fp => pe_u (je s H C cl fp)) hs) fun σ H Q q => lc_ok (iter := iter) (tg := tg) hin ρ S σ H Q q
/-- x = [..] -/
theorem js_setLc {i : Nat} {y : Str} {py : Pos} {elt tg iter : Expr} {ifs : List Expr} {scope : Scope} {own : List (Str × Nat)} {pos spos : Pos} {it : AE → SS → RI} {is : List Nat} {g : D → AE → Option AE} {t : AE → SS → RB} {e : AE → SS → R} (hc : X.calm = true) (hN : X.N.Nodup) (ji : JI X W tg iter it) (ok : BlkOk X.N X.env.scope scope own) (hin : ∀ i, i ∈ is → i ∈ own.map (·.2))
    (jg : Blk X scope fun Y => JG Y tg is g) (jt : Blk X scope fun Y => JTs Y W0 ifs t) (je : Blk X scope fun Y => JE Y W0 elt e)
    (hsw : swapsWith (.ListComp elt [⟨tg, iter, ifs, 0⟩] scope pos) (some (.Name y py)) spos.line X.env = pure true) (hy : X.N[i]? = some y := by rfl) (hyl : X.env.scope.names.lookup y = some .local := by rfl) (hs : ∀ x, foldedSetIterable iter X.env x = pure x := by intro _; rfl) :
    JS X W (.Assign [.Name y py] (.ListComp elt [⟨tg, iter, ifs, 0⟩] scope pos) spos) (sSet i (eLc (own.map (·.2)) it g t e)) := fun ρ S =>
  PS.imp (ps_setLc hc hN hy hyl hsw (ji ρ S) ok (fun s H C cl fp => pg_u (jg s H C cl fp)) (fun s H C cl fp => pts_u (jt s H C cl fp)) (fun s H C cl fp => pe_u (je s H C cl fp)) hs) fun D σ H ⟨m, w, en, q⟩ => lc_ok (iter := iter) (tg := tg) hin ρ S σ H _ ⟨m, w, en, R.toS_ok en q fun a S1 v m1 H1 s1 w1 a1 f1 q => by
    obtain ⟨P', g, s2, w2, a2⟩ := fz1_ok s1 w1 a1 f1
    exact q _ _ _ s2 w2 ((en.mono s2).set a2)⟩
theorem js_setLcO {i : Nat} {y : Str} {py : Pos} {elt tg iter : Expr} {ifs : List Expr} {scope : Scope} {own : List (Str × Nat)} {pos spos : Pos} {it : AE → SS → RI} {is : List Nat} {g : D → AE → Option AE} {t : AE → SS → RB} {e : AE → SS → R} (hc : X.calm = true) (hN : X.N.Nodup) (ji : JI X W tg iter it) (ok : BlkOk X.N X.env.scope scope own) (hin : ∀ i, i ∈ is → i ∈ own.map (·.2))
    (jg : Blk X scope fun Y => JG Y tg is g) (jt : Blk X scope fun Y => JTs Y W0 ifs t) (je : Blk X scope fun Y => JE Y W0 elt e)
    (hsw : swapsWith (.ListComp elt [⟨tg, iter, ifs, 0⟩] scope pos) (some (.Name y py)) spos.line X.env = pure true) (hy : X.N[i]? = some y := by rfl) (hyl : X.env.scope.names.lookup y = some .local := by rfl) (hs : ∀ x, foldedSetIterable iter X.env x = pure x := by intro _; rfl) :
    JS X W (.Assign [.Name y py] (.ListComp elt [⟨tg, iter, ifs, 0⟩] scope pos) spos) (sSetO i (eLc (own.map (·.2)) it g t e)) := fun ρ S =>
  PS.imp (ps_setLc hc hN hy hyl hsw (ji ρ S) ok (fun s H C cl fp => pg_u (jg s H C cl fp)) (fun s H C cl fp => pts_u (jt s H C cl fp)) (fun s H C cl fp => pe_u (je s H C cl fp)) hs) fun D σ H ⟨m, w, en, q⟩ => lc_ok (iter := iter) (tg := tg) hin ρ S σ H _ ⟨m, w, en, R.toS_ok en q fun a S1 v m1 H1 s1 w1 a1 f1 q => by
    cases a with
    | dat d => exact q _ _ _ s1 w1 ((en.mono s1).set a1)
    | own n => exact q _ _ _ s1 w1 ((en.mono s1).set a1)
    | nst is => exact q _ _ _ s1 w1 ((en.mono s1).set a1)
    | new o =>
      obtain ⟨p, rfl, _⟩ := id a1
      obtain ⟨s2, w2, a2⟩ := own_ok s1 w1 a1 f1
      exact q _ _ _ s2 w2 ((en.mono s2).set a2)⟩
end
end Ew

set_option Elab.async false
set_option linter.all false
set_option maxRecDepth 100000
set_option maxHeartbeats 4000000
namespace Ew
open PySem PySem.Spec PyProof.Rows L2

/-! ### objects that change -/
theorem mut_ok {K : PySem.W.Frag} {m : Mem} {H : Hp} {S : SS} {n : Nat} {p : Addr} {o o' : AO} {u : HO} (w : Wd K m H S) (hp : m.L[n]? = some p) (ho : S[n]? = some o) (hl : o.live = true) (oo : OC K m.P (upd H p u) p o') :
    Step m H m (upd H p u) ∧ Wd K m (upd H p u) (S.set n o') := by
  have nP : ¬ m.P p := w.sep n p o hp ho (AO.live_sp hl)
  obtain ⟨u0, hu0, nu⟩ := OO.thereL hl (w.obj n p o hp ho)
  have hn : n < S.length := (List.getElem?_eq_some_iff.mp ho).1
  have st : Stay K m.P H m.P (upd H p u) := ⟨fun b o e i => by
      have ne : b ≠ p := fun z => by
        subst z
        rw [hu0] at e; cases e; exact nu i
      rw [upd_ne ne]; exact e, fun b o c e => by
      have ne : b ≠ p := fun z => by
        subst z
        exact nP c
      rw [upd_ne ne]; exact e, fun _ c => c⟩
  refine ⟨⟨⟨[], by simp, by simp⟩, fun b o e c => ?_, fun _ c => c, fun _ c => .inl c, fun b o e => ?_⟩, ⟨by rw [List.length_set]; exact w.len, w.nd, fun n' p' o2 e1 e2 => ?_, fun n' p' o2 e1 e2 l => ?_, fun b c => ?_⟩⟩
  · have ne : b ≠ p := fun z => by
      subst z
      rcases c with c | c | c
      · exact c (List.mem_of_getElem? hp)
      · exact nP c
      · rw [hu0] at e; cases e; exact nu c
    rw [upd_ne ne]; exact e
  · by_cases e2 : b = p
    · subst e2; exact ⟨u, upd_same⟩
    · exact ⟨o, by rw [upd_ne e2]; exact e⟩
  · by_cases q : n = n'
    · subst q
      rw [List.getElem?_set_self hn] at e2
      rw [hp] at e1
      cases e1; cases e2
      exact oo.o
    · rw [List.getElem?_set_ne q] at e2
      have ne : p' ≠ p := fun z => by
        subst z
        exact q ((List.getElem?_inj (List.getElem?_eq_some_iff.mp hp).1 w.nd).mp (hp.trans e1.symm))
      exact (w.obj n' p' o2 e1 e2).mono st (Grow.refl m) (upd_ne ne)
  · by_cases q : n = n'
    · subst q
      rw [hp] at e1
      cases e1
      exact nP
    · rw [List.getElem?_set_ne q] at e2
      exact w.sep n' p' o2 e1 e2 l
  · obtain ⟨o, e⟩ := w.phi b c
    by_cases e2 : b = p
    · subst e2; exact ⟨u, upd_same⟩
    · exact ⟨o, by rw [upd_ne e2]; exact e⟩
theorem mut_stay {K : PySem.W.Frag} {P : Addr → Prop} {H : Hp} {p : Addr} {u u0 : HO} (h : H p = some u0) (n : ¬ imm u0) (c : ¬ P p) : Stay K P H P (upd H p u) := ⟨fun b o e i => by
      have ne : b ≠ p := fun z => by
        subst z
        rw [h] at e; cases e; exact n i
      rw [upd_ne ne]; exact e, fun b o d e => by
      have ne : b ≠ p := fun z => by
        subst z
        exact c d
      rw [upd_ne ne]; exact e, fun _ c => c⟩
/-- a method that changes its receiver: g tells the new content and the answer -/
def MuV (K : PySem.W.Frag) (r : V → List V → Hp → VK → Prop) (g : AO → List D → Option (AO × D)) : Prop :=
  ∀ (P : Addr → Prop) (H : Hp) (p : Addr) (o : AO) (vs : List V) (ds : List D) (o' : AO) (d : D) (Q : VK), OC K P H p o → o.live = true → ¬ P p → RepL K P H vs ds → g o ds = some (o', d) →
    (∀ v u, OC K P (upd H p u) p o' → Rep K P (upd H p u) v d → Q v (upd H p u)) → r (.ref p) vs H Q
def tyO (T : String) : AO → Bool
  | .lst _ => T == "list"
  | .dct _ => T == "dict"
  | _ => false
theorem tyO_ok {K : PySem.W.Frag} {m : Mem} {H : Hp} {p : Addr} {o : AO} {T : String} (h : OO K m H p o) (e : tyO T o = true) : tyV K T (.ref p) H ∧ o.live = true := by
  cases o with
  | lst ds =>
    obtain ⟨xs, h1, _⟩ := h
    exact ⟨.inl ⟨beq_iff_eq.mp e, xs, .of h1⟩, rfl⟩
  | dct ds =>
    obtain ⟨xs, h1, _⟩ := h
    exact ⟨.inr (.inr (.inl ⟨beq_iff_eq.mp e, .inl ⟨xs, h1⟩⟩)), rfl⟩
  | fz d => cases e
  | nx _ => cases e
def apU (g : AO → List D → Option (AO × D)) (n : Nat) (as : List AV) (S : SS) : R := match frzs as S with
  | some (ds, S1) => (match S1[n]? with
    | some o => (match o.live, g o ds with
      | true, some (o', d) => .ok (.dat d) (S1.set n o')
      | _, _ => .bad)
    | none => .bad)
  | none => .bad
def eMu (T : String) (g : AO → List D → Option (AO × D)) (f : AE → SS → R) (h : AE → SS → RA) : AE → SS → R := fun ρ S => (f ρ S).bind fun x S1 => match x with
  | .own n => (match S1[n]? with
    | some o => (match tyO T o with
      | true => (h ρ S1).toR fun as S2 => apU g n as S2
      | false => .bad)
    | none => .bad)
  | _ => .bad
theorem apU_ok {k : Kx} {r : V → List V → Hp → VK → Prop} {g : AO → List D → Option (AO × D)} (hv : MuV k.K r g) {σ : L2.St} {m0 m : Mem} {H0 H : Hp} {S : SS} {n : Nat} {p : Addr} {vs : List V} {as : List AV} {Q : VK} (s : Step m0 H0 m H) (w : Wd k.K m H S) (hp : m.L[n]? = some p) (ha : Paired (AVR k.K m H) vs as) (hf : Paired (AVF H0) vs as)
    (q : RQ k σ m0 H0 (apU g n as S) Q) : r (.ref p) vs H Q := by
  unfold apU at q
  split at q
  · rename_i ds S1 e
    obtain ⟨P', gr, s1, w1, r1⟩ := frzs_ok s w (L2.Paired.mapP ha fun _ _ z => z.q) hf e
    split at q
    · rename_i o ho
      split at q
      · rename_i o' d hl hg
        have nP := w1.sep n p o hp ho (AO.live_sp hl)
        have oo := (w1.obj n p o hp ho).c hl
        refine hv P' H p o vs ds o' d Q oo hl nP r1 hg fun v u oo' rv => ?_
        obtain ⟨s2, w2⟩ := mut_ok w1 hp ho hl oo'
        exact q v _ _ (s1.trans s2) w2 rv trivial
      · exact q.elim
    · exact q.elim
  · exact q.elim
section
variable {X : Cx} {W : WX}
theorem je_mu {T : String} {name : Str} {r : V → List V → Hp → VK → Prop} {g : AO → List D → Option (AO × D)} {o e : Expr} {es : List Expr} {apos pos : Pos} {f : AE → SS → R} {h : AE → SS → RA} (hv : MuV X.K r g)
    (pb : ∀ {to : TE} {t : TA}, PE X o to → PA X (e :: es) t → PE X (.Call (.Attribute o name apos) (e :: es) [] pos) (tBM X.K T r to t)) (jo : JE X W o f) (ja : JA X W (e :: es) h) : JE X W (.Call (.Attribute o name apos) (e :: es) [] pos) (eMu T g f h) := fun ρ S => by
  cases hf : f ρ S with
  | bad => exact PE.imp (pb (jo ρ S) (ja ρ S)) fun σ H Q ⟨m, w, en, q⟩ => by unfold eMu at q; rw [hf] at q; exact q.elim
  | exc x S1 => exact PE.imp (pb (jo ρ S) (ja ρ S)) fun σ H Q ⟨m, w, en, q⟩ => ⟨m, w, en, by unfold eMu at q; rw [hf] at q ⊢; exact q⟩
  | ok x S1 =>
    refine PE.imp (pb (jo ρ S) (ja ρ S1)) fun σ H Q ⟨m, w, en, q⟩ => ⟨m, w, en, ?_⟩
    unfold eMu at q
    rw [hf] at q ⊢
    intro v m1 H1 s1 w1 a1 f1
    dsimp only [R.bind] at q
    split at q
    · rename_i n
      obtain ⟨p, rfl, hp⟩ := a1
      split at q
      · rename_i o ho
        split at q
        · rename_i ht
          refine ⟨(tyO_ok (w1.obj n p o hp ho) ht).1, m1, w1, en.mono s1, ?_⟩
          have q := RQ.back s1 q
          cases hh : h ρ S1 with
          | bad => rw [hh] at q; exact q.elim
          | exc y S2 => rw [hh] at q; exact q
          | ok as S2 =>
            rw [hh] at q
            intro vs m2 H2 s2 w2 a2 f2
            obtain ⟨ps, el, _⟩ := s2.ext
            exact apU_ok (k := kx X W) (σ := σ) hv s2 w2 (by rw [el, List.getElem?_append_left (List.getElem?_eq_some_iff.mp hp).1]; exact hp) a2 f2 q
        · exact q.elim
      · exact q.elim
    · exact q.elim
def eMu0 (T : String) (g : AO → List D → Option (AO × D)) (f : AE → SS → R) : AE → SS → R := fun ρ S => (f ρ S).bind fun x S1 => match x with
  | .own n => (match S1[n]? with
    | some o => (match tyO T o with
      | true => apU g n [] S1
      | false => .bad)
    | none => .bad)
  | _ => .bad
theorem je_mu0 {T : String} {name : Str} {r : V → List V → Hp → VK → Prop} {g : AO → List D → Option (AO × D)} {o : Expr} {apos pos : Pos} {f : AE → SS → R} (hv : MuV X.K r g)
    (pb : ∀ {to : TE}, PE X o to → PE X (.Call (.Attribute o name apos) [] [] pos) (tBM0 X.K T r to)) (jo : JE X W o f) : JE X W (.Call (.Attribute o name apos) [] [] pos) (eMu0 T g f) := fun ρ S => by
  refine PE.imp (pb (jo ρ S)) fun σ H Q ⟨m, w, en, q⟩ => ⟨m, w, en, ?_⟩
  unfold eMu0 at q
  cases hf : f ρ S with
  | bad => rw [hf] at q; exact q.elim
  | exc x S1 => rw [hf] at q; exact q
  | ok x S1 =>
    rw [hf] at q
    intro v m1 H1 s1 w1 a1 f1
    dsimp only [R.bind] at q
    split at q
    · rename_i n
      obtain ⟨p, rfl, hp⟩ := a1
      split at q
      · rename_i o ho
        split at q
        · rename_i ht
          exact ⟨(tyO_ok (w1.obj n p o hp ho) ht).1, apU_ok (k := kx X W) (σ := σ) hv (.refl _ _) w1 hp .nil .nil (RQ.back s1 q)⟩
        · exact q.elim
      · exact q.elim
    · exact q.elim

/-! ### o[i] = e -/
/-- a store by values -/
def SeV (K : PySem.W.Frag) (t : TSet) (g : AO → D → D → Option AO) : Prop :=
  ∀ (P : Addr → Prop) (H : Hp) (p : Addr) (o : AO) (i v : V) (di dv : D) (o' : AO) (Q : Hp → Prop), OC K P H p o → o.live = true → ¬ P p → RepV K P H i di → Rep K P H v dv → g o di dv = some o' → (∀ u, OC K P (upd H p u) p o' → Q (upd H p u)) → t (.ref p) i v H Q
def apP (g : AO → D → D → Option AO) (ρ : AE) (x y : AV) (d : D) (S : SS) : SR := match x, view y S with
  | .own n, some i => (match S[n]? with
    | some o => (match o.live, g o i d with
      | true, some o' => .nx ρ (S.set n o')
      | _, _ => .bad)
    | none => .bad)
  | _, _ => .bad
def sPut (g : AO → D → D → Option AO) (fo fi fe : AE → SS → R) : AE → SS → SR := fun ρ S => (fe ρ S).toS ρ fun a S1 => match frz a S1 with
  | some (d, S2) => (fo ρ S2).toS ρ fun x S3 => (fi ρ S3).toS ρ fun y S4 => apP g ρ x y d S4
  | none => .bad
theorem js_put {t : TSet} {g : AO → D → D → Option AO} {o i e : Expr} {pos pos' : Pos} {fo fi fe : AE → SS → R} (hs : PSet X t) (hv : SeV X.K t g) (jo : JE X W o fo) (ji : JE X W i fi) (je : JE X W e fe)
    (h1 : swapsWithSole [.Subscript o i pos'] e pos.line X.env = pure false := by rfl) (h2 : swappedStores [.Subscript o i pos'] e X.env = pure none := by rfl)
    (h3 : (assignEach [.Subscript o i pos'] X.env).map (·.2) = [assign (.Subscript o i pos') X.env] := by rfl)
    (ha : ∀ v, assign (.Subscript o i pos') X.env v = (do
      let ov ← holding [v] (eval o X.env)
      let iv ← holding [v, ov] (eval i X.env)
      standAt pos'
      holding [v, ov, iv] (setItem ov iv v)
      release [v, ov, iv] []) := by intro _; rfl) : JS X W (.Assign [.Subscript o i pos'] e pos) (sPut g fo fi fe) := fun ρ S => by
  refine PS.imp (ps_asg (je ρ S) (pg_sub (pe_u jo) (pe_u ji) hs ha) h1 h2 h3) fun D σ H ⟨m, w, en, q⟩ => ⟨m, w, en, R.toS_ok en q fun a S1 v m1 H1 s1 w1 a1 f1 q => ?_⟩
  split at q
  · rename_i d S2 ef
    obtain ⟨P', gr, s2, w2, r2⟩ := frz_ok s1 w1 a1.q f1 ef
    have q := SQ.back s2 q
    have en2 := en.mono s2
    refine ⟨ρ, S2, _, w2, en2, ?_⟩
    cases ho : fo ρ S2 with
    | bad => rw [ho] at q; exact q.elim
    | exc x S3 => rw [ho] at q; exact fun m3 H3 s3 w3 => q σ m3 H3 s3 w3 (en2.mono s3)
    | ok x S3 =>
      rw [ho] at q
      intro vo m3 H3 s3 w3 a3 f3
      have q := SQ.back s3 q
      have en3 := en2.mono s3
      refine ⟨ρ, S3, _, w3, en3, ?_⟩
      dsimp only [R.toS] at q
      cases hi : fi ρ S3 with
      | bad => rw [hi] at q; exact q.elim
      | exc x S4 => rw [hi] at q; exact fun m4 H4 s4 w4 => q σ m4 H4 s4 w4 (en3.mono s4)
      | ok y S4 =>
        rw [hi] at q
        intro vi m4 H4 s4 w4 a4 f4
        have q := SQ.back s4 q
        have en4 := en3.mono s4
        dsimp only [R.toS, apP] at q
        split at q
        · rename_i n di e1 qq1 qq2
          obtain ⟨p, rfl, hp⟩ := (AVR.mono s4 a3 : AVR X.K m4 H4 vo (.own n))
          split at q
          · rename_i oo hoo
            split at q
            · rename_i o' hl hg
              have ob := (w4.obj n p oo hp hoo).c hl
              refine hv m4.P H4 p oo vi v di d o' _ ob hl (w4.sep n p oo hp hoo (AO.live_sp hl)) (view_rep w4 a4 e1) ((r2.mono s3.stay).mono s4.stay) hg fun u oo' => ?_
              obtain ⟨s5, w5⟩ := mut_ok w4 hp hoo hl oo'
              exact q σ _ _ s5 w5 (en4.mono s5)
            · exact q.elim
          · exact q.elim
        · exact q.elim
  · exact q.elim

/-! ### x op= e on a name -/
def IpV (K : PySem.W.Frag) (r : TIp) (g : D → D → Option D) : Prop :=
  ∀ (P : Addr → Prop) (H : Hp) (x y : V) (d e z : D) (Q : VK), Rep K P H x d → RepV K P H y e → g d e = some z → (∀ v, Rep K P H v z → Q v H) → r x y H Q
def sAug (i : Nat) (g : D → D → Option D) (f : AE → SS → R) : AE → SS → SR := fun ρ S => match ρ[i]? with
  | some (some (.dat d)) => (f ρ S).toS ρ fun y S1 => match view y S1 with
    | some e => (match g d e with
      | some z => .nx (ρ.set i (some (.dat z))) S1
      | none => .bad)
    | none => .bad
  | _ => .bad
theorem js_aug {i : Nat} {x : Str} {e : Expr} {op : Operator} {ti : TIp} {g : D → D → Option D} {pos pos' : Pos} {f : AE → SS → R} (ho : PIp X op ti) (hv : IpV X.K ti g) (je : JE X W e f) (hN : X.N.Nodup) (hi : X.N[i]? = some x := by rfl) (hx : Loc X.env.scope x := by first | exact Or.inl rfl | exact Or.inr rfl)
    (hf : X.fn x = true ∨ X.env.scope.names.lookup x = some .local := by first | exact .inl rfl | exact .inr rfl | assumption) : JS X W (.AugAssign (.Name x pos') op e pos) (sAug i g f) := fun ρ S => by
  refine PS.imp (ps_aug hN hi hx (je ρ S) ho hf) fun D σ H ⟨m, w, en, q⟩ => ?_
  unfold sAug at q
  split at q
  · rename_i d hd
    obtain ⟨vx, h1, h2⟩ := en.at_ i _ hd
    refine ⟨vx, h1, m, w, en, R.toS_ok en q fun a S1 v m1 H1 s1 w1 a1 f1 q => ?_⟩
    split at q
    · rename_i e1 he
      split at q
      · rename_i z hz
        refine hv m1.P H1 vx v d e1 z _ (Rep.mono s1.stay h2) (view_rep w1 a1 he) hz fun v' r' => ?_
        exact q _ _ _ s1 w1 ((en.mono s1).set r')
      · exact q.elim
    · exact q.elim
  · exact q.elim
/-- a statement that is never come to -/
def sBad : AE → SS → SR := fun _ _ => .bad
theorem js_bad {st : Stmt} : JS X W st sBad := fun ρ S => PS.imp ps_never fun D σ H ⟨m, w, en, q⟩ => q.elim
end
end Ew

set_option Elab.async false
set_option linter.all false
set_option maxRecDepth 100000
set_option maxHeartbeats 4000000
namespace Ew
open PySem PySem.Spec PyProof.Rows L2

/-! ### a tuple times one is the tuple itself -/
theorem tup_mul1 (l : Addr) (items : Array Value) (n : Nat) (dd : Option Addr) (sl : Array (Option Value)) (u : Tok) :
    Meets (Builtin.«tuple.__mul__» ⟨[.ref l, .int 1 u], []⟩) (fun _ R s => s.heap.get? l = some { cls := .type "tuple", dict := dd, data := .seq items n, slots := sl } ∧ R (.ok (.ret (Value.ref l))) s) :=
  .of_wp fun prog w A R s h => by
    obtain ⟨hp, g, d, tk, os⟩ := s
    obtain ⟨hl, h⟩ := h
    have f1 := AutoSeq1.idx_int
    have c1 : (items.isEmpty || (1 : Int) == 1) = true := by cases items.isEmpty <;> rfl
    wp_walk using wpAny_loadPart' hl
    exact ⟨_, rfl, h⟩
def rRep1 (K : PySem.W.Frag) : R2 := fun x y H Q => ∃ l xs, x = .ref l ∧ y = .int 1 ∧ SqT K H l xs ∧ Q (.ref l) H
theorem op_rep1 {X : Cx} : OpR X (binaryOp .Mult) (rRep1 X.K) := by
  intro pins s σ H x y v u Q I rx ry h
  obtain ⟨l, xs, rfl, rfl, hT, q⟩ := h
  cases rx
  obtain ⟨t, rfl⟩ := ry
  obtain ⟨its, r, ⟨⟨cls, dd, data, sl⟩, ho, hc, n, hd⟩, hs⟩ := I.tuple hT
  simp only at hc hd
  subst hc hd
  refine wpAny_binaryOp_repeat_ref (T := "tuple") (U := "int") (by decide) ⟨_, ho, rfl⟩ (fun s' => typeIs_int s' 1 t) noFill_tuple_mul F.fills_int_mul F.slot_int_rmul repeat_tuple F.slot_int_index.lookup
    (call_meets F.slot_int_rmul (typeIs_int s 1 t) F.entry_int_rmul (F.args_int_rmul_2 _ _) (int_rmul_tuple 1 t l its.toArray n dd sl)
      ⟨ho, rfl, ⟨_, ho, rfl⟩, call_meets F.slot_tuple_mul ⟨_, ho, rfl⟩ F.entry_tuple_mul (F.args_tuple_mul_2 _ _) (tup_mul1 l its.toArray n dd sl t) ⟨ho, ?_⟩⟩)
  exact ⟨.ref l, H, I.kept (t' := s.toks) (fun _ _ z => z), rfl, q⟩
/-! ### a tuple with items times nought -/
theorem tup_mul0 (l : Addr) (items : Array Value) (n : Nat) (dd : Option Addr) (sl : Array (Option Value)) (u : Tok) (hi : items.isEmpty = false) :
    Meets (Builtin.«tuple.__mul__» ⟨[.ref l, .int 0 u], []⟩) (fun _ R s => s.heap.get? l = some { cls := .type "tuple", dict := dd, data := .seq items n, slots := sl } ∧
      R (.ok (.ret (Value.ref s.heap.objs.size))) { s with heap := s.heap.push { cls := Value.type "tuple", data := Data.seq #[] }, toks := s.toks }) :=
  .of_wp fun prog w A R s h => by
    obtain ⟨hp, g, d, tk, os⟩ := s
    obtain ⟨hl, h⟩ := h
    have f1 := AutoSeq1.idx_int
    have c1 : (items.isEmpty || (0 : Int) == 1) = false := by rw [hi]; rfl
    wp_walk using wpAny_loadPart' hl
    repeat (first
      | (refine wpAny_ite_false (decide_eq_false (by rw [c1]; exact Bool.false_ne_true)) ?_; wp_walk using wpAny_loadPart' hl))
    exact ⟨_, rfl, h⟩
def rRep0 (K : PySem.W.Frag) : R2 := fun x y H Q => ∃ l xs, x = .ref l ∧ y = .int 0 ∧ SqT K H l xs ∧ xs ≠ [] ∧ ∀ p, H p = none → Q (.ref p) (upd H p (.tup []))
theorem op_rep0 {X : Cx} : OpR X (binaryOp .Mult) (rRep0 X.K) := by
  intro pins s σ H x y v u Q I rx ry h
  obtain ⟨l, xs, rfl, rfl, hT, hne, q⟩ := h
  cases rx
  obtain ⟨t, rfl⟩ := ry
  obtain ⟨its, r, ⟨⟨cls, dd, data, sl⟩, ho, hc, n, hd⟩, hs⟩ := I.tuple hT
  simp only at hc hd
  subst hc hd
  have hle : its.length = xs.length := r.length.symm
  have hi : its.toArray.isEmpty = false := by
    cases its with
    | nil => exact absurd (List.eq_nil_of_length_eq_zero hle.symm) hne
    | cons a b => rfl
  refine wpAny_binaryOp_repeat_ref (T := "tuple") (U := "int") (by decide) ⟨_, ho, rfl⟩ (fun s' => typeIs_int s' 0 t) noFill_tuple_mul F.fills_int_mul F.slot_int_rmul repeat_tuple F.slot_int_index.lookup
    (call_meets F.slot_int_rmul (typeIs_int s 0 t) F.entry_int_rmul (F.args_int_rmul_2 _ _) (int_rmul_tuple 0 t l its.toArray n dd sl)
      ⟨ho, rfl, ⟨_, ho, rfl⟩, call_meets F.slot_tuple_mul ⟨_, ho, rfl⟩ F.entry_tuple_mul (F.args_tuple_mul_2 _ _) (tup_mul0 l its.toArray n dd sl t hi) ⟨ho, ?_⟩⟩)
  refine ⟨.ref s.heap.objs.size, _, I.laid (t' := s.toks) (o := .tup []) (fun b ob q => Heap.get?_push_of_some _ q) (Nat.le_refl _) ?_, rfl, q _ (I.hok.fresh (Nat.le_refl _))⟩
  exact ⟨Nat.zero_le _, _, .nil, IsTup.new _ _⟩
end Ew

set_option Elab.async false
set_option linter.all false
set_option maxRecDepth 100000
set_option maxHeartbeats 4000000
namespace Ew
open PySem PySem.Spec PyProof.Rows L2

section
variable {X : Cx} {K : PySem.W.Frag}
theorem nv {P : Addr → Prop} {H : Hp} {v : V} {d : D} (h : Rep K P H v d) : NewR K P H H v (.dt d) := .val h
theorem r_int {P : Addr → Prop} {H : Hp} {v : V} {i : Int} (h : RepV K P H v (.int i)) : v = .int i := by cases (show Rep K P H v (.int i) from h); rfl
theorem r_str {P : Addr → Prop} {H : Hp} {v : V} {i : Str} (h : RepV K P H v (.str i)) : v = .str i := by cases (show Rep K P H v (.str i) from h); rfl
theorem r_bl {P : Addr → Prop} {H : Hp} {v : V} {i : Bool} (h : RepV K P H v (.bl i)) : v = .bl i := by cases (show Rep K P H v (.bl i) from h); rfl
theorem r_non {P : Addr → Prop} {H : Hp} {v : V} (h : RepV K P H v .non) : v = .non := by cases (show Rep K P H v .non from h); rfl
theorem r_ty {P : Addr → Prop} {H : Hp} {v : V} {n : String} (h : RepV K P H v (.ty n)) : v = .ty n := by cases (show Rep K P H v (.ty n) from h); rfl
theorem r_tup {P : Addr → Prop} {H : Hp} {v : V} {ds : List D} (h : RepV K P H v (.tup ds)) : ∃ a xs, v = .ref a ∧ SqT K H a xs ∧ RepL K P H xs ds := by
  cases (show Rep K P H v (.tup ds) from h) with
  | tup c r => exact ⟨_, _, rfl, c, r⟩
theorem r_scr {P : Addr → Prop} {H : Hp} {v : V} {ns : List Int} (h : RepV K P H v (.scr ns)) : ∃ a, v = .ref a ∧ SqL K H a (ns.map V.int) := by
  cases (show Rep K P H v (.scr ns) from h) with
  | scr c => exact ⟨_, rfl, c.l⟩

/-! ### + - * // % ** -/
theorem OpR.mono {f : Value → Value → Sem Value} {r r' : R2} (h : OpR X f r) (i : ∀ x y H Q, r' x y H Q → r x y H Q) : OpR X f r' := fun pins s σ H x y v u Q I rx ry q => h pins s σ H x y v u Q I rx ry (i x y H Q q)
theorem blt_ok {a b : Nat} (h : Nat.blt a b = true) : a < b := by simpa using h
theorem blt_of {a b : Nat} (h : a < b) : Nat.blt a b = true := by simpa using h
theorem blt_no {a b : Nat} (h : ¬ a < b) : Nat.blt a b = false := by
  cases e : Nat.blt a b with
  | false => rfl
  | true => exact absurd (blt_ok e) h
theorem ble_of {a b : Nat} (h : a ≤ b) : Nat.ble a b = true := Nat.ble_eq_true_of_le h
theorem ble_ok {a b : Nat} (h : Nat.ble a b = true) : a ≤ b := Nat.le_of_ble_eq_true h
def gAdd : D → D → Option RD
  | .int i, .int j => some (.dt (.int (i + j)))
  | .str i, .str j => (match Nat.ble (i.length + j.length) line with
    | true => some (.dt (.str (i ++ j)))
    | false => none)
  | .lst ds, .lst es => (match Nat.ble (ds.length + es.length) line with
    | true => some (.ob (.lst (ds ++ es)))
    | false => none)
  | .tup ds, .tup es => (match Nat.ble (ds.length + es.length) line with
    | true => some (.dt (.tup (ds ++ es)))
    | false => none)
  | _, _ => none
def rAddAll (K : PySem.W.Frag) : R2 := fun x y H Q => rCatA K x y H Q ∨ rI0 (fun i j => .int (i + j)) x y H Q ∨ (∃ i j, x = .str i ∧ y = .str j ∧ i.length + j.length ≤ sizeLine ∧ Q (.str (i ++ j)) H) ∨ rCat x y H Q
theorem op_addAll : OpR X (binaryOp .Add) (rAddAll X.K) := L2.OpR.or op_catA <| L2.OpR.or op_add (L2.OpR.or op_add_str op_cat)
theorem RepL.append {P : Addr → Prop} {H : Hp} : ∀ {vs ws : List V} {ds es : List D}, RepL K P H vs ds → RepL K P H ws es → RepL K P H (vs ++ ws) (ds ++ es)
  | _, _, _, _, .nil, h => h
  | _, _, _, _, .cons a t, h => .cons a (RepL.append t h)
/-- a new object comes -/
theorem new_lst {P : Addr → Prop} {H : Hp} {p : Addr} {xs : List V} {ds : List D} (hp : H p = none) (r : RepL K P H xs ds) : NewR K P H (upd H p (.lst xs)) (.ref p) (.ob (.lst ds)) :=
  ⟨.inr ⟨p, _, hp, rfl⟩, p, rfl, hp, rfl, xs, upd_same, r.mono (step_upd (m := ⟨[], P⟩) hp).stay⟩
theorem new_tup {P : Addr → Prop} {H : Hp} {p : Addr} {xs : List V} {ds : List D} (hp : H p = none) (r : RepL K P H xs ds) : NewR K P H (upd H p (.tup xs)) (.ref p) (.dt (.tup ds)) :=
  ⟨.inr ⟨p, _, hp, rfl⟩, .tup (.of upd_same) (r.mono (step_upd (m := ⟨[], P⟩) hp).stay)⟩
theorem ov_add : OpV K (rAddAll K) gAdd := by
  intro P H x y d e z Q hx hy g q
  cases d <;> cases e <;> try (cases g; done)
  · cases r_int hx; cases r_int hy; cases g
    exact .inr <| .inl ⟨_, _, rfl, rfl, q _ _ (nv (.int _))⟩
  · cases r_str hx; cases r_str hy
    rename_i i j
    dsimp only [gAdd] at g
    split at g
    · rename_i c
      cases g
      exact .inr <| .inr (.inl ⟨_, _, rfl, rfl, line_le (ble_ok c), q _ _ (nv (.str _))⟩)
    · cases g
  · have hy' : Rep K P H y (.tup _) := hy
    have hx' : Rep K P H x (.tup _) := hx
    obtain ⟨a, xs, rfl, h1, r1⟩ := r_tup hx
    obtain ⟨b, ys, rfl, h2, r2⟩ := r_tup hy
    rename_i ds es
    dsimp only [gAdd] at g
    split at g
    · rename_i c
      cases g
      refine .inl ⟨a, b, xs, ys, rfl, rfl, h1, h2, ?_, fun e => ?_, fun e e2 => ?_, fun _ _ p hp => q _ _ (new_tup hp (r1.append r2))⟩
      · rw [r1.length, r2.length]
        exact line_le (ble_ok c)
      · subst e
        cases r1
        exact q _ _ (nv hy')
      · subst e2
        cases r2
        rw [List.append_nil] at q
        exact q _ _ (nv hx')
    · cases g
  · obtain ⟨a, xs, rfl, h1, r1⟩ := hx
    obtain ⟨b, ys, rfl, h2, r2⟩ := hy
    dsimp only [gAdd] at g
    split at g
    · rename_i c
      cases g
      refine .inr <| .inr (.inr ⟨a, b, xs, ys, rfl, rfl, h1, h2, ?_, fun p hp => q _ _ (new_lst hp (r1.append r2))⟩)
      rw [r1.length, r2.length]
      exact line_le (ble_ok c)
    · cases g
def gSub : D → D → Option RD
  | .int i, .int j => some (.dt (.int (i - j)))
  | _, _ => none
theorem ov_sub : OpV K (rI0 fun i j => .int (i - j)) gSub := by
  intro P H x y d e z Q hx hy g q
  cases d <;> cases e <;> try (cases g; done)
  cases r_int hx; cases r_int hy; cases g
  exact ⟨_, _, rfl, rfl, q _ _ (nv (.int _))⟩
/-- a product that the machine has room for -/
def mulOk (i j : Int) : Bool := Nat.blt i.natAbs (2 ^ 64) || Nat.blt j.natAbs (2 ^ 64) || Nat.ble (Builtin.Int.intBits i + Builtin.Int.intBits j) 134217728
theorem mulOk_ok {i j : Int} (h : mulOk i j = true) : CMul i j ∨ CMulX i j := by
  unfold mulOk at h
  rw [Bool.or_eq_true, Bool.or_eq_true] at h
  have hp : (((2 ^ 64 : Nat)) : Int) = (2 : Int) ^ 64 := by decide
  rcases h with (h | h) | h
  · have h : i.natAbs < 2 ^ 64 := blt_ok h
    exact .inl (.inl (by omega))
  · have h : j.natAbs < 2 ^ 64 := blt_ok h
    exact .inl (.inr (by omega))
  · have h := ble_ok h
    exact .inr (by unfold CMulX; omega)
theorem mulOk_small {i j : Int} (h : j.natAbs < 2 ^ 64) : mulOk i j = true := by
  unfold mulOk
  have : Nat.blt j.natAbs (2 ^ 64) = true := blt_of h
  rw [this, Bool.or_true]; rfl
theorem mulOk_small' {i j : Int} (h : i.natAbs < 2 ^ 64) : mulOk i j = true := by
  unfold mulOk
  have : Nat.blt i.natAbs (2 ^ 64) = true := blt_of h
  rw [this]; rfl
def fitsI (k : Int) : Bool := decide (-9223372036854775808 ≤ k) && decide (k < 9223372036854775808)
def gMul : D → D → Option RD
  | .int i, .int j => (match mulOk i j with
    | true => some (.dt (.int (i * j)))
    | false => none)
  | .str s, .int n => (match decide (n < 9223372036854775808) && decide (-9223372036854775808 ≤ n) && Nat.ble (s.length * n.toNat) line with
    | true => some (.dt (.str (Txt.mul s n)))
    | false => none)
  | .lst ds, .int n => (match decide (n < 9223372036854775808) && decide (-9223372036854775808 ≤ n) && Nat.ble (ds.length * n.toNat) line with
    | true => some (.ob (.lst (List.replicate n.toNat ds).flatten))
    | false => none)
  | .tup ds, .int n => (match !ds.isEmpty && (decide (0 ≤ n) && (decide (n ≤ 1000) && Nat.ble ds.length 1000)) with
    | true => some (.dt (.tup (List.replicate n.toNat ds).flatten))
    | false => none)
  | _, _ => none
def rMulS : R2 := fun x y H Q => ∃ s n, x = .str s ∧ y = .int n ∧ MulOk s n ∧ Q (.str (Txt.mul s n)) H
theorem op_mulS : OpR X (binaryOp .Mult) rMulS := by
  intro pins s σ H x y v u Q I rx ry h
  obtain ⟨z, n, rfl, rfl, c, q⟩ := h
  obtain ⟨t, rfl⟩ := rx
  obtain ⟨t', rfl⟩ := ry
  exact SB.mul c fun t' k => ⟨.str _, H, I.tok _, ⟨_, rfl⟩, q⟩
def rMulAll (K : PySem.W.Frag) : R2 := fun x y H Q => (rI CMul (fun i j => .int (i * j)) x y H Q ∨ rI CMulX (fun i j => .int (i * j)) x y H Q) ∨ rMulS x y H Q ∨ rRep x y H Q ∨ rRepT K x y H Q ∨ rRep1 K x y H Q ∨ rRep0 K x y H Q
theorem op_mulAll : OpR X (binaryOp .Mult) (rMulAll X.K) := L2.OpR.or (L2.OpR.or op_mul op_mulX) (L2.OpR.or op_mulS (L2.OpR.or op_rep (L2.OpR.or op_repT (L2.OpR.or op_rep1 op_rep0))))
theorem tooLong_ok {n : Nat} (h : n ≤ line) : Builtin.Str.tooLong n = false := by
  unfold Builtin.Str.tooLong
  have := line_le h
  exact decide_eq_false (by omega)
theorem mulS_ok {s : Str} {n : Int} (h1 : n < 9223372036854775808) (h2 : -9223372036854775808 ≤ n) (h3 : s.length * n.toNat ≤ line) : MulOk s n := by
  refine ⟨by rw [Bool.or_eq_false_iff]; exact ⟨decide_eq_false (by omega), decide_eq_false (by omega)⟩, fun a b => ?_, fun a b => tooLong_ok h3⟩
  intro c
  have e : (s.length : Int) * n ≤ 16777216 := by
    have : ((s.length * n.toNat : Nat) : Int) ≤ 16777216 := Int.ofNat_le.mpr (show s.length * n.toNat ≤ 16777216 from h3)
    rw [Int.natCast_mul, Int.toNat_of_nonneg (by omega)] at this
    exact this
  have d : (2 ^ 63 - 1) / n * n ≤ (2 ^ 63 - 1 : Int) := Int.ediv_mul_le _ (by omega)
  have f : ((2 ^ 63 - 1) / n + 1) * n ≤ (s.length : Int) * n := Int.mul_le_mul_of_nonneg_right (by omega) (by omega)
  have g : (2 ^ 63 - 1 : Int) < ((2 ^ 63 - 1) / n + 1) * n := Int.lt_ediv_add_one_mul_self _ (by omega)
  have : (2 ^ 63 - 1 : Int) = 9223372036854775807 := by decide
  omega
theorem RepL.rep {P : Addr → Prop} {H : Hp} {vs : List V} {ds : List D} (h : RepL K P H vs ds) : ∀ n : Nat, RepL K P H (List.replicate n vs).flatten (List.replicate n ds).flatten
  | 0 => .nil
  | n + 1 => by
    rw [List.replicate_succ, List.replicate_succ, List.flatten_cons, List.flatten_cons]
    exact h.append (RepL.rep h n)
theorem ov_mul : OpV K (rMulAll K) gMul := by
  intro P H x y d e z Q hx hy g q
  cases d <;> cases e <;> try (cases g; done)
  · cases r_int hx; cases r_int hy
    dsimp only [gMul] at g
    split at g
    · rename_i c
      cases g
      rcases mulOk_ok c with c | c
      · exact .inl (.inl ⟨_, _, rfl, rfl, c, q _ _ (nv (.int _))⟩)
      · exact .inl (.inr ⟨_, _, rfl, rfl, c, q _ _ (nv (.int _))⟩)
    · cases g
  · cases r_str hx; cases r_int hy
    dsimp only [gMul] at g
    split at g
    · rename_i c
      cases g
      rw [Bool.and_eq_true, Bool.and_eq_true] at c
      exact .inr (.inl ⟨_, _, rfl, rfl, mulS_ok (of_decide_eq_true c.1.1) (of_decide_eq_true c.1.2) (ble_ok c.2), q _ _ (nv (.str _))⟩)
    · cases g
  · rename_i ds n
    cases r_int hy
    dsimp only [gMul] at g
    split at g
    · rename_i c
      cases g
      rw [Bool.and_eq_true, Bool.and_eq_true, Bool.and_eq_true] at c
      have c1 := of_decide_eq_true c.2.1
      have c2 := of_decide_eq_true c.2.2.1
      have c3 := ble_ok c.2.2.2
      cases (show Rep K P H x _ from hx) with
      | tup h1 r1 =>
        rename_i a xs
        have hl := r1.length
        have hne : xs ≠ [] := fun e => by
          rw [e] at hl
          have : ds = [] := List.eq_nil_of_length_eq_zero hl.symm
          rw [this] at c
          exact absurd c.1 (by decide)
        by_cases h1n : n = 1
        · subst h1n
          have e1 : (List.replicate (1 : Int).toNat ds).flatten = ds := by
            show (List.replicate 1 ds).flatten = ds
            rw [List.replicate_succ, List.replicate_zero, List.flatten_cons, List.flatten_nil, List.append_nil]
          rw [e1] at q
          exact .inr (.inr (.inr (.inr (.inl ⟨a, xs, rfl, rfl, h1, q _ _ (nv (.tup h1 r1))⟩))))
        · by_cases h0n : n = 0
          · subst h0n
            exact .inr (.inr (.inr (.inr (.inr ⟨a, xs, rfl, rfl, h1, hne, fun p hp => q _ _ (new_tup hp .nil)⟩))))
          exact .inr (.inr (.inr (.inl ⟨a, n, xs, rfl, rfl, h1, hne, by omega, c2, by omega, fun p hp => q _ _ (new_tup hp (r1.rep _))⟩)))
    · cases g
  · obtain ⟨a, xs, rfl, h1, r1⟩ := hx
    cases r_int hy
    dsimp only [gMul] at g
    split at g
    · rename_i c
      cases g
      rw [Bool.and_eq_true, Bool.and_eq_true] at c
      have c1 := of_decide_eq_true c.1.1
      have c2 := of_decide_eq_true c.1.2
      refine .inr (.inr (.inl ⟨a, _, xs, rfl, rfl, h1, by omega, by omega, ?_, fun p hp => q _ _ (new_lst hp (r1.rep _))⟩))
      rw [r1.length]
      exact line_le (ble_ok c.2)
    · cases g
def divOk (j : Int) : Bool := decide (0 < j) && Nat.blt j.natAbs.log2 9000
def gDiv : D → D → Option RD
  | .int i, .int j => (match divOk j with
    | true => some (.dt (.int (i / j)))
    | false => none)
  | _, _ => none
theorem ov_div : OpV K (rI CDivW fun i j => .int (i / j)) gDiv := by
  intro P H x y d e z Q hx hy g q
  cases d <;> cases e <;> try (cases g; done)
  cases r_int hx; cases r_int hy
  dsimp only [gDiv] at g
  split at g
  · rename_i c
    cases g
    unfold divOk at c
    rw [Bool.and_eq_true] at c
    exact ⟨_, _, rfl, rfl, ⟨of_decide_eq_true c.1, blt_ok c.2⟩, q _ _ (nv (.int _))⟩
  · cases g
def gMod : D → D → Option RD
  | .int i, .int j => (match decide (0 < j) with
    | true => some (.dt (.int (i % j)))
    | false => none)
  | _, _ => none
theorem ov_mod : OpV K (rI (fun _ j => 0 < j) fun i j => .int (i % j)) gMod := by
  intro P H x y d e z Q hx hy g q
  cases d <;> cases e <;> try (cases g; done)
  cases r_int hx; cases r_int hy
  dsimp only [gMod] at g
  split at g
  · rename_i c
    cases g
    exact ⟨_, _, rfl, rfl, of_decide_eq_true c, q _ _ (nv (.int _))⟩
  · cases g
def gPow : D → D → Option RD
  | .int i, .int j => (match decide (0 ≤ j) && decide (j ≤ 1000000) && Nat.blt i.natAbs (2 ^ 64) with
    | true => some (.dt (.int (i ^ j.toNat)))
    | false => none)
  | _, _ => none
theorem ov_pow : OpV K (rI CPow fun i j => .int (i ^ j.toNat)) gPow := by
  intro P H x y d e z Q hx hy g q
  cases d <;> cases e <;> try (cases g; done)
  cases r_int hx; cases r_int hy
  dsimp only [gPow] at g
  split at g
  · rename_i c
    cases g
    rw [Bool.and_eq_true, Bool.and_eq_true] at c
    exact ⟨_, _, rfl, rfl, ⟨of_decide_eq_true c.1.1, of_decide_eq_true c.1.2, blt_ok c.2⟩, q _ _ (nv (.int _))⟩
  · cases g
end
end Ew

set_option Elab.async false
set_option linter.all false
set_option maxRecDepth 100000
set_option maxHeartbeats 4000000
namespace Ew
open PySem PySem.Spec PyProof.Rows L2

section
variable {X : Cx} {W : WX} {K : PySem.W.Frag}
/-! ### what is walked -/
def chars (s : Str) : List D := s.cps.toList.map fun c => .str ⟨#[c]⟩
def itemsD : D → Option (List D)
  | .lst ds => some ds
  | .tup ds => some ds
  | .str s => some (chars s)
  | _ => none
def iSeq (f : AE → SS → R) : AE → SS → RI := fun ρ S => (f ρ S).toI fun a S1 => match frz a S1 with
  | some (d, S2) => (match itemsD d with
    | some ds => .ok ds S2
    | none => .bad)
  | none => .bad
theorem RepL.get {P : Addr → Prop} {H : Hp} : ∀ {vs : List V} {ds : List D} {i : Nat} {v : V}, RepL K P H vs ds → vs[i]? = some v → ∃ d, ds[i]? = some d ∧ Rep K P H v d
  | _, _, _, _, .nil, h => by simp at h
  | _, _, 0, _, .cons a t, h => by
    simp at h; subst h
    exact ⟨_, rfl, a⟩
  | _, _, i + 1, v, .cons a t, h => by
    obtain ⟨d, h1, h2⟩ := RepL.get (i := i) t (by simpa using h)
    exact ⟨d, by simpa using h1, h2⟩
theorem walk_lst {m0 : Mem} {H0 : Hp} {a : Addr} {xs : List V} {ds : List D} (c : m0.P a) (h : H0 a = some (.lst xs)) (r : RepL K m0.P H0 xs ds) : WalkD K (Itl K a) ds m0 H0 := fun m H s => by
  have h1 : H a = some (.lst xs) := s.keep a _ h (.inr (.inl c))
  have sq : SqL K H a xs := .of h1
  have r1 := r.mono s.stay
  refine ⟨fun i hi => ⟨xs, xs[i]'(by rw [r.length]; exact hi), sq, by simp [r.length, hi]⟩, ⟨xs, sq, Nat.le_of_eq r.length⟩, fun i x H1 hi ⟨e, y⟩ => ?_⟩
  subst e
  obtain ⟨d, h2, h3⟩ := r1.get (y xs sq)
  exact ⟨.inl rfl, d, h2, h3⟩
theorem walk_tp {m0 : Mem} {H0 : Hp} {a : Addr} {xs : List V} {ds : List D} (h : SqT K H0 a xs) (r : RepL K m0.P H0 xs ds) : WalkD K (Itt K a) ds m0 H0 := fun m H s => by
  have sq : SqT K H a xs := (s.stay (K := K)).sqt h
  have r1 := r.mono s.stay
  refine ⟨fun i hi => ⟨xs, xs[i]'(by rw [r.length]; exact hi), sq, by simp [r.length, hi]⟩, ⟨xs, sq, Nat.le_of_eq r.length⟩, fun i x H1 hi ⟨e, y⟩ => ?_⟩
  subst e
  obtain ⟨d, h2, h3⟩ := r1.get (y xs sq)
  exact ⟨.inl rfl, d, h2, h3⟩
theorem walk_chars {m0 : Mem} {H0 : Hp} {z : Str} : WalkD K (Its z) (chars z) m0 H0 := fun m H s => by
  have hl : (chars z).length = z.cps.size := by simp [chars]
  refine ⟨fun i hi => by show i < z.cps.size; omega, by show z.cps.size ≤ _; omega, fun i x H1 hi ⟨e, c, hc, ex⟩ => ?_⟩
  subst e ex
  refine ⟨.inl rfl, .str ⟨#[c]⟩, ?_, .str _⟩
  unfold chars
  rw [List.getElem?_map, Array.getElem?_toList, hc]
  rfl
theorem ji_seq {tg e : Expr} {f : AE → SS → R} (je : JE X W e f) : JI X W tg e (iSeq f) := fun ρ S => by
  refine PI.ex fun σ H Q ⟨m, w, en, q⟩ => ?_
  unfold iSeq at q
  cases hf : f ρ S with
  | bad => rw [hf] at q; exact q.elim
  | exc x S1 =>
    refine ⟨_, pi_list (je ρ S), m, w, en, ?_⟩
    rw [hf] at q ⊢; exact q
  | ok a S1 =>
    rw [hf] at q
    dsimp only [R.toI] at q
    split at q
    · rename_i d S2 ef
      cases d with
      | lst ds =>
        refine ⟨_, pi_list (je ρ S), m, w, en, ?_⟩
        rw [hf]
        intro v m1 H1 s1 w1 a1 f1
        obtain ⟨P', g, s2, w2, r⟩ := frz_ok s1 w1 a1.q f1 ef
        cases r with
        | lst c h r => exact ⟨_, rfl, ⟨_, .of h⟩, q _ _ _ s2 w2 (walk_lst (m0 := ⟨m1.L, P'⟩) c h r)⟩
      | tup ds =>
        refine ⟨_, pi_tup (je ρ S), m, w, en, ?_⟩
        rw [hf]
        intro v m1 H1 s1 w1 a1 f1
        obtain ⟨P', g, s2, w2, r⟩ := frz_ok s1 w1 a1.q f1 ef
        cases r with
        | tup h r => exact ⟨_, rfl, ⟨_, h⟩, q _ _ _ s2 w2 (walk_tp (m0 := ⟨m1.L, P'⟩) h r)⟩
      | str z =>
        refine ⟨_, pi_str (je ρ S), m, w, en, ?_⟩
        rw [hf]
        intro v m1 H1 s1 w1 a1 f1
        obtain ⟨P', g, s2, w2, r⟩ := frz_ok s1 w1 a1.q f1 ef
        cases r with
        | str => exact ⟨_, rfl, q _ _ _ s2 w2 walk_chars⟩
      | _ => exact q.elim
    · exact q.elim
def rangeD (lo c : Int) (n : Nat) : List D := (List.range n).map fun (i : Nat) => .int (lo + (i : Int) * c)
def rangeB (i : Int) : Bool := decide (-4611686018427387904 ≤ i) && decide (i < 4611686018427387904)
theorem rangeB_ok {i : Int} (h : rangeB i = true) : -(2 ^ 62) ≤ i ∧ i < 2 ^ 62 := by
  unfold rangeB at h
  rw [Bool.and_eq_true] at h
  have h1 := of_decide_eq_true h.1
  have h2 := of_decide_eq_true h.2
  omega
def iRg : List AV → SS → RI := fun as S => match as with
  | [.dat (.int j)] => (match rangeB j with
    | true => .ok (rangeD 0 1 j.toNat) S
    | false => .bad)
  | [.dat (.int i), .dat (.int j)] => (match rangeB i && rangeB j with
    | true => .ok (rangeD i 1 (j - i).toNat) S
    | false => .bad)
  | [.dat (.int i), .dat (.int j), .dat (.int c)] => (match rangeB i && rangeB j && (decide (c = -1)) with
    | true => .ok (rangeD i c (i - j).toNat) S
    | false => (match decide (c ≠ 0) && Nat.blt c.natAbs 1073741824 && Builtin.Range.small i j c && decide (0 ≤ Builtin.Range.rangeSize i j c) with
      | true => .ok (rangeD i c (Builtin.Range.rangeSize i j c).toNat) S
      | false => .bad))
  | _ => .bad
def iRange (f : AE → SS → RA) : AE → SS → RI := fun ρ S => (f ρ S).toI iRg
theorem rangeD_get {lo c : Int} {n i : Nat} (h : i < n) : (rangeD lo c n)[i]? = some (.int (lo + (i : Int) * c)) := by
  unfold rangeD
  rw [List.getElem?_map, List.getElem?_range h]; rfl
theorem rangeD_len {lo c : Int} {n : Nat} : (rangeD lo c n).length = n := by simp [rangeD]
theorem walk_rg {m0 : Mem} {H0 : Hp} {lo : Int} {n : Nat} : WalkD K (Itr lo n) (rangeD lo 1 n) m0 H0 := fun m H s => by
  rw [rangeD_len]
  refine ⟨fun i hi => hi, Nat.le_refl _, fun i x H1 hi ⟨e, ex⟩ => ?_⟩
  subst e ex
  exact ⟨.inl rfl, _, rangeD_get hi, by rw [Int.mul_one]; exact .int _⟩
theorem walk_rgc {m0 : Mem} {H0 : Hp} {lo c : Int} {n : Nat} : WalkD K (Itc lo c n) (rangeD lo c n) m0 H0 := fun m H s => by
  rw [rangeD_len]
  refine ⟨fun i hi => hi, Nat.le_refl _, fun i x H1 hi ⟨e, ex⟩ => ?_⟩
  subst e ex
  exact ⟨.inl rfl, _, rangeD_get hi, .int _⟩
theorem aLen0 {ρ : AE} {S S1 : SS} {as : List AV} (h : aNil ρ S = .ok as S1) : as.length = 0 := by cases h; rfl
theorem aLenS {f : AE → SS → R} {g : AE → SS → RA} {n : Nat} (hg : ∀ ρ S as S1, g ρ S = .ok as S1 → as.length = n) : ∀ ρ S as S1, aCons f g ρ S = .ok as S1 → as.length = n + 1 := fun ρ S as S1 h => by
  unfold aCons at h
  cases hf : f ρ S with
  | bad => rw [hf] at h; cases h
  | exc x S2 => rw [hf] at h; cases h
  | ok a S2 =>
    rw [hf] at h
    dsimp only [R.toA] at h
    cases hh : g ρ S2 with
    | bad => rw [hh] at h; cases h
    | exc x S3 => rw [hh] at h; cases h
    | ok bs S3 =>
      rw [hh] at h
      cases h
      exact congrArg (· + 1) (hg _ _ _ _ hh)
theorem aLen1 {f : AE → SS → R} : ∀ ρ S as S1, aCons f aNil ρ S = .ok as S1 → as.length = 1 := aLenS fun _ _ _ _ h => aLen0 h
theorem aLen2 {f f2 : AE → SS → R} : ∀ ρ S as S1, aCons f (aCons f2 aNil) ρ S = .ok as S1 → as.length = 2 := aLenS aLen1
theorem aLen3 {f f2 f3 : AE → SS → R} : ∀ ρ S as S1, aCons f (aCons f2 (aCons f3 aNil)) ρ S = .ok as S1 → as.length = 3 := aLenS aLen2
theorem ji_range1 {tg a : Expr} {p pos : Pos} {f1 : AE → SS → R} (hm : X.mg "range" = none) (ja : JA X W [a] (aCons f1 aNil)) (hg : Gl X "range" := by rfl) (hs : starEach [a] X.env = [(false, eval a X.env)] := by rfl) : JI X W tg (.Call (.Name "range" p) [a] [] pos) (iRange (aCons f1 aNil)) := fun ρ S => by
  refine PI.imp (pi_range1 hg hm (ja ρ S) hs) fun σ H Q ⟨m, w, en, q⟩ => ⟨m, w, en, ?_⟩
  unfold iRange at q
  cases hf : aCons f1 aNil ρ S with
  | bad => rw [hf] at q; exact q.elim
  | exc x S1 => rw [hf] at q; exact q
  | ok as S1 =>
    have hl := aLen1 _ _ _ _ hf
    rw [hf] at q
    intro vs m1 H1 s1 w1 a1 f1
    match as, hl with
    | [a], _ =>
      cases a1 with
      | cons r rr =>
        cases rr
        dsimp only [RA.toI, iRg] at q
        cases a with
        | own n => exact q.elim
        | new o => exact q.elim
        | nst _ => exact q.elim
        | dat d =>
          cases d with
          | int j =>
            cases (show Rep _ _ _ _ (.int j) from r)
            dsimp only at q
            split at q
            · rename_i c
              obtain ⟨c1, c2⟩ := rangeB_ok c
              exact ⟨j, rfl, c1, c2, q _ _ _ s1 w1 walk_rg⟩
            · exact q.elim
          | _ => exact q.elim
theorem ji_range2 {tg a b : Expr} {p pos : Pos} {f1 f2 : AE → SS → R} (hm : X.mg "range" = none) (ja : JA X W [a, b] (aCons f1 (aCons f2 aNil))) (hg : Gl X "range" := by rfl) (hs : starEach [a, b] X.env = [(false, eval a X.env), (false, eval b X.env)] := by rfl) (hs2 : starEach [b] X.env = [(false, eval b X.env)] := by rfl) : JI X W tg (.Call (.Name "range" p) [a, b] [] pos) (iRange (aCons f1 (aCons f2 aNil))) := fun ρ S => by
  refine PI.imp (pi_range2 hg hm (ja ρ S) hs hs2) fun σ H Q ⟨m, w, en, q⟩ => ⟨m, w, en, ?_⟩
  unfold iRange at q
  cases hf : aCons f1 (aCons f2 aNil) ρ S with
  | bad => rw [hf] at q; exact q.elim
  | exc x S1 => rw [hf] at q; exact q
  | ok as S1 =>
    have hl := aLen2 _ _ _ _ hf
    rw [hf] at q
    intro vs m1 H1 s1 w1 a1 f1
    match as, hl with
    | [a, b], _ =>
      cases a1 with
      | cons r rr =>
      cases rr with
      | cons r2 rr =>
        cases rr
        dsimp only [RA.toI, iRg] at q
        split at q
        · rename_i h; cases h
        · rename_i i j h
          cases h
          cases (show Rep _ _ _ _ (.int i) from r)
          cases (show Rep _ _ _ _ (.int j) from r2)
          split at q
          · rename_i c
            rw [Bool.and_eq_true] at c
            obtain ⟨c1, c2⟩ := rangeB_ok c.1
            obtain ⟨c3, c4⟩ := rangeB_ok c.2
            exact ⟨i, j, rfl, ⟨c1, c2, c3, c4⟩, q _ _ _ s1 w1 walk_rg⟩
          · exact q.elim
        · rename_i h; cases h
        · exact q.elim
theorem ji_range3 {tg a b c : Expr} {p pos : Pos} {f1 f2 f3 : AE → SS → R} (hm : X.mg "range" = none) (ja : JA X W [a, b, c] (aCons f1 (aCons f2 (aCons f3 aNil))))
    (pi : ∀ {ta : TA}, PA X [a, b, c] ta → PI X tg (.Call (.Name "range" p) [a, b, c] [] pos) (iRng3 ta)) : JI X W tg (.Call (.Name "range" p) [a, b, c] [] pos) (iRange (aCons f1 (aCons f2 (aCons f3 aNil)))) := fun ρ S => by
  refine PI.imp (pi (ja ρ S)) fun σ H Q ⟨m, w, en, q⟩ => ⟨m, w, en, ?_⟩
  unfold iRange at q
  cases hf : aCons f1 (aCons f2 (aCons f3 aNil)) ρ S with
  | bad => rw [hf] at q; exact q.elim
  | exc x S1 => rw [hf] at q; exact q
  | ok as S1 =>
    have hl := aLen3 _ _ _ _ hf
    rw [hf] at q
    intro vs m1 H1 s1 w1 a1 f1
    match as, hl with
    | [a, b, c], _ =>
      cases a1 with
      | cons r rr =>
      cases rr with
      | cons r2 rr =>
      cases rr with
      | cons r3 rr =>
        cases rr
        dsimp only [RA.toI, iRg] at q
        split at q
        · rename_i h; cases h
        · rename_i h; cases h
        · rename_i i j k h
          cases h
          cases (show Rep _ _ _ _ (.int i) from r)
          cases (show Rep _ _ _ _ (.int j) from r2)
          cases (show Rep _ _ _ _ (.int k) from r3)
          split at q
          · rename_i c
            rw [Bool.and_eq_true, Bool.and_eq_true] at c
            obtain ⟨c1, c2⟩ := rangeB_ok c.1.1
            obtain ⟨c3, c4⟩ := rangeB_ok c.1.2
            have ek := of_decide_eq_true c.2
            subst ek
            exact ⟨i, j, -1, _, rfl, RgC.neg c1 c2 c3 c4, q _ _ _ s1 w1 walk_rgc⟩
          · split at q
            · rename_i c
              rw [Bool.and_eq_true, Bool.and_eq_true, Bool.and_eq_true] at c
              exact ⟨i, j, k, _, rfl, ⟨of_decide_eq_true c.1.1.1, blt_ok c.1.1.2, c.1.2, (Int.toNat_of_nonneg (of_decide_eq_true c.2)).symm⟩, q _ _ _ s1 w1 walk_rgc⟩
            · exact q.elim
        · exact q.elim
end
end Ew

set_option Elab.async false
set_option linter.all false
set_option maxRecDepth 100000
set_option maxHeartbeats 4000000
namespace Ew
open PySem PySem.Spec PyProof.Rows L2

section
variable {X : Cx} {W : WX} {K : PySem.W.Frag}
theorem p1 {P : Addr → Prop} {H : Hp} {vs : List V} {d : D} (h : Paired (RepV K P H) vs [d]) : ∃ v, vs = [v] ∧ RepV K P H v d := by
  cases h with
  | cons a t => cases t; exact ⟨_, rfl, a⟩
theorem p2 {P : Addr → Prop} {H : Hp} {vs : List V} {d e : D} (h : Paired (RepV K P H) vs [d, e]) : ∃ v w, vs = [v, w] ∧ RepV K P H v d ∧ RepV K P H w e := by
  cases h with
  | cons a t => cases t with
    | cons b t => cases t; exact ⟨_, _, rfl, a, b⟩
theorem p3 {P : Addr → Prop} {H : Hp} {vs : List V} {d e f : D} (h : Paired (RepV K P H) vs [d, e, f]) : ∃ v w u, vs = [v, w, u] ∧ RepV K P H v d ∧ RepV K P H w e ∧ RepV K P H u f := by
  cases h with
  | cons a t => cases t with
    | cons b t => cases t with
      | cons c t => cases t; exact ⟨_, _, _, rfl, a, b, c⟩
def g1 (h : D → Option RD) : List D → Option RD
  | [d] => h d
  | _ => none
def g2 (h : D → D → Option RD) : List D → Option RD
  | [d, e] => h d e
  | _ => none
/-! ### len, abs, int, str, list, tuple, divmod -/
def gLen : D → Option RD
  | .str s => (match Nat.ble s.length line with
    | true => some (.dt (.int s.length))
    | false => none)
  | .tup ds => some (.dt (.int ds.length))
  | .lst ds => some (.dt (.int ds.length))
  | .scr ds => some (.dt (.int ds.length))
  | _ => none
def rLenA (K : PySem.W.Frag) : List V → Hp → VK → Prop := fun xs H Q => ∃ x n, xs = [x] ∧ LenV K x H n ∧ Q (.int n) H
theorem cv_len : CallV K (rLenA K) (g1 gLen) := by
  intro P H vs ds z Q hv g q
  match ds with
  | [] => cases g
  | _ :: _ :: _ => cases g
  | [d] =>
  obtain ⟨v, rfl, h⟩ := p1 hv
  cases d <;> try (cases g; done)
  · cases r_str h
    dsimp only [g1, gLen] at g
    split at g
    · rename_i c
      cases g
      exact ⟨_, _, rfl, ⟨line_le (ble_ok c), rfl⟩, q _ _ (nv (.int _))⟩
    · cases g
  · obtain ⟨a, xs, rfl, h1, r1⟩ := r_tup h
    cases g
    exact ⟨_, _, rfl, .inr ⟨_, h1, rfl⟩, by rw [r1.length]; exact q _ _ (nv (.int _))⟩
  · obtain ⟨a, xs, rfl, h1, r1⟩ := h
    cases g
    exact ⟨_, _, rfl, .inl ⟨_, .of h1, rfl⟩, by rw [r1.length]; exact q _ _ (nv (.int _))⟩
  · obtain ⟨a, rfl, h1⟩ := r_scr h
    cases g
    exact ⟨_, _, rfl, .inl ⟨_, h1, rfl⟩, by rw [List.length_map]; exact q _ _ (nv (.int _))⟩
def gAbs : D → Option RD
  | .int i => some (.dt (.int (if i < 0 then -i else i)))
  | _ => none
theorem cv_abs : CallV K (fun xs H Q => ∃ i, xs = [.int i] ∧ Q (.int (if i < 0 then -i else i)) H) (g1 gAbs) := by
  intro P H vs ds z Q hv g q
  match ds with
  | [] => cases g
  | _ :: _ :: _ => cases g
  | [d] =>
  obtain ⟨v, rfl, h⟩ := p1 hv
  cases d <;> try (cases g; done)
  cases r_int h
  cases g
  exact ⟨_, rfl, q _ _ (nv (.int _))⟩
/-- int(..) -/
def gInt : D → Option RD
  | .int i => some (.dt (.int i))
  | .bl b => some (.dt (.int (if b then 1 else 0)))
  | .str s => (match PySem.intText? s, Nat.ble s.length 640 with
    | some n, true => some (.dt (.int n))
    | _, _ => none)
  | _ => none
def rIntA : List V → Hp → VK → Prop := fun xs H Q => ((∃ i, xs = [.int i] ∧ Q (.int i) H) ∨ ∃ k, xs = [.bl k] ∧ Q (.int (if k then 1 else 0)) H) ∨ (∃ a n, xs = [.str a] ∧ PySem.intText? a = some n ∧ a.length ≤ 640 ∧ Q (.int n) H)
theorem call_intA : CallR X (.type "int") rIntA := CallR.or call_int1 call_int_str
theorem cv_int : CallV K rIntA (g1 gInt) := by
  intro P H vs ds z Q hv g q
  match ds with
  | [] => cases g
  | _ :: _ :: _ => cases g
  | [d] =>
  obtain ⟨v, rfl, h⟩ := p1 hv
  cases d <;> try (cases g; done)
  · cases r_bl h
    cases g
    exact .inl (.inr ⟨_, rfl, q _ _ (nv (.int _))⟩)
  · cases r_int h
    cases g
    exact .inl (.inl ⟨_, rfl, q _ _ (nv (.int _))⟩)
  · cases r_str h
    dsimp only [g1, gInt] at g
    split at g
    · rename_i n e c
      cases g
      exact .inr ⟨_, _, rfl, e, ble_ok c, q _ _ (nv (.int _))⟩
    · cases g
/-- str(int) -/
def gStr : D → Option RD
  | .int i => (match Nat.blt i.natAbs.log2 1920 with
    | true => some (.dt (.str (toString i)))
    | false => none)
  | _ => none
theorem cv_str : CallV K (fun xs H Q => ∃ i, xs = [.int i] ∧ i.natAbs.log2 < 1920 ∧ Q (.str (toString i)) H) (g1 gStr) := by
  intro P H vs ds z Q hv g q
  match ds with
  | [] => cases g
  | _ :: _ :: _ => cases g
  | [d] =>
  obtain ⟨v, rfl, h⟩ := p1 hv
  cases d <;> try (cases g; done)
  cases r_int h
  dsimp only [g1, gStr] at g
  split at g
  · rename_i c
    cases g
    exact ⟨_, rfl, blt_ok c, q _ _ (nv (.str _))⟩
  · cases g
/-- list(..) -/
def gList : D → Option RD
  | .scr ns => some (.ob (.lst (ns.map D.int)))
  | .lst ds => some (.ob (.lst ds))
  | .tup ds => some (.ob (.lst ds))
  | _ => none
def rListA (K : PySem.W.Frag) : List V → Hp → VK → Prop := fun xs H Q => ∃ p ys, xs = [.ref p] ∧ (SqL K H p ys ∨ SqT K H p ys) ∧ ∀ l, H l = none → Q (.ref l) (upd H l (.lst ys))
theorem RepL.ints {P : Addr → Prop} {H : Hp} : ∀ ns : List Int, RepL K P H (ns.map V.int) (ns.map D.int)
  | [] => .nil
  | n :: ns => .cons (.int n) (RepL.ints ns)
theorem cv_list : CallV K (rListA K) (g1 gList) := by
  intro P H vs ds z Q hv g q
  match ds with
  | [] => cases g
  | _ :: _ :: _ => cases g
  | [d] =>
  obtain ⟨v, rfl, h⟩ := p1 hv
  cases d <;> try (cases g; done)
  · obtain ⟨a, xs, rfl, h1, r1⟩ := r_tup h
    cases g
    exact ⟨_, _, rfl, .inr h1, fun l hl => q _ _ (new_lst hl r1)⟩
  · obtain ⟨a, xs, rfl, h1, r1⟩ := h
    cases g
    exact ⟨_, _, rfl, .inl (.of h1), fun l hl => q _ _ (new_lst hl r1)⟩
  · obtain ⟨a, rfl, h1⟩ := r_scr h
    cases g
    exact ⟨_, _, rfl, .inl h1, fun l hl => q _ _ (new_lst hl (.ints _))⟩
/-- tuple(..) -/
def gTuple : D → Option RD
  | .lst ds => some (.dt (.tup ds))
  | .tup ds => some (.dt (.tup ds))
  | _ => none
def rTupleA (K : PySem.W.Frag) : List V → Hp → VK → Prop := fun xs H Q => ∃ p ys, xs = [.ref p] ∧ ((SqL K H p ys ∧ ∀ l, H l = none → Q (.ref l) (upd H l (.tup ys))) ∨ (SqT K H p ys ∧ Q (.ref p) H))
theorem cv_tuple : CallV K (rTupleA K) (g1 gTuple) := by
  intro P H vs ds z Q hv g q
  match ds with
  | [] => cases g
  | _ :: _ :: _ => cases g
  | [d] =>
  obtain ⟨v, rfl, h⟩ := p1 hv
  cases d <;> try (cases g; done)
  · have h' : Rep K P H v (.tup _) := h
    obtain ⟨a, xs, rfl, h1, r1⟩ := r_tup h
    cases g
    exact ⟨_, _, rfl, .inr ⟨h1, q _ _ (nv h')⟩⟩
  · obtain ⟨a, xs, rfl, h1, r1⟩ := h
    cases g
    exact ⟨_, _, rfl, .inl ⟨.of h1, fun l hl => q _ _ (new_tup hl r1)⟩⟩
def gDivmod : D → D → Option RD
  | .int i, .int j => (match decide (0 < j) && !(Builtin.divisionGoesByPylong i j) with
    | true => some (.dt (.tup [.int (i / j), .int (i % j)]))
    | false => none)
  | _, _ => none
theorem cv_divmod : CallV K (fun xs H Q => ∃ i j, xs = [.int i, .int j] ∧ CDivP i j ∧ ∀ p, H p = none → Q (.ref p) (upd H p (.tup [.int (i / j), .int (i % j)]))) (g2 gDivmod) := by
  intro P H vs ds z Q hv g q
  match ds with
  | [] => cases g
  | [_] => cases g
  | _ :: _ :: _ :: _ => cases g
  | [d, e] =>
  obtain ⟨v, w, rfl, h, h2⟩ := p2 hv
  cases d <;> cases e <;> try (cases g; done)
  cases r_int h; cases r_int h2
  dsimp only [g2, gDivmod] at g
  split at g
  · rename_i c
    cases g
    rw [Bool.and_eq_true, Bool.not_eq_true'] at c
    exact ⟨_, _, rfl, ⟨of_decide_eq_true c.1, c.2⟩, fun p hp => q _ _ (new_tup hp (.cons (.int _) (.cons (.int _) .nil)))⟩
  · cases g
/-! ### isinstance -/
def tyN : D → Option String
  | .non => some "NoneType"
  | .bl _ => some "bool"
  | .int _ => some "int"
  | .str _ => some "str"
  | .tup _ => some "tuple"
  | .lst _ => some "list"
  | .dct _ => some "dict"
  | _ => none
def isT (t T : String) : Option Bool :=
  if T = "int" then some (t == "int" || t == "bool")
  else if T = "bool" then some (t == "bool")
  else if T = "str" then some (t == "str")
  else if T = "tuple" then some (t == "tuple")
  else if T = "list" then some (t == "list")
  else if T = "dict" then some (t == "dict")
  else none
theorem isT_ok {d : D} {t T : String} {b : Bool} (h : tyN d = some t) (e : isT t T = some b) : kitB t T = some b := by
  have cases6 : T = "int" ∨ T = "bool" ∨ T = "str" ∨ T = "tuple" ∨ T = "list" ∨ T = "dict" := by
    unfold isT at e
    repeat (split at e; · simp_all)
    cases e
  rcases cases6 with rfl | rfl | rfl | rfl | rfl | rfl <;> cases d <;> cases h <;> (rw [← e]; decide +kernel)
def gIsi : D → D → Option RD
  | d, .ty T => (match tyN d with
    | some t => (match isT t T with
      | some b => some (.dt (.bl b))
      | none => none)
    | none => none)
  | _, _ => none
theorem tyx_of {P : Addr → Prop} {H : Hp} {v : V} {d : D} {t : String} (h : RepV K P H v d) (e : tyN d = some t) : TyX K H v (.type t) := by
  cases d with
  | non => cases e; rw [r_non h]; exact .base .non
  | bl b => cases e; rw [r_bl h]; exact .base (.bl b)
  | int i => cases e; rw [r_int h]; exact .base (.int i)
  | str s => cases e; rw [r_str h]; exact .base (.str s)
  | tup ds =>
    cases e
    obtain ⟨a, xs, rfl, h1, _⟩ := r_tup h
    rcases h1 with (h1 | ⟨o, h1⟩) | ⟨o, its, n, h1, h2, _⟩
    · exact .base (.tup h1)
    · exact .fTuple h1
    · exact .kTuple h1 h2
  | lst ds =>
    cases e
    obtain ⟨a, xs, rfl, h1, _⟩ := h
    exact .base (.lst h1)
  | dct es =>
    cases e
    obtain ⟨a, kvs, rfl, h1, _⟩ := h
    rcases h1 with h1 | ⟨o, h1⟩
    · exact .base (.dK h1)
    · exact .fDict h1
  | _ => cases e
theorem cv_isi : CallV K (rIsi K) (g2 gIsi) := by
  intro P H vs ds z Q hv g q
  match ds with
  | [] => cases g
  | [_] => cases g
  | _ :: _ :: _ :: _ => cases g
  | [d, e] =>
  obtain ⟨v, w, rfl, h, h2⟩ := p2 hv
  cases e <;> try (cases g; done)
  cases r_ty h2
  dsimp only [g2, gIsi] at g
  split at g
  · rename_i t ht
    split at g
    · rename_i b hb
      cases g
      exact ⟨v, _, _, _, b, rfl, .ty _, tyx_of h ht, kit_ty (isT_ok ht hb), q _ _ (nv (.bl b))⟩
    · cases g
  · cases g
/-- a built-in class as a value -/
theorem je_ty {x : Str} {n : String} {pos : Pos} (hm : X.mg x = none) (hv : bootBuiltins x = some (.type n)) (hg : Gl X x := by rfl) (hn : x ≠ "__name__" := by decide) (hd : (x == ("__debug__" : Str)) = false := by decide) : JE X W (.Name x pos) (eC (.ty n)) :=
  je_of (pe_bltn (v := .ty n) hg hm hv rfl hn hd) fun _ _ => .ty n

/-! ### comparisons -/
def gCmp (f : Int → Int → Bool) (h : List Nat → List Nat → Bool) : D → D → Option RD
  | .int i, .int j => some (.dt (.bl (f i j)))
  | .str i, .str j => some (.dt (.bl (h i.cps.toList j.cps.toList)))
  | _, _ => none
def rCmp (f : Int → Int → Bool) (h : List Nat → List Nat → Bool) : R2 := fun x y H Q => rI0 (fun i j => .bl (f i j)) x y H Q ∨ (∃ i j, x = .str i ∧ y = .str j ∧ Q (.bl (h i.cps.toList j.cps.toList)) H)
theorem ov_cmp {f : Int → Int → Bool} {h : List Nat → List Nat → Bool} : OpV K (rCmp f h) (gCmp f h) := by
  intro P H x y d e z Q hx hy g q
  cases d <;> cases e <;> try (cases g; done)
  · cases r_int hx; cases r_int hy; cases g
    exact .inl ⟨_, _, rfl, rfl, q _ _ (nv (.bl _))⟩
  · cases r_str hx; cases r_str hy; cases g
    exact .inr ⟨_, _, rfl, rfl, q _ _ (nv (.bl _))⟩
abbrev gLt := gCmp (fun i j => decide (i < j)) (fun i j => decide (i < j))
abbrev gLe := gCmp (fun i j => decide (i ≤ j)) (fun i j => !decide (j < i))
abbrev gGt := gCmp (fun i j => decide (j < i)) (fun i j => decide (j < i))
abbrev gGe := gCmp (fun i j => decide (j ≤ i)) (fun i j => !decide (i < j))
theorem op_ltA : OpR X (compareOp .Lt) (rCmp (fun i j => decide (i < j)) (fun i j => decide (i < j))) := L2.OpR.or op_lt op_lt_str
theorem op_leA : OpR X (compareOp .LtE) (rCmp (fun i j => decide (i ≤ j)) (fun i j => !decide (j < i))) := L2.OpR.or op_le op_le_str
theorem op_gtA : OpR X (compareOp .Gt) (rCmp (fun i j => decide (j < i)) (fun i j => decide (j < i))) := L2.OpR.or op_gt op_gt_str
theorem op_geA : OpR X (compareOp .GtE) (rCmp (fun i j => decide (j ≤ i)) (fun i j => !decide (i < j))) := L2.OpR.or op_ge op_ge_str
/-! == over data -/
mutual
def py : D → PyData
  | .non => .none
  | .bl b => .bool b
  | .int i => .int i
  | .str s => .str s
  | .tup ds => .tuple (pys ds)
  | .lst ds => .list (pys ds)
  | .dct _ => .dict []
  | .scr _ => .dict []
  | .ty _ => .dict []
  | .opq => .dict []
def pys : List D → List PyData
  | [] => []
  | d :: ds => py d :: pys ds
end
mutual
theorem dp_of {P : Addr → Prop} {H : Hp} : ∀ {v : V} {d : D}, Rep K P H v d → (py d).canLay0 = true → Dp K H v (py d)
  | _, _, .non, _ => .non
  | _, _, .bl b, _ => .bl b
  | _, _, .int b, _ => .int b
  | _, _, .str b, _ => .str b
  | _, _, .tup h r, c => .tup h (dps_of r (by simpa [py, PyData.canLay0] using c))
  | _, _, .lst p h r, c => .lst (.of h) (dps_of r (by simpa [py, PyData.canLay0] using c))
  | _, _, .dct _ _ _, c => by simp [py, PyData.canLay0] at c
  | _, _, .scr _, c => by simp [py, PyData.canLay0] at c
  | _, _, .ty _, c => by simp [py, PyData.canLay0] at c
  | _, _, .opq _, c => by simp [py, PyData.canLay0] at c
theorem dps_of {P : Addr → Prop} {H : Hp} : ∀ {v : List V} {d : List D}, RepL K P H v d → PyData.canLayAll0 (pys d) = true → DpAll K H v (pys d)
  | _, _, .nil, _ => .nil
  | _, _, .cons h t, c => by
    rw [pys, PyData.canLayAll0, Bool.and_eq_true] at c
    exact .cons (dp_of h c.1) (dps_of t c.2)
end
theorem dp_v {P : Addr → Prop} {H : Hp} {v : V} {d : D} (h : RepV K P H v d) (c : (py d).canLay0 = true) : Dp K H v (py d) := by
  cases d with
  | lst ds =>
    obtain ⟨a, xs, rfl, h1, r⟩ := h
    exact .lst (.of h1) (dps_of r (by simpa [py, PyData.canLay0] using c))
  | dct es => simp [py, PyData.canLay0] at c
  | non => exact dp_of (P := P) h c
  | bl _ => exact dp_of (P := P) h c
  | int _ => exact dp_of (P := P) h c
  | str _ => exact dp_of (P := P) h c
  | tup _ => exact dp_of (P := P) h c
  | scr _ => exact dp_of (P := P) h c
  | ty _ => exact dp_of (P := P) h c
  | opq => simp [py, PyData.canLay0] at c
def eqD : D → D → Option Bool
  | .int i, .int j => some (decide (i = j))
  | .str i, .str j => some (decide (i = j))
  | .bl i, .bl j => some (decide (i = j))
  | .non, .non => some true
  | .int _, .str _ => some false
  | .str _, .int _ => some false
  | d, e => match SeqAt.shaped (py d) && SeqAt.shaped (py e) with
    | true => some (PyData.eqv (py d) (py e))
    | false => none
def gEq : D → D → Option RD := fun d e => (eqD d e).map fun b => .dt (.bl b)
def gNe : D → D → Option RD := fun d e => (eqD d e).map fun b => .dt (.bl (!b))
def rEqA (K : PySem.W.Frag) : R2 := fun x y H Q => rEq x y H Q ∨ rEqD K x y H Q
def rNeA (K : PySem.W.Frag) : R2 := fun x y H Q => rNe x y H Q ∨ rNeD K x y H Q
theorem op_eqA (hu : X.A.units + 64 < cLine) : OpR X (compareOp .Eq) (rEqA X.K) := L2.OpR.or op_eq (op_eqD hu)
theorem op_neA (hu : X.A.units + 64 < cLine) : OpR X (compareOp .NotEq) (rNeA X.K) := L2.OpR.or op_ne (op_neD hu)
theorem dec_V {α : Type} [DecidableEq α] (f : α → V) (inj : ∀ a b, f a = f b → a = b) (a b : α) : decide (f a = f b) = decide (a = b) := by
  by_cases h : a = b
  · rw [decide_eq_true h, decide_eq_true (congrArg f h)]
  · rw [decide_eq_false h, decide_eq_false fun z => h (inj a b z)]
theorem eqD_ok {P : Addr → Prop} {H : Hp} {x y : V} {d e : D} {b : Bool} (hx : RepV K P H x d) (hy : RepV K P H y e) (g : eqD d e = some b) :
    (scal x y = true ∧ decide (x = y) = b) ∨ ∃ d' e', Dp K H x d' ∧ Dp K H y e' ∧ SeqAt.shaped d' = true ∧ SeqAt.shaped e' = true ∧ PyData.eqv d' e' = b := by
  have deep : (match SeqAt.shaped (py d) && SeqAt.shaped (py e) with
    | true => some (PyData.eqv (py d) (py e))
    | false => none) = some b → ∃ d' e', Dp K H x d' ∧ Dp K H y e' ∧ SeqAt.shaped d' = true ∧ SeqAt.shaped e' = true ∧ PyData.eqv d' e' = b := fun g => by
    split at g
    · rename_i c
      cases g
      rw [Bool.and_eq_true] at c
      exact ⟨_, _, dp_v hx (SeqAt.canLay_of_shaped c.1), dp_v hy (SeqAt.canLay_of_shaped c.2), c.1, c.2, rfl⟩
    · cases g
  unfold eqD at g
  split at g
  · cases r_int hx; cases r_int hy; cases g
    exact .inl ⟨rfl, dec_V V.int (fun _ _ z => V.int.inj z) _ _⟩
  · cases r_str hx; cases r_str hy; cases g
    exact .inl ⟨rfl, dec_V V.str (fun _ _ z => V.str.inj z) _ _⟩
  · cases r_bl hx; cases r_bl hy; cases g
    exact .inl ⟨rfl, dec_V V.bl (fun _ _ z => V.bl.inj z) _ _⟩
  · cases r_non hx; cases r_non hy; cases g
    exact .inl ⟨rfl, rfl⟩
  · cases r_int hx; cases r_str hy; cases g
    exact .inl ⟨rfl, decide_eq_false (fun z => V.noConfusion z)⟩
  · cases r_str hx; cases r_int hy; cases g
    exact .inl ⟨rfl, decide_eq_false (fun z => V.noConfusion z)⟩
  · exact .inr (deep g)
theorem ov_eq : OpV K (rEqA K) gEq := by
  intro P H x y d e z Q hx hy g q
  unfold gEq at g
  obtain ⟨b, hb, ez⟩ := Option.map_eq_some_iff.mp g
  subst ez
  rcases eqD_ok hx hy hb with ⟨h1, h2⟩ | ⟨d', e', h1, h2, h3, h4, h5⟩
  · exact .inl ⟨h1, by rw [h2]; exact q _ _ (nv (.bl b))⟩
  · exact .inr ⟨d', e', h1, h2, h3, h4, by rw [h5]; exact q _ _ (nv (.bl b))⟩
theorem ov_ne : OpV K (rNeA K) gNe := by
  intro P H x y d e z Q hx hy g q
  unfold gNe at g
  obtain ⟨b, hb, ez⟩ := Option.map_eq_some_iff.mp g
  subst ez
  rcases eqD_ok hx hy hb with ⟨h1, h2⟩ | ⟨d', e', h1, h2, h3, h4, h5⟩
  · exact .inl ⟨h1, by rw [h2]; exact q _ _ (nv (.bl _))⟩
  · exact .inr ⟨d', e', h1, h2, h3, h4, by rw [h5]; exact q _ _ (nv (.bl _))⟩
end
end Ew

set_option Elab.async false
set_option linter.all false
set_option maxRecDepth 100000
set_option maxHeartbeats 4000000
namespace Ew
open PySem PySem.Spec PyProof.Rows L2

section
variable {X : Cx} {W : WX} {K : PySem.W.Frag}
/-! ### -x -/
def un1 (g : D → Option RD) (a : AV) (S : SS) : R := match view a S with
  | some d => (match g d with
    | some z => .ok z.av S
    | none => .bad)
  | none => .bad
def eUn (g : D → Option RD) (f : AE → SS → R) : AE → SS → R := fun ρ S => (f ρ S).bind (un1 g)
def UnV (K : PySem.W.Frag) (r : V → Hp → VK → Prop) (g : D → Option RD) : Prop :=
  ∀ (P : Addr → Prop) (H : Hp) (x : V) (d : D) (z : RD) (Q : VK), RepV K P H x d → g d = some z → (∀ v H', NewR K P H H' v z → Q v H') → r x H Q
theorem un_of {f : AE → SS → R} {r : V → Hp → VK → Prop} {g : D → Option RD} (hv : UnV X.K r g) (ρ : AE) (S : SS) (σ : L2.St) (H : Hp) (Q : VK) (q : tR (kx X W) ρ S (eUn g f ρ S) σ H Q) : tUn r (tR (kx X W) ρ S (f ρ S)) σ H Q := by
  obtain ⟨m, w, en, q⟩ := q
  refine ⟨m, w, en, ?_⟩
  unfold eUn at q
  cases hf : f ρ S with
  | bad => rw [hf] at q; exact q.elim
  | exc x S1 => rw [hf] at q; exact q
  | ok a S1 =>
    rw [hf] at q
    intro v m1 H1 s1 w1 a1 f1
    have q := RQ.back s1 q
    dsimp only [R.bind, un1] at q
    split at q
    · rename_i d hd
      split at q
      · rename_i z hz
        refine hv m1.P H1 v d z Q (view_rep w1 a1 hd) hz fun v' H' n => ?_
        obtain ⟨t1, t2, t3, t4⟩ := n.step w1
        exact q v' m1 H' t1 t2 t3 t4
      · exact q.elim
    · exact q.elim
theorem je_un {op : UnaryOp} {a : Expr} {pos : Pos} {f : AE → SS → R} {r : V → Hp → VK → Prop} {g : D → Option RD} (ho : UnR X (unaryOp op) r) (hv : UnV X.K r g) (ja : JE X W a f) : JE X W (.UnaryOp op a pos) (eUn g f) := fun ρ S =>
  PE.imp (pe_un ho (ja ρ S)) fun σ H Q q => un_of hv ρ S σ H Q q
def gNeg : D → Option RD
  | .int i => some (.dt (.int (-i)))
  | _ => none
theorem uv_neg : UnV K (rU fun i => .int (-i)) gNeg := by
  intro P H x d z Q h g q
  cases d <;> try (cases g; done)
  cases r_int h
  cases g
  exact ⟨_, rfl, q _ _ (nv (.int _))⟩

/-! ### subscripts -/
def atD (ds : List D) (i : Int) : Option D := atI ds i
def dget (es : List (Key × D)) (k : Key) : Option D := match es with
  | [] => none
  | (k', d) :: es => if k' = k then some d else dget es k
def keyD : D → Option Key
  | .int i => some (.inl i)
  | .str s => some (.inr s)
  | _ => none
def gIx : D → D → Option RD
  | .lst ds, .int i => (atI ds i).map .dt
  | .tup ds, .int i => (atI ds i).map .dt
  | .scr ns, .int i => (atI ns i).map fun n => .dt (.int n)
  | .str s, .int i => (match Nat.ble s.length line with
    | true => (atI s.cps.toList i).map fun c => .dt (.str ⟨#[c]⟩)
    | false => none)
  | .dct es, d => (match keyD d with
    | some k => (dget es k).map .dt
    | none => none)
  | _, _ => none
theorem RepL.get' {P : Addr → Prop} {H : Hp} {vs : List V} {ds : List D} (h : RepL K P H vs ds) {i : Nat} {d : D} (e : ds[i]? = some d) : ∃ v, vs[i]? = some v ∧ Rep K P H v d := by
  have hi : i < vs.length := by rw [h.length]; exact (List.getElem?_eq_some_iff.mp e).1
  obtain ⟨d', h1, h2⟩ := h.get (List.getElem?_eq_getElem hi)
  rw [e] at h1; cases h1
  exact ⟨_, List.getElem?_eq_getElem hi, h2⟩
theorem at_rep {P : Addr → Prop} {H : Hp} {vs : List V} {ds : List D} (h : RepL K P H vs ds) {i : Int} {d : D} (e : atI ds i = some d) : ∃ v, atI vs i = some v ∧ Rep K P H v d := by
  unfold atI at e ⊢
  rw [h.length]
  cases hj : ixN ds.length i with
  | none => rw [hj] at e; cases e
  | some j =>
    rw [hj] at e
    exact h.get' e
theorem at_map {α β : Type} {f : α → β} {xs : List α} {i : Int} {x : α} (e : atI xs i = some x) : atI (xs.map f) i = some (f x) := by
  unfold atI at e ⊢
  rw [List.length_map]
  cases hj : ixN xs.length i with
  | none => rw [hj] at e; cases e
  | some j =>
    rw [hj] at e
    show (xs.map f)[j]? = _
    rw [List.getElem?_map]
    rw [show xs[j]? = some x from e]; rfl
theorem key_rep {P : Addr → Prop} {H : Hp} {v : V} {d : D} {k : Key} (h : RepV K P H v d) (e : keyD d = some k) : v = kV k := by
  cases d <;> cases e
  · exact r_int h
  · exact r_str h
theorem dget_rep {P : Addr → Prop} {H : Hp} {k : Key} : ∀ {kvs : List (Key × V)} {es : List (Key × D)}, RepK K P H kvs es → match dget es k with
    | some d => ∃ v, valV kvs k = some v ∧ Rep K P H v d
    | none => valV kvs k = none
  | _, _, .nil => rfl
  | _, _, .cons (k := k') (v := v) (vs := vs) (d := d) (ds := ds) h t => by
    unfold dget
    by_cases e : k' = k
    · rw [if_pos e]
      exact ⟨v, valV_pos e, h⟩
    · rw [if_neg e, valV_neg e]
      exact dget_rep t
/-- an item of a dict, by values -/
def rIxDt : R2 := fun x y H Q => ∃ a v, x = .ref a ∧ DGet H a y (some v) ∧ Q v H
theorem tail_of {prog : Program} {w : World} {A : Around} {E : Value → Shared → Prop} {s : Shared} {value slice : Expr} {o i : Value} {T id : String} {Q : Value → Shared → Prop} (hT : s.TypeIs o T)
    (hl : typeLookup (.type T) "__getitem__" = pure (some (.builtin id))) (hs : subscripted slice false o i = operate [o, i] (getItem o i)) (h : wpAny (model prog w) A (getItem o i) Q E s) : wpAny (model prog w) A (subscriptTail value slice o i) Q E s := by
  unfold subscriptTail
  refine wpAny_bind ?_
  rw [getitemInPython_of_ne hT.not_modules]
  refine wpAny_bind (wpAny_specialOf hT hl ?_)
  have fin : wpAny (model prog w) A (subscripted slice false o i) (fun r s₃ => wpAny (model prog w) A (letTemporaryGo value o r >>= fun _ => pure r) Q E s₃) E s := by
    rw [hs]
    exact wpAny_operating (wpAny_mono h (fun r s₃ h₃ => wpAny_bind (wpAny_letTemporaryGo (wpAny_pure h₃))) fun _ _ x => x)
  first
    | exact wpAny_pure (wpAny_bind fin)
    | exact wpAny_bind fin
theorem ix_dict (hu : X.A.units + 1 < cLine) : IxR X rIxDt := by
  intro value slice pins s σ H x y v u Q I rx ry h hs
  obtain ⟨a, z, rfl, g, q⟩ := h
  cases rx
  exact tail_of (dict_typeIs I g) PySem.F.slot_dict_getitem.lookup hs (d_getItem hu I g ry fun w' s3 I3 rw' => ⟨z, H, I3, rw', q⟩)
def rIxAll (K : PySem.W.Frag) : R2 := fun x y H Q => rIx K x y H Q ∨ rIxDt x y H Q
theorem ix_all (hu : X.A.units + 1 < cLine) : IxR X (rIxAll X.K) := L2.IxR.or ix_seq (ix_dict hu)
theorem ov_ix : OpV K (rIxAll K) gIx := by
  intro P H x y d e z Q hx hy g q
  have dictC : ∀ es, d = .dct es → rIxAll K x y H Q := fun es ed => by
    subst ed
    obtain ⟨a, kvs, rfl, h1, r1⟩ := hx
    have g' : (match keyD e with
      | some k => (dget es k).map RD.dt
      | none => none) = some z := by
      cases e <;> exact g
    split at g'
    · rename_i k hk
      have hky := key_rep hy hk
      subst hky
      obtain ⟨c, hc, ez⟩ := Option.map_eq_some_iff.mp g'
      subst ez
      have := dget_rep (k := k) r1
      rw [hc] at this
      obtain ⟨v, hv, rv⟩ := this
      exact .inr ⟨a, v, rfl, .inl ⟨kvs, k, h1, rfl, hv.symm⟩, q _ _ (nv rv)⟩
    · cases g'
  cases d with
  | dct es => exact dictC es rfl
  | lst ds =>
    cases e <;> try (cases g; done)
    cases r_int hy
    obtain ⟨a, xs, rfl, h1, r1⟩ := hx
    obtain ⟨c, hc, ez⟩ := Option.map_eq_some_iff.mp g
    subst ez
    obtain ⟨v, hv, rv⟩ := at_rep r1 hc
    exact .inl (.inl ⟨a, xs, _, v, rfl, rfl, .of h1, hv, q _ _ (nv rv)⟩)
  | tup ds =>
    cases e <;> try (cases g; done)
    cases r_int hy
    obtain ⟨a, xs, rfl, h1, r1⟩ := r_tup hx
    obtain ⟨c, hc, ez⟩ := Option.map_eq_some_iff.mp g
    subst ez
    obtain ⟨v, hv, rv⟩ := at_rep r1 hc
    exact .inl (.inr (.inl ⟨a, xs, _, v, rfl, rfl, h1, hv, q _ _ (nv rv)⟩))
  | scr ns =>
    cases e <;> try (cases g; done)
    cases r_int hy
    obtain ⟨a, rfl, h1⟩ := r_scr hx
    obtain ⟨c, hc, ez⟩ := Option.map_eq_some_iff.mp g
    subst ez
    exact .inl (.inl ⟨a, _, _, _, rfl, rfl, h1, at_map hc, q _ _ (nv (.int _))⟩)
  | str s =>
    cases e <;> try (cases g; done)
    cases r_int hy; cases r_str hx
    dsimp only [gIx] at g
    split at g
    · rename_i c
      obtain ⟨n, hc, ez⟩ := Option.map_eq_some_iff.mp g
      subst ez
      exact .inl (.inr (.inr ⟨s, _, n, rfl, rfl, line_le (ble_ok c), hc, q _ _ (nv (.str _))⟩))
    · cases g
  | _ => cases e <;> cases g
/-! ### slices -/
def cutL {α : Type} (xs : List α) (lo hi : Option Int) : List α := (xs.drop (HT.sIx xs.length 0 lo)).take (HT.sIx xs.length xs.length hi - HT.sIx xs.length 0 lo)
def gSl : D → Option Int → Option Int → Option RD
  | .str s, lo, hi => (match Nat.ble s.length line with
    | true => some (.dt (.str (cutS s lo hi)))
    | false => none)
  | .lst ds, lo, hi => some (.ob (.lst (cutL ds lo hi)))
  | .tup ds, lo, hi => some (.dt (.tup (cutL ds lo hi)))
  | _, _, _ => none
def rSlA (K : PySem.W.Frag) : V → Option Int → Option Int → Hp → VK → Prop := fun x lo hi H Q => rSlS x lo hi H Q ∨ rSlL K x lo hi H Q ∨ L2.rSlA K x lo hi H Q
theorem sl_all : SlR X (rSlA X.K) := L2.SlR.or sl_str (L2.SlR.or sl_list L2.sl_tupA)
theorem RepL.drop {P : Addr → Prop} {H : Hp} : ∀ {vs : List V} {ds : List D} (n : Nat), RepL K P H vs ds → RepL K P H (vs.drop n) (ds.drop n)
  | _, _, 0, h => h
  | _, _, _ + 1, .nil => .nil
  | _, _, n + 1, .cons _ t => RepL.drop n t
theorem RepL.take {P : Addr → Prop} {H : Hp} : ∀ {vs : List V} {ds : List D} (n : Nat), RepL K P H vs ds → RepL K P H (vs.take n) (ds.take n)
  | _, _, 0, h => .nil
  | _, _, _ + 1, .nil => .nil
  | _, _, n + 1, .cons a t => .cons a (RepL.take n t)
theorem sv_all : SlV K (rSlA K) gSl := by
  intro P H x d lo hi z Q h g q
  cases d <;> try (cases g; done)
  · cases r_str h
    dsimp only [gSl] at g
    split at g
    · rename_i c
      cases g
      exact .inl ⟨_, rfl, line_le (ble_ok c), q _ _ (nv (.str _))⟩
    · cases g
  · have h' : Rep K P H x (.tup _) := h
    obtain ⟨a, xs, rfl, h1, r1⟩ := r_tup h
    cases g
    refine .inr <| .inr ⟨a, xs, rfl, h1, fun hw => ?_, fun _ p hp => q _ _ (new_tup hp ?_)⟩
    · refine q _ _ (nv ?_)
      rename_i ds
      have e : cutL ds lo hi = ds := by
        unfold cutL
        rw [← r1.length, hw.1, hw.2, List.drop_zero, Nat.sub_zero, r1.length, List.take_length]
      rw [e]
      exact h'
    · unfold cutV cutL
      rw [r1.length]
      exact (r1.drop _).take _
  · obtain ⟨a, xs, rfl, h1, r1⟩ := h
    cases g
    refine .inr <| .inl ⟨a, xs, rfl, .of h1, fun p hp => q _ _ (new_lst hp ?_)⟩
    unfold cutV cutL
    rw [r1.length]
    exact (r1.drop _).take _
/-- xs[::-1] -/
def gRev : D → Option RD
  | .lst ds => some (.ob (.lst ds.reverse))
  | _ => none
theorem RepL.rev {P : Addr → Prop} {H : Hp} : ∀ {vs : List V} {ds : List D}, RepL K P H vs ds → RepL K P H vs.reverse ds.reverse
  | _, _, .nil => .nil
  | _, _, .cons a t => by
    rw [List.reverse_cons, List.reverse_cons]
    exact (RepL.rev t).append (.cons a .nil)
def rRevL (K : PySem.W.Frag) : V → Hp → VK → Prop := fun x H1 Q => ∃ a xs, x = .ref a ∧ SqL K H1 a xs ∧ ∀ p, H1 p = none → Q (.ref p) (upd H1 p (.lst xs.reverse))
theorem uv_rev : UnV K (rRevL K) gRev := by
  intro P H x d z Q h g q
  cases d <;> try (cases g; done)
  obtain ⟨a, xs, rfl, h1, r1⟩ := h
  cases g
  exact ⟨a, xs, rfl, .of h1, fun p hp => q _ _ (new_lst hp r1.rev)⟩
theorem je_rev {e : Expr} {k : Nat} {p1 p2 p3 pos : Pos} {f : AE → SS → R} (je : JE X W e f) : JE X W (.Subscript e (.Slice none none (some (.UnaryOp .USub (.Constant (.int 1) k p1) p2)) p3) pos) (eUn gRev f) := fun ρ S =>
  PE.imp (pe_revL (je ρ S)) fun σ H Q q => un_of uv_rev ρ S σ H Q q

/-! ### methods of texts -/
def m1 (h : D → D → Option RD) : D → List D → Option RD
  | r, [d] => h r d
  | _, _ => none
def m0 (h : D → Option RD) : D → List D → Option RD
  | r, [] => h r
  | _, _ => none
def gZfill : D → D → Option RD
  | .str s, .int i => (match PadOk i with
    | true => some (.dt (.str (Txt.zfill s i)))
    | false => none)
  | _, _ => none
theorem mv_zfill : MtV K (fun x xs H Q => ∃ (a : Str) (i : Int), x = .str a ∧ xs = [.int i] ∧ PadOk i = true ∧ Q (.str (Txt.zfill a i)) H) (m1 gZfill) := by
  intro P H x d vs ds z Q hx hv g q
  match ds with
  | [] => cases g
  | _ :: _ :: _ => cases g
  | [e] =>
  obtain ⟨v, rfl, h⟩ := p1 hv
  cases d <;> cases e <;> try (cases g; done)
  cases r_str hx; cases r_int h
  dsimp only [m1, gZfill] at g
  split at g
  · rename_i c
    cases g
    exact ⟨_, _, rfl, rfl, c, q _ _ (nv (.str _))⟩
  · cases g
def gLstrip : D → D → Option RD
  | .str s, .str i => (match Nat.ble s.length line with
    | true => some (.dt (.str (Txt.lstripChars s i)))
    | false => none)
  | _, _ => none
theorem mv_lstrip : MtV K (fun x xs H Q => ∃ a b, x = .str a ∧ xs = [.str b] ∧ a.length ≤ sizeLine ∧ Q (.str (Txt.lstripChars a b)) H) (m1 gLstrip) := by
  intro P H x d vs ds z Q hx hv g q
  match ds with
  | [] => cases g
  | _ :: _ :: _ => cases g
  | [e] =>
  obtain ⟨v, rfl, h⟩ := p1 hv
  cases d <;> cases e <;> try (cases g; done)
  cases r_str hx; cases r_str h
  dsimp only [m1, gLstrip] at g
  split at g
  · rename_i c
    cases g
    exact ⟨_, _, rfl, rfl, line_le (ble_ok c), q _ _ (nv (.str _))⟩
  · cases g
/-- the texts of a list -/
def strsD : List D → Option (List Str)
  | [] => some []
  | .str s :: ds => (match strsD ds with
    | some ss => some (s :: ss)
    | none => none)
  | _ :: _ => none
end
end Ew

set_option Elab.async false
set_option linter.all false
set_option maxRecDepth 100000
set_option maxHeartbeats 4000000
namespace Ew
open PySem PySem.Spec PyProof.Rows L2

section
variable {X : Cx} {W : WX} {K : PySem.W.Frag}
theorem strsD_rep {P : Addr → Prop} {H : Hp} : ∀ {vs : List V} {ds : List D} {ss : List Str}, RepL K P H vs ds → strsD ds = some ss → vs = ss.map V.str
  | _, _, _, .nil, e => by cases e; rfl
  | _, _, _, .cons (d := d) (ds := ds) h t, e => by
    cases d <;> try (cases e; done)
    dsimp only [strsD] at e
    split at e
    · rename_i ss' e2
      cases e
      cases h
      rw [strsD_rep t e2]; rfl
    · cases e
def listD : D → Option (List D)
  | .lst ds => some ds
  | .tup ds => some ds
  | _ => none
def gJoin : D → D → Option RD
  | .str s, d => (match listD d with
    | some ds => (match strsD ds with
      | some ss => (match Nat.ble ((ss.map (·.length)).sum + ss.length * s.length) line with
        | true => some (.dt (.str (Txt.join s ss)))
        | false => none)
      | none => none)
    | none => none)
  | _, _ => none
def rJoin (K : PySem.W.Frag) : V → List V → Hp → VK → Prop := fun x xs H Q => ∃ a p, ∃ ys : List Str, x = .str a ∧ xs = [.ref p] ∧ (SqL K H p (ys.map V.str) ∨ SqT K H p (ys.map V.str)) ∧
    (ys.map (·.length)).sum + ys.length * a.length ≤ 16777216 ∧ Q (.str (Txt.join a ys)) H
theorem mv_join : MtV K (rJoin K) (m1 gJoin) := by
  intro P H x d vs ds z Q hx hv g q
  match ds with
  | [] => cases g
  | _ :: _ :: _ => cases g
  | [e] =>
  obtain ⟨v, rfl, h⟩ := p1 hv
  cases d <;> try (cases g; done)
  cases r_str hx
  dsimp only [m1, gJoin] at g
  split at g
  · rename_i ds hd
    split at g
    · rename_i ss hss
      split at g
      · rename_i c
        cases g
        cases e <;> try (cases hd; done)
        · cases hd
          obtain ⟨a, xs, rfl, h1, r1⟩ := r_tup h
          have := strsD_rep r1 hss
          subst this
          exact ⟨_, a, ss, rfl, rfl, .inr h1, ble_ok c, q _ _ (nv (.str _))⟩
        · cases hd
          obtain ⟨a, xs, rfl, h1, r1⟩ := h
          have := strsD_rep r1 hss
          subst this
          exact ⟨_, a, ss, rfl, rfl, .inl (.of h1), ble_ok c, q _ _ (nv (.str _))⟩
      · cases g
    · cases g
  · cases g
/-! ### lists that change -/
def u1 (h : AO → D → Option (AO × D)) : AO → List D → Option (AO × D)
  | o, [d] => h o d
  | _, _ => none
def u0 (h : AO → Option (AO × D)) : AO → List D → Option (AO × D)
  | o, [] => h o
  | _, _ => none
def gAppend : AO → D → Option (AO × D)
  | .lst ds, d => (match Nat.blt ds.length line with
    | true => some (.lst (ds ++ [d]), .non)
    | false => none)
  | _, _ => none
theorem uv_append : MuV K rAppend (u1 gAppend) := by
  intro P H p o vs ds o' d Q oo hl np r g q
  match ds with
  | [] => cases g
  | _ :: _ :: _ => cases g
  | [e] =>
  cases r with
  | cons r rr =>
  cases rr
  cases o <;> try (cases g; done)
  obtain ⟨xs, h1, r1⟩ := oo
  dsimp only [u1, gAppend] at g
  split at g
  · rename_i c
    cases g
    refine ⟨p, xs, _, rfl, rfl, h1, by rw [r1.length]; exact line_lt (blt_ok c), q _ _ ⟨_, upd_same, ?_⟩ .non⟩
    exact RepL.mono (mut_stay h1 (fun z => z) np) (r1.snoc r)
  · cases g
/-- xs.extend(ys): ys frozen first -/
def gExtend : AO → D → Option (AO × D)
  | .lst ds, .lst es => (match Nat.ble (ds.length + es.length) line with
    | true => some (.lst (ds ++ es), .non)
    | false => none)
  | _, _ => none
theorem uv_extend : MuV K rExtend (u1 gExtend) := by
  intro P H p o vs ds o' d Q oo hl np r g q
  match ds with
  | [] => cases g
  | _ :: _ :: _ => cases g
  | [e] =>
  cases r with
  | cons r rr =>
  cases rr
  cases o <;> cases e <;> try (cases g; done)
  obtain ⟨xs, h1, r1⟩ := oo
  cases r with
  | lst c2 h2 r2 =>
  dsimp only [u1, gExtend] at g
  split at g
  · rename_i c
    cases g
    refine ⟨p, _, xs, _, rfl, rfl, h1, h2, by rw [r1.length, r2.length]; exact line_le (ble_ok c), q _ _ ⟨_, upd_same, ?_⟩ .non⟩
    exact RepL.mono (mut_stay h1 (fun z => z) np) (r1.append r2)
  · cases g
def gPop : AO → Option (AO × D)
  | .lst ds => (match ds[ds.length - 1]? with
    | some d => some (.lst ds.dropLast, d)
    | none => none)
  | _ => none
theorem RepL.dropLast {P : Addr → Prop} {H : Hp} {vs : List V} {ds : List D} (h : RepL K P H vs ds) : RepL K P H vs.dropLast ds.dropLast := by
  rw [List.dropLast_eq_take, List.dropLast_eq_take, h.length]
  exact h.take _
theorem uv_pop : MuV K rPop (u0 gPop) := by
  intro P H p o vs ds o' d Q oo hl np r g q
  match ds with
  | _ :: _ => cases g
  | [] =>
  cases r
  cases o <;> try (cases g; done)
  obtain ⟨xs, h1, r1⟩ := oo
  dsimp only [u0, gPop] at g
  split at g
  · rename_i e he
    cases g
    obtain ⟨v, hv, rv⟩ := r1.get' he
    have st := mut_stay (K := K) (P := P) (p := p) (u := .lst xs.dropLast) h1 (fun z => z) np
    exact ⟨p, xs, v, rfl, rfl, h1, by rw [r1.length]; exact hv, q _ _ ⟨_, upd_same, RepL.mono st r1.dropLast⟩ (Rep.mono st rv)⟩
  · cases g
/-! ### stores -/
def gSetL : AO → D → D → Option AO
  | .lst ds, .int k, d => (match ixN ds.length k with
    | some j => some (.lst (ds.set j d))
    | none => none)
  | _, _, _ => none
theorem RepL.set {P : Addr → Prop} {H : Hp} {v : V} {d : D} (r : Rep K P H v d) : ∀ {vs : List V} {ds : List D} (i : Nat), RepL K P H vs ds → RepL K P H (vs.set i v) (ds.set i d)
  | _, _, _, .nil => .nil
  | _, _, 0, .cons _ t => .cons r t
  | _, _, i + 1, .cons a t => .cons a (RepL.set r i t)
theorem RepK.length {P : Addr → Prop} {H : Hp} : ∀ {vs : List (Key × V)} {ds : List (Key × D)}, RepK K P H vs ds → vs.length = ds.length
  | _, _, .nil => rfl
  | _, _, .cons _ t => congrArg (· + 1) (RepK.length t)
def dput (es : List (Key × D)) (k : Key) (d : D) : List (Key × D) := if (es.any fun e => decide (e.1 = k)) = true then es.map (fun e => if e.1 = k then (e.1, d) else e) else es ++ [(k, d)]
def gSetD : AO → D → D → Option AO
  | .dct es, i, d => (match keyD i, Nat.blt es.length line with
    | some k, true => some (.dct (dput es k d))
    | _, _ => none)
  | _, _, _ => none
def gSet (o : AO) (i d : D) : Option AO := match o with
  | .lst _ => gSetL o i d
  | .dct _ => gSetD o i d
  | .fz _ => none
  | .nx _ => none
theorem RepK.snoc {P : Addr → Prop} {H : Hp} {k : Key} {v : V} {d : D} (r : Rep K P H v d) : ∀ {vs : List (Key × V)} {ds : List (Key × D)}, RepK K P H vs ds → RepK K P H (vs ++ [(k, v)]) (ds ++ [(k, d)])
  | _, _, .nil => .cons r .nil
  | _, _, .cons a t => .cons a (RepK.snoc r t)
theorem RepK.any {P : Addr → Prop} {H : Hp} {k : Key} : ∀ {vs : List (Key × V)} {ds : List (Key × D)}, RepK K P H vs ds → (vs.any fun e => decide (e.1 = k)) = ds.any fun e => decide (e.1 = k)
  | _, _, .nil => rfl
  | _, _, .cons a t => by rw [List.any_cons, List.any_cons, RepK.any t]
theorem RepK.repl {P : Addr → Prop} {H : Hp} {k : Key} {v : V} {d : D} (r : Rep K P H v d) : ∀ {vs : List (Key × V)} {ds : List (Key × D)}, RepK K P H vs ds → RepK K P H (vs.map fun e => if e.1 = k then (e.1, v) else e) (ds.map fun e => if e.1 = k then (e.1, d) else e)
  | _, _, .nil => .nil
  | _, _, .cons (k := k') a t => by
    rw [List.map_cons, List.map_cons]
    by_cases e : k' = k
    · rw [if_pos e, if_pos e]
      exact .cons r (RepK.repl r t)
    · rw [if_neg e, if_neg e]
      exact .cons a (RepK.repl r t)
theorem RepK.put {P : Addr → Prop} {H : Hp} {k : Key} {v : V} {d : D} (r : Rep K P H v d) {vs : List (Key × V)} {ds : List (Key × D)} (h : RepK K P H vs ds) : RepK K P H (putK vs k v) (dput ds k d) := by
  unfold putK dput
  rw [h.any]
  split
  · exact h.repl r
  · exact h.snoc r
def rSetA : TSet := fun o i v H Q => rSetL o i v H Q ∨ ∃ a H4, o = .ref a ∧ DPut H a i v H4 ∧ Q H4
theorem set_all (hu : X.A.units + 1 < cLine) : PSet X rSetA := by
  intro pins s σ H o i v ov iv u Q I ro ri rv h
  rcases h with h | ⟨a, H4, rfl, g, q⟩
  · exact set_list pins s σ H o i v ov iv u Q I ro ri rv h
  · obtain rfl : ov = Value.ref a := ro
    exact d_setItem hu I g ri rv fun s4 I4 => ⟨H4, I4, q⟩
theorem sv_set : SeV K rSetA gSet := by
  intro P H p o i v di dv o' Q oo hl np hi hv g q
  cases o with
  | fz d => cases g
  | nx _ => cases g
  | lst ds =>
    obtain ⟨xs, h1, r1⟩ := oo
    cases di <;> try (cases g; done)
    cases r_int hi
    dsimp only [gSet, gSetL] at g
    split at g
    · rename_i j hj
      cases g
      have st := mut_stay (K := K) (P := P) (p := p) (u := .lst (xs.set j v)) h1 (fun z => z) np
      exact .inl ⟨p, xs, _, j, rfl, rfl, h1, by rw [r1.length]; exact hj, q _ ⟨_, upd_same, RepL.mono st (r1.set hv j)⟩⟩
    · cases g
  | dct es =>
    obtain ⟨kvs, h1, r1⟩ := oo
    dsimp only [gSet, gSetD] at g
    split at g
    · rename_i k hk hlen
      cases g
      have hky := key_rep hi hk
      subst hky
      have st := mut_stay (K := K) (P := P) (p := p) (u := .dK (putK kvs k v)) h1 (fun z => z) np
      exact .inr ⟨p, _, rfl, DPut.k h1 (by rw [r1.length]; exact line_lt (blt_ok hlen)), q _ ⟨_, upd_same, RepK.mono st (r1.put hv)⟩⟩
    · cases g
/-! ### dicts -/
def eDnew : AE → SS → R := fun _ S => .ok (.new (.dct [])) S
theorem je_dnew {pos : Pos} : JE X W (.Dict [] [] pos) eDnew := fun ρ S => PE.imp pe_dnewK fun σ H Q ⟨m, w, en, q⟩ p hp => by
  have n : NewR X.K m.P H (upd H p (.dK [])) (.ref p) (.ob (.dct [])) := ⟨.inr ⟨p, _, hp, rfl⟩, p, rfl, hp, rfl, [], upd_same, .nil⟩
  obtain ⟨t1, t2, t3, t4⟩ := n.step w
  exact q _ _ _ t1 t2 t3 t4
/-- d.get(k, x) -/
def gGet2 (d k x : D) : Option RD := match d with
  | .dct es => (match keyD k with
    | some k => some (.dt ((dget es k).getD x))
    | none => none)
  | _ => none
def eGet2 (f h j : AE → SS → R) : AE → SS → R := fun ρ S => (f ρ S).bind fun a S1 => match view a S1 with
  | some (.dct es) => (h ρ S1).bind fun b S2 => (j ρ S2).bind fun c S3 => (match view a S3, view b S3, c with
    | some d, some k, .dat x => (match gGet2 d k x with
      | some z => .ok z.av S3
      | none => .bad)
    | _, _, _ => .bad)
  | _ => .bad
theorem je_get2 {o e f : Expr} {apos cpos : Pos} {fo fe ff : AE → SS → R} (hu : X.A.units + 1 < cLine) (jo : JE X W o fo) (je : JE X W e fe) (jf : JE X W f ff) (m : M2 X o "get" apos e f cpos) : JE X W (.Call (.Attribute o "get" apos) [e, f] [] cpos) (eGet2 fo fe ff) := fun ρ S => by
  refine PE.imp (pe_dget2 hu (pe_u jo) (pe_u je) (pe_u jf) m) fun σ H Q ⟨mm, w, en, q⟩ => ⟨ρ, S, mm, w, en, ?_⟩
  unfold eGet2 at q
  cases hf : fo ρ S with
  | bad => rw [hf] at q; exact q.elim
  | exc x S1 => rw [hf] at q; exact q
  | ok a S1 =>
    rw [hf] at q
    intro v m1 H1 s1 w1 a1 f1
    have q := RQ.back s1 q
    dsimp only [R.bind] at q
    split at q
    · rename_i es hes
      have hv := view_rep w1 a1 hes
      obtain ⟨ad, kvs, rfl, hrd, rk⟩ := hv
      refine ⟨ad, rfl, .inl ⟨kvs, hrd⟩, ρ, S1, m1, w1, en.mono s1, ?_⟩
      cases hh : fe ρ S1 with
      | bad => rw [hh] at q; exact q.elim
      | exc y S2 => rw [hh] at q; exact q
      | ok b S2 =>
        rw [hh] at q
        intro v2 m2 H2 s2 w2 a2 f2
        have q := RQ.back s2 q
        dsimp only at q
        refine ⟨ρ, S2, m2, w2, (en.mono s1).mono s2, ?_⟩
        cases hj : ff ρ S2 with
        | bad => rw [hj] at q; exact q.elim
        | exc y S3 => rw [hj] at q; exact q
        | ok c S3 =>
          rw [hj] at q
          intro v3 m3 H3 s3 w3 a3 f3
          have q := RQ.back s3 q
          dsimp only [R.bind] at q
          cases hd : view a S3 with
          | none => rw [hd] at q; exact q.elim
          | some d =>
          rw [hd] at q
          cases hk : view b S3 with
          | none => rw [hk] at q; exact q.elim
          | some k =>
          rw [hk] at q
          cases c with
          | own n => exact q.elim
          | new o => exact q.elim
          | nst _ => exact q.elim
          | dat x =>
          dsimp only at q
          cases d <;> try (exact q.elim)
          rename_i es3
          dsimp only [gGet2] at q
          cases hkk : keyD k with
          | none => rw [hkk] at q; exact q.elim
          | some kk =>
          rw [hkk] at q
          dsimp only at q
          obtain ⟨ad', kvs3, e3, hrd3, rk3⟩ := view_rep w3 ((a1.mono s2).mono s3) hd
          cases e3
          have hkey := key_rep (view_rep w3 (a2.mono s3) hk) hkk
          subst hkey
          have hg := dget_rep (k := kk) rk3
          have rx : Rep X.K m3.P H3 v3 x := a3
          cases hdg : dget es3 kk with
          | none =>
            rw [hdg] at hg q
            exact ⟨none, .inl ⟨kvs3, kk, hrd3, rfl, hg.symm⟩, q v3 _ _ (.refl _ _) w3 rx trivial⟩
          | some d3 =>
            rw [hdg] at hg q
            obtain ⟨v4, hv4, rv4⟩ := hg
            exact ⟨some v4, .inl ⟨kvs3, kk, hrd3, rfl, hv4.symm⟩, q v4 _ _ (.refl _ _) w3 rv4 trivial⟩
    · exact q.elim
/-! ### in -/
def gInD (neg : Bool) (x d : D) : Option RD := match d with
  | .dct es => (match keyD x with
    | some k => some (.dt (.bl (if neg then !(dget es k).isSome else (dget es k).isSome)))
    | none => none)
  | .str s => (match x with
    | .str c => some (.dt (.bl (if neg then !(!(Builtin.Str.occurrences s c 0 s.length 1).isEmpty) else !(Builtin.Str.occurrences s c 0 s.length 1).isEmpty)))
    | _ => none)
  | _ => none
def rInA (neg : Bool) : R2 := fun x y H Q => (∃ i j, x = .str i ∧ y = .str j ∧ Q (.bl (if neg then !(!(Builtin.Str.occurrences j i 0 j.length 1).isEmpty) else !(Builtin.Str.occurrences j i 0 j.length 1).isEmpty)) H) ∨ ∃ a o, y = .ref a ∧ DGet H a x o ∧ Q (.bl (if neg then !o.isSome else o.isSome)) H
theorem op_inA (hu : X.A.units + 1 < cLine) : OpR X (compareOp .In) (rInA false) := by
  intro pins s σ H x y v u Q I rx ry h
  rcases h with h | ⟨a, o, rfl, g, q⟩
  · exact op_in_str pins s σ H x y v u Q I rx ry h
  · cases ry
    exact d_in hu I g rx fun s3 I3 => ⟨.bl o.isSome, H, I3, rfl, q⟩
theorem op_notInA (hu : X.A.units + 1 < cLine) : OpR X (compareOp .NotIn) (rInA true) := by
  intro pins s σ H x y v u Q I rx ry h
  rcases h with h | ⟨a, o, rfl, g, q⟩
  · exact op_notin_str pins s σ H x y v u Q I rx ry h
  · cases ry
    exact d_notIn hu I g rx fun s3 I3 => ⟨.bl (!o.isSome), H, I3, rfl, q⟩
theorem ov_in {neg : Bool} : OpV K (rInA neg) (gInD neg) := by
  intro P H x y d e z Q hx hy g q
  unfold gInD at g
  split at g
  · obtain ⟨a, kvs, rfl, h1, r1⟩ := hy
    split at g
    · rename_i k hk
      cases g
      have hkey := key_rep hx hk
      subst hkey
      have hg := dget_rep (k := k) r1
      cases hdg : dget _ k with
      | none =>
        rw [hdg] at hg q
        exact .inr ⟨a, none, rfl, .inl ⟨kvs, k, h1, rfl, hg.symm⟩, q _ _ (nv (.bl _))⟩
      | some d3 =>
        rw [hdg] at hg q
        obtain ⟨v4, hv4, rv4⟩ := hg
        exact .inr ⟨a, some v4, rfl, .inl ⟨kvs, k, h1, rfl, hv4.symm⟩, q _ _ (nv (.bl _))⟩
    · cases g
  · cases r_str hy
    split at g
    · cases r_str hx
      cases g
      exact .inl ⟨_, _, rfl, rfl, q _ _ (nv (.bl _))⟩
    · cases g
  · cases g
end
end Ew

set_option Elab.async false
set_option linter.all false
set_option maxRecDepth 100000
set_option maxHeartbeats 4000000
namespace Ew
open PySem PySem.Spec PyProof.Rows L2

section
variable {X : Cx} {W : WX} {K : PySem.W.Frag}
/-! ### in, not in -/
def flatD : D → Bool
  | .non => true
  | .bl _ => true
  | .int _ => true
  | .str _ => true
  | _ => false
def toV : D → V
  | .non => .non
  | .bl b => .bl b
  | .int i => .int i
  | .str s => .str s
  | _ => .non
theorem flat_rep {P : Addr → Prop} {H : Hp} {v : V} {d : D} (h : RepV K P H v d) (f : flatD d = true) : v = toV d ∧ flatV v = true := by
  cases d <;> try (cases f; done)
  · cases r_non h; exact ⟨rfl, rfl⟩
  · cases r_bl h; exact ⟨rfl, rfl⟩
  · cases r_int h; exact ⟨rfl, rfl⟩
  · cases r_str h; exact ⟨rfl, rfl⟩
theorem flats_rep {P : Addr → Prop} {H : Hp} : ∀ {vs : List V} {ds : List D}, RepL K P H vs ds → ds.all flatD = true → vs = ds.map toV ∧ vs.all flatV = true
  | _, _, .nil, _ => ⟨rfl, rfl⟩
  | _, _, .cons h t, f => by
    rw [List.all_cons, Bool.and_eq_true] at f
    obtain ⟨h1, h2⟩ := flat_rep h.v f.1
    obtain ⟨h3, h4⟩ := flats_rep t f.2
    refine ⟨by rw [h1, h3]; rfl, ?_⟩
    rw [List.all_cons, h2, h4]; rfl
/-- x in ds, the things flat -/
def inF (x : D) (ds : List D) : Bool := inV (toV x) (ds.map toV)
def gInX (neg : Bool) (x d : D) : Option RD := match d with
  | .lst ds => (match flatD x && ds.all flatD with
    | true => some (.dt (.bl (if neg then !inF x ds else inF x ds)))
    | false => (match SeqAt.shaped (py x) && SeqAt.shaped (.list (pys ds)) with
      | true => some (.dt (.bl (if neg then !(pys ds).any (fun z => PyData.eqv z (py x)) else (pys ds).any (fun z => PyData.eqv z (py x)))))
      | false => none))
  | .tup ds => (match flatD x && ds.all flatD with
    | true => some (.dt (.bl (if neg then !inF x ds else inF x ds)))
    | false => none)
  | d => gInD neg x d
def rInX (K : PySem.W.Frag) (neg : Bool) : R2 := fun x y H Q => rInA neg x y H Q ∨ rIn K neg x y H Q ∨ (∃ d ds, Dp K H x d ∧ Dp K H y (.list ds) ∧ SeqAt.shaped d = true ∧ SeqAt.shaped (.list ds) = true ∧ Q (.bl (if neg then !(ds.any fun z => PyData.eqv z d) else ds.any fun z => PyData.eqv z d)) H)
theorem op_inX (hu : X.A.units + 65 < cLine) : OpR X (compareOp .In) (rInX X.K false) :=
  L2.OpR.or (op_inA (by omega)) (L2.OpR.or op_in_seq (op_inD (by omega)))
theorem op_notInX (hu : X.A.units + 65 < cLine) : OpR X (compareOp .NotIn) (rInX X.K true) :=
  L2.OpR.or (op_notInA (by omega)) (L2.OpR.or op_notIn_seq (op_notInD (by omega)))
theorem ov_inX {neg : Bool} : OpV K (rInX K neg) (gInX neg) := by
  intro P H x y d e z Q hx hy g q
  have other : gInD neg d e = some z → rInX K neg x y H Q := fun g => .inl (ov_in P H x y d e z Q hx hy g q)
  cases e with
  | lst ds =>
    dsimp only [gInX] at g
    obtain ⟨a, xs, rfl, h1, r1⟩ := id hy
    split at g
    · rename_i c
      cases g
      rw [Bool.and_eq_true] at c
      obtain ⟨e1, e2⟩ := flat_rep hx c.1
      obtain ⟨e3, e4⟩ := flats_rep r1 c.2
      refine .inr (.inl ⟨a, xs, rfl, .inl (.of h1), e2, e4, ?_⟩)
      rw [e1, e3]
      exact q _ _ (nv (.bl _))
    · split at g
      · rename_i c
        cases g
        rw [Bool.and_eq_true] at c
        have d2 : Dp K H (.ref a) (py (.lst ds)) := dp_v (P := P) hy (SeqAt.canLay_of_shaped c.2)
        exact .inr (.inr ⟨py d, pys ds, dp_v hx (SeqAt.canLay_of_shaped c.1), d2, c.1, c.2, q _ _ (nv (.bl _))⟩)
      · cases g
  | tup ds =>
    dsimp only [gInX] at g
    obtain ⟨a, xs, rfl, h1, r1⟩ := r_tup hy
    split at g
    · rename_i c
      cases g
      rw [Bool.and_eq_true] at c
      obtain ⟨e1, e2⟩ := flat_rep hx c.1
      obtain ⟨e3, e4⟩ := flats_rep r1 c.2
      refine .inr (.inl ⟨a, xs, rfl, .inr h1, e2, e4, ?_⟩)
      rw [e1, e3]
      exact q _ _ (nv (.bl _))
    · cases g
  | _ => exact other g
end
end Ew

set_option Elab.async false
set_option linter.all false
set_option maxRecDepth 100000
set_option maxHeartbeats 4000000
namespace Ew
open PySem PySem.Spec PyProof.Rows L2

/-! ### the end -/
theorem Cxt.blk {X : Cx} {W : WX} {k : Nat} (c : Cxt X W k) {s : Shared} {H : Hp} {scope : Scope} {cenv : Env} {fp : List Addr} : Cxt (X.blk s H scope cenv fp) W0 k :=
  ⟨takes0, PassesOwn.never, c.room⟩
theorem Cxt.hu {X : Cx} {W : WX} {k : Nat} (c : Cxt X W k) : X.A.units + 1 < cLine := hu_of c.room
theorem Cxt.hu64 {X : Cx} {W : WX} {k : Nat} (c : Cxt X W k) : X.A.units + 64 < cLine := c.room.units
theorem Cxt.hu65 {X : Cx} {W : WX} {k : Nat} (c : Cxt X W k) : X.A.units + 65 < cLine := by have := c.room.un; omega
theorem Fn.of {P : Program} {w : World} {K : PySem.W.Frag} {mg : Str → Option Value} {base : Heap} {k n : Nat} {x : Str} {F : List AV → SS → R} {f : Addr} {fd : FuncData} {ps : List Str} (h : FnOk P w K mg base (L2.CX P w) k f fd ps (spOf K mg n F)) (hm : mg x = some (.ref f)) (hk : PySem.W.keepIn K (.ref f) = true) (hb : Binds K fd ps []) : Fn P w K mg base k x n F := ⟨f, fd, ps, h, hm, hk, hb⟩
def spLaw (K : PySem.W.Frag) : Sp := fun vs H Q _ => ∃ (a : Addr) (ns : List Int), vs = [.ref a] ∧ SqL K H a (ns.map V.int) ∧ ns.length ≤ 63 ∧ ∀ H', Q (.bl true) H'
theorem law_end {P : Program} {w : World} {K : PySem.W.Frag} {mg : Str → Option Value} {base : Heap} {k : Nat} {f : Addr} {fd : FuncData} {F : List AV → SS → R} (h : FnOk P w K mg base (L2.CX P w) k f fd ["script"] (spOf K mg 1 F))
    (t : ∀ ns : List Int, ns.length ≤ 63 → F [.dat (.scr ns)] [] = .ok (.dat (.bl true)) []) : FnOk P w K mg base (L2.CX P w) k f fd ["script"] (spLaw K) := by
  refine h.imp fun vs H Q E hq => ?_
  obtain ⟨a, ns, rfl, hS, hl, q⟩ := hq
  have hP : ∃ Pm : Addr → Prop, (∀ b, Pm b → ∃ o, H b = some o) ∧ SqS K Pm H a (ns.map V.int) := by
    rcases hS with (h1 | ⟨o, h1⟩) | h1
    · exact ⟨fun b => b = a, fun b e => ⟨.lst (ns.map V.int), by
        have e : b = a := e
        subst e; exact h1⟩, .inl (.inr ⟨rfl, h1⟩)⟩
    · exact ⟨fun _ => False, fun b e => e.elim, .inl (.inl ⟨o, h1⟩)⟩
    · exact ⟨fun _ => False, fun b e => e.elim, .inr h1⟩
  obtain ⟨Pm, hp, hs⟩ := hP
  refine ⟨rfl, ⟨[], Pm⟩, [], [.dat (.scr ns)], ⟨rfl, List.nodup_nil, fun n p o e => by simp at e, fun n p o e => by simp at e, hp⟩, .cons (Rep.scr hs) .nil, ?_⟩
  rw [t ns hl]
  exact ⟨rfl, fun v P' H' st wd av _ => by
    cases (show Rep K P' H' v (.bl true) from av)
    exact q H'⟩
theorem cxL {P : Program} (w : World) (H : Hp) (s : Shared) (e : Value) (s' : Shared) (h : L2.CX P w [] H s (fun _ _ _ => False) e s') : False := by
  obtain ⟨_, _, _, _, _, _, _, _, _, _, _, _, z⟩ := h
  exact z
/-- constants of the module -/
theorem gc_int {K : PySem.W.Frag} {mg : Str → Option Value} {x : Str} {i : Int} {t : Tok} (h : mg x = some (.int i t)) : GC K mg x (.int i) := ⟨_, .int i, h, ⟨t, rfl⟩, fun _ _ => .int i⟩
theorem gc_str {K : PySem.W.Frag} {mg : Str → Option Value} {x : Str} {i : Str} {t : Tok} (h : mg x = some (.str i t)) : GC K mg x (.str i) := ⟨_, .str i, h, ⟨t, rfl⟩, fun _ _ => .str i⟩
end Ew

set_option Elab.async false
set_option linter.all false
set_option maxRecDepth 100000
set_option maxHeartbeats 4000000
namespace Ew
open PySem PySem.Spec PyProof.Rows L2

/-! ### sum, all, any, max, min, sorted; tuples of the module -/
section
variable {X : Cx} {K : PySem.W.Frag}
def intsD : List D → Option (List Int)
  | [] => some []
  | .int i :: ds => (match intsD ds with
    | some is => some (i :: is)
    | none => none)
  | _ :: _ => none
def blsD : List D → Option (List Bool)
  | [] => some []
  | .bl i :: ds => (match blsD ds with
    | some is => some (i :: is)
    | none => none)
  | _ :: _ => none
theorem ints_ok {P : Addr → Prop} {H : Hp} : ∀ {ds : List D} {xs : List V} {is : List Int}, RepL K P H xs ds → intsD ds = some is → xs = is.map V.int
  | [], _, _, .nil, h => by cases h; rfl
  | d :: ds, _, _, .cons r t, h => by
    cases d <;> try (cases h; done)
    unfold intsD at h
    split at h
    · rename_i js e
      cases h
      cases r
      rw [ints_ok t e]; rfl
    · cases h
theorem bls_ok {P : Addr → Prop} {H : Hp} : ∀ {ds : List D} {xs : List V} {is : List Bool}, RepL K P H xs ds → blsD ds = some is → xs = is.map V.bl
  | [], _, _, .nil, h => by cases h; rfl
  | d :: ds, _, _, .cons r t, h => by
    cases d <;> try (cases h; done)
    unfold blsD at h
    split at h
    · rename_i js e
      cases h
      cases r
      rw [bls_ok t e]; rfl
    · cases h
def gSum : D → Option RD
  | .lst ds => (match intsD ds with
    | some is => some (.dt (.int is.sum))
    | none => none)
  | _ => none
theorem cv_sum : CallV K (rSum K) (g1 gSum) := by
  intro P H vs ds z Q hv g q
  match ds with
  | [] => cases g
  | _ :: _ :: _ => cases g
  | [d] =>
  obtain ⟨v, rfl, h⟩ := p1 hv
  cases d <;> try (cases g; done)
  obtain ⟨a, xs, rfl, h1, r1⟩ := h
  dsimp only [g1, gSum] at g
  split at g
  · rename_i is e
    cases g
    rw [ints_ok r1 e] at h1
    exact ⟨a, is, rfl, .of h1, q _ _ (nv (.int _))⟩
  · cases g
def gAll : D → Option RD
  | .lst ds => (match blsD ds with
    | some is => some (.dt (.bl (is.all id)))
    | none => none)
  | _ => none
theorem cv_all : CallV K (rAll K) (g1 gAll) := by
  intro P H vs ds z Q hv g q
  match ds with
  | [] => cases g
  | _ :: _ :: _ => cases g
  | [d] =>
  obtain ⟨v, rfl, h⟩ := p1 hv
  cases d <;> try (cases g; done)
  obtain ⟨a, xs, rfl, h1, r1⟩ := h
  dsimp only [g1, gAll] at g
  split at g
  · rename_i is e
    cases g
    rw [bls_ok r1 e] at h1
    exact ⟨a, is, rfl, .of h1, q _ _ (nv (.bl _))⟩
  · cases g
def gAny : D → Option RD
  | .lst ds => (match blsD ds with
    | some is => some (.dt (.bl (is.any id)))
    | none => none)
  | _ => none
theorem cv_any : CallV K (rAny K) (g1 gAny) := by
  intro P H vs ds z Q hv g q
  match ds with
  | [] => cases g
  | _ :: _ :: _ => cases g
  | [d] =>
  obtain ⟨v, rfl, h⟩ := p1 hv
  cases d <;> try (cases g; done)
  obtain ⟨a, xs, rfl, h1, r1⟩ := h
  dsimp only [g1, gAny] at g
  split at g
  · rename_i is e
    cases g
    rw [bls_ok r1 e] at h1
    exact ⟨a, is, rfl, .of h1, q _ _ (nv (.bl _))⟩
  · cases g
/-- max, min of two ints -/
def gMax2 : D → D → Option RD
  | .int i, .int j => some (.dt (.int (if j > i then j else i)))
  | _, _ => none
def gMin2 : D → D → Option RD
  | .int i, .int j => some (.dt (.int (if j < i then j else i)))
  | _, _ => none
def gMax : List D → Option RD := g2 gMax2
def gMin : List D → Option RD := g2 gMin2
def rMaxA : List V → Hp → VK → Prop := fun xs H Q => ∃ i j, xs = [.int i, .int j] ∧ Q (.int (if j > i then j else i)) H
def rMinA : List V → Hp → VK → Prop := fun xs H Q => ∃ i j, xs = [.int i, .int j] ∧ Q (.int (if j < i then j else i)) H
theorem call_maxA (hc : X.calm = true) : CallR X (.builtin "max") rMaxA := call_max2 hc
theorem call_minA (hc : X.calm = true) : CallR X (.builtin "min") rMinA := call_min2 hc
theorem cv_max : CallV K rMaxA gMax := by
  intro P H vs ds z Q hv g q
  match ds with
  | [] => cases g
  | [_] => cases g
  | _ :: _ :: _ :: _ => cases g
  | [d, e] =>
  obtain ⟨v, w, rfl, h, h2⟩ := p2 hv
  cases d <;> cases e <;> try (cases g; done)
  cases r_int h; cases r_int h2; cases g
  exact ⟨_, _, rfl, q _ _ (nv (.int _))⟩
theorem cv_min : CallV K rMinA gMin := by
  intro P H vs ds z Q hv g q
  match ds with
  | [] => cases g
  | [_] => cases g
  | _ :: _ :: _ :: _ => cases g
  | [d, e] =>
  obtain ⟨v, w, rfl, h, h2⟩ := p2 hv
  cases d <;> cases e <;> try (cases g; done)
  cases r_int h; cases r_int h2; cases g
  exact ⟨_, _, rfl, q _ _ (nv (.int _))⟩

/-! sorted of a dict's keys, texts -/
def sle (a b : Str) : Bool := decide (a.cps.toList ≤ b.cps.toList)
def sortT (ks : List Str) : List Str := ks.mergeSort sle
theorem sle_trans (a b c : Str) (h : sle a b = true) (h2 : sle b c = true) : sle a c = true :=
  decide_eq_true (List.le_trans (of_decide_eq_true h) (of_decide_eq_true h2))
theorem sle_total (a b : Str) : (sle a b || sle b a) = true := by
  rw [Bool.or_eq_true]
  rcases List.le_total a.cps.toList b.cps.toList with h | h
  · exact .inl (decide_eq_true h)
  · exact .inr (decide_eq_true h)
theorem sle_anti (a b : Str) (h : sle a b = true) (h2 : sle b a = true) : a = b :=
  TL.ext_tl (List.le_antisymm (of_decide_eq_true h) (of_decide_eq_true h2))
theorem rising_pw : ∀ (p : Str) (l : List Str), risingS p l = true → (p :: l).Pairwise (fun a b => sle a b = true)
  | p, [], _ => List.pairwise_singleton _ _
  | p, x :: r, h => by
    have h : (!ltCps x.cps.toList p.cps.toList && risingS x r) = true := h
    rw [Bool.and_eq_true, Bool.not_eq_true', ltCps_eq] at h
    have ih := rising_pw x r h.2
    have hpx : sle p x = true := decide_eq_true (of_decide_eq_false h.1)
    refine .cons (fun c hc => ?_) ih
    rcases List.mem_cons.mp hc with rfl | hc
    · exact hpx
    · exact sle_trans _ _ _ hpx ((List.pairwise_cons.mp ih).1 c hc)
theorem sorted_pw : ∀ (l : List Str), sortedS l = true → l.Pairwise (fun a b => sle a b = true)
  | [], _ => .nil
  | x :: r, h => rising_pw x r h
theorem sortT_pw (ks : List Str) : (sortT ks).Pairwise (fun a b => sle a b = true) := List.pairwise_mergeSort sle_trans sle_total ks
theorem sortT_perm (ks : List Str) : (sortT ks).Perm ks := List.mergeSort_perm ks sle
theorem sortT_eq {ys ks : List Str} (hp : ys.Perm ks) (h : ys.Pairwise (fun a b => sle a b = true)) : ys = sortT ks :=
  List.Perm.eq_of_pairwise (le := fun a b => sle a b = true) (fun a b _ _ h h' => sle_anti a b h h') h (sortT_pw ks) (hp.trans (sortT_perm ks).symm)
def keysT : List (Key × D) → Option (List Str)
  | [] => some []
  | (.inr s, _) :: es => (match keysT es with
    | some ss => some (s :: ss)
    | none => none)
  | _ :: _ => none
theorem keysT_ok {P : Addr → Prop} {H : Hp} : ∀ {es : List (Key × D)} {kvs : List (Key × V)} {ks : List Str}, RepK K P H kvs es → keysT es = some ks → kvs.map (·.1) = ks.map Sum.inr
  | [], _, _, .nil, h => by cases h; rfl
  | (k, d) :: es, _, _, .cons r t, h => by
    cases k with
    | inl i => cases h
    | inr s =>
      unfold keysT at h
      split at h
      · rename_i ss e
        cases h
        rw [List.map_cons, keysT_ok t e]; rfl
      · cases h
def gSorted : D → Option RD
  | .dct es => (match keysT es with
    | some ks => (match Nat.blt ks.length 64 with
      | true => some (.ob (.lst ((sortT ks).map D.str)))
      | false => none)
    | none => none)
  | _ => none
def rSortedDk : List V → Hp → VK → Prop := fun xs H Q => ∃ (a : Addr) (kvs : List (Key × V)) (ks : List Str), xs = [.ref a] ∧ Rd H a (.dK kvs) ∧ kvs.map (·.1) = ks.map Sum.inr ∧ ks.length < 64 ∧
    ∀ ys p, ys.Perm ks → sortedS ys = true → H p = none → Q (.ref p) (upd H p (.lst (ys.map V.str)))
theorem call_sortedA (hcalm : X.calm = true) : CallR X (.builtin "sorted") rSortedDk := call_sortedD hcalm
theorem repl_strs {P : Addr → Prop} {H : Hp} : ∀ ys : List Str, RepL K P H (ys.map V.str) (ys.map D.str)
  | [] => .nil
  | y :: ys => .cons (.str y) (repl_strs ys)
theorem cv_sorted : CallV K rSortedDk (g1 gSorted) := by
  intro P H vs ds z Q hv g q
  match ds with
  | [] => cases g
  | _ :: _ :: _ => cases g
  | [d] =>
  obtain ⟨v, rfl, h⟩ := p1 hv
  cases d <;> try (cases g; done)
  dsimp only [g1, gSorted] at g
  split at g
  · rename_i ks e
    split at g
    · rename_i c
      cases g
      obtain ⟨a, kvs, rfl, h1, r1⟩ := h
      refine ⟨a, kvs, ks, rfl, by first | exact h1 | exact .of h1 | exact .inl h1, keysT_ok r1 e, blt_ok c, fun ys p hp hs hH => ?_⟩
      rw [sortT_eq hp (sorted_pw _ hs)]
      exact q _ _ (new_lst hH (repl_strs _))
    · cases g
  · cases g
end
/-! ### tuples that stand in the module -/
mutual
def KRep (K : PySem.W.Frag) : Value → D → Prop
  | .int i _, .int j => i = j
  | .str s _, .str z => s = z
  | .ref a, .tup ds => ∃ (o : Obj) (its : List Value) (n : Nat), K.lookup a = some o ∧ o.cls = .type "tuple" ∧ o.data = .seq its.toArray n ∧ its.length ≤ sizeLine ∧ KRepL K its ds
  | _, _ => False
def KRepL (K : PySem.W.Frag) : List Value → List D → Prop
  | [], [] => True
  | v :: vs, d :: ds => KRep K v d ∧ KRepL K vs ds
  | _, _ => False
end
mutual
theorem krep_ok {K : PySem.W.Frag} : ∀ (d : D) (v : Value), KRep K v d → ∃ x, RelV x v ∧ ∀ P H, Rep K P H x d
  | .tup ds, v, h => by
    cases v with
    | ref a =>
      unfold KRep at h
      obtain ⟨o, its, n, h1, h2, h3, h4, h5⟩ := h
      obtain ⟨xs, r1, r2⟩ := krepl_ok ds its h5
      exact ⟨.ref a, rfl, fun P H => .tup (.inr ⟨o, its.toArray, n, h1, h2, h3, by rw [List.size_toArray]; exact h4, r1⟩) (r2 P H)⟩
    | _ => unfold KRep at h; exact h.elim
  | .int j, v, h => by
    cases v with
    | int i t =>
      unfold KRep at h
      subst h
      exact ⟨.int i, ⟨t, rfl⟩, fun _ _ => .int i⟩
    | _ => unfold KRep at h; exact h.elim
  | .str j, v, h => by
    cases v with
    | str i t =>
      unfold KRep at h
      subst h
      exact ⟨.str i, ⟨t, rfl⟩, fun _ _ => .str i⟩
    | _ => unfold KRep at h; exact h.elim
  | .non, v, h => by cases v <;> (unfold KRep at h; exact h.elim)
  | .bl _, v, h => by cases v <;> (unfold KRep at h; exact h.elim)
  | .lst _, v, h => by cases v <;> (unfold KRep at h; exact h.elim)
  | .dct _, v, h => by cases v <;> (unfold KRep at h; exact h.elim)
  | .scr _, v, h => by cases v <;> (unfold KRep at h; exact h.elim)
  | .ty _, v, h => by cases v <;> (unfold KRep at h; exact h.elim)
  | .opq, v, h => by cases v <;> (unfold KRep at h; exact h.elim)
theorem krepl_ok {K : PySem.W.Frag} : ∀ (ds : List D) (vs : List Value), KRepL K vs ds → ∃ xs, Vals xs vs ∧ ∀ P H, RepL K P H xs ds
  | [], [], _ => ⟨[], .nil, fun _ _ => .nil⟩
  | d :: ds, v :: vs, h => by
    unfold KRepL at h
    obtain ⟨x, a, b⟩ := krep_ok d v h.1
    obtain ⟨xs, a2, b2⟩ := krepl_ok ds vs h.2
    exact ⟨x :: xs, .cons a a2, fun P H => .cons (b P H) (b2 P H)⟩
  | [], _ :: _, h => by unfold KRepL at h; exact h.elim
  | _ :: _, [], h => by unfold KRepL at h; exact h.elim
end
theorem gc_rep {K : PySem.W.Frag} {mg : Str → Option Value} {x : Str} {v : Value} {d : D} (h : mg x = some v) (r : KRep K v d) : GC K mg x d := by
  obtain ⟨y, a, b⟩ := krep_ok d v r
  exact ⟨v, y, h, a, fun _ _ => b _ _⟩
theorem krep_t {K : PySem.W.Frag} {a : Addr} {ds : List D} {o : Obj} {its : List Value} {n : Nat} (h1 : K.lookup a = some o) (h2 : o.cls = .type "tuple") (h3 : o.data = .seq its.toArray n) (h4 : its.length ≤ sizeLine) (h5 : KRepL K its ds) : KRep K (.ref a) (.tup ds) := by
  unfold KRep
  exact ⟨o, its, n, h1, h2, h3, h4, h5⟩
theorem krep_c {K : PySem.W.Frag} {v : Value} {vs : List Value} {d : D} {ds : List D} (h1 : KRep K v d) (h2 : KRepL K vs ds) : KRepL K (v :: vs) (d :: ds) := by
  unfold KRepL
  exact ⟨h1, h2⟩
theorem krep_n {K : PySem.W.Frag} : KRepL K [] [] := by
  unfold KRepL
  trivial
theorem krep_i {K : PySem.W.Frag} {i : Int} {t : Tok} : KRep K (.int i t) (.int i) := by
  unfold KRep
  rfl
theorem krep_s {K : PySem.W.Frag} {i : Str} {t : Tok} : KRep K (.str i t) (.str i) := by
  unfold KRep
  rfl
theorem blkc {X : Cx} {W : WX} {k : Nat} {scope : Scope} {p : Cx → Prop} (c : Cxt X W k) (h : ∀ (s : Shared) (H : Hp) (C : Addr) (cl : List (Str × Addr)) (fp : List Addr), Cxt (X.blk s H scope (compEnvC scope cl C X.env) fp) W0 k → p (X.blk s H scope (compEnvC scope cl C X.env) fp)) : Blk X scope p := fun s H C cl fp => h s H C cl fp c.blk
end Ew

set_option Elab.async false
set_option linter.all false
set_option maxRecDepth 100000
set_option maxHeartbeats 4000000
namespace Ew
open PySem PySem.Spec PyProof.Rows L2

/-! ### the equations by which mirrors are reckoned (printed by wip/mkX.py) -/
theorem R_bind_ok {a : AV} {S : SS} {k : AV → SS → R} : R.bind (R.ok a S) k = k a S := (rfl)
theorem R_bind_exc {x : Exn} {S : SS} {k : AV → SS → R} : R.bind (R.exc x S) k = .exc x S := (rfl)
theorem R_bind_bad {k : AV → SS → R} : R.bind R.bad k = .bad := (rfl)
theorem R_toB_ok {a : AV} {S : SS} {k : AV → SS → RB} : R.toB (R.ok a S) k = k a S := (rfl)
theorem R_toB_exc {x : Exn} {S : SS} {k : AV → SS → RB} : R.toB (R.exc x S) k = .exc x S := (rfl)
theorem R_toB_bad {k : AV → SS → RB} : R.toB R.bad k = .bad := (rfl)
theorem R_toA_ok {a : AV} {S : SS} {k : AV → SS → RA} : R.toA (R.ok a S) k = k a S := (rfl)
theorem R_toA_exc {x : Exn} {S : SS} {k : AV → SS → RA} : R.toA (R.exc x S) k = .exc x S := (rfl)
theorem R_toA_bad {k : AV → SS → RA} : R.toA R.bad k = .bad := (rfl)
theorem RA_bind_ok {a : List AV} {S : SS} {k : List AV → SS → RA} : RA.bind (RA.ok a S) k = k a S := (rfl)
theorem RA_bind_exc {x : Exn} {S : SS} {k : List AV → SS → RA} : RA.bind (RA.exc x S) k = .exc x S := (rfl)
theorem RA_bind_bad {k : List AV → SS → RA} : RA.bind RA.bad k = .bad := (rfl)
theorem RA_toR_ok {a : List AV} {S : SS} {k : List AV → SS → R} : RA.toR (RA.ok a S) k = k a S := (rfl)
theorem RA_toR_exc {x : Exn} {S : SS} {k : List AV → SS → R} : RA.toR (RA.exc x S) k = .exc x S := (rfl)
theorem RA_toR_bad {k : List AV → SS → R} : RA.toR RA.bad k = .bad := (rfl)
theorem RA_toI_ok {a : List AV} {S : SS} {k : List AV → SS → RI} : RA.toI (RA.ok a S) k = k a S := (rfl)
theorem RA_toI_exc {x : Exn} {S : SS} {k : List AV → SS → RI} : RA.toI (RA.exc x S) k = .exc x S := (rfl)
theorem RA_toI_bad {k : List AV → SS → RI} : RA.toI RA.bad k = .bad := (rfl)
theorem RB_toR_ok {a : Bool} {S : SS} {k : Bool → SS → R} : RB.toR (RB.ok a S) k = k a S := (rfl)
theorem RB_toR_exc {x : Exn} {S : SS} {k : Bool → SS → R} : RB.toR (RB.exc x S) k = .exc x S := (rfl)
theorem RB_toR_bad {k : Bool → SS → R} : RB.toR RB.bad k = .bad := (rfl)
theorem RB_bind_ok {a : Bool} {S : SS} {k : Bool → SS → RB} : RB.bind (RB.ok a S) k = k a S := (rfl)
theorem RB_bind_exc {x : Exn} {S : SS} {k : Bool → SS → RB} : RB.bind (RB.exc x S) k = .exc x S := (rfl)
theorem RB_bind_bad {k : Bool → SS → RB} : RB.bind RB.bad k = .bad := (rfl)
theorem R_toI_ok {a : AV} {S : SS} {k : AV → SS → RI} : R.toI (R.ok a S) k = k a S := (rfl)
theorem R_toI_exc {x : Exn} {S : SS} {k : AV → SS → RI} : R.toI (R.exc x S) k = .exc x S := (rfl)
theorem R_toI_bad {k : AV → SS → RI} : R.toI R.bad k = .bad := (rfl)
theorem RO_toR_ok {a : Option Int} {S : SS} {k : Option Int → SS → R} : RO.toR (RO.ok a S) k = k a S := (rfl)
theorem RO_toR_exc {x : Exn} {S : SS} {k : Option Int → SS → R} : RO.toR (RO.exc x S) k = .exc x S := (rfl)
theorem RO_toR_bad {k : Option Int → SS → R} : RO.toR RO.bad k = .bad := (rfl)
theorem R_toS_ok {a : AV} {ρ : AE} {S : SS} {k : AV → SS → SR} : R.toS (R.ok a S) ρ k = k a S := (rfl)
theorem R_toS_exc {x : Exn} {ρ : AE} {S : SS} {k : AV → SS → SR} : R.toS (R.exc x S) ρ k = .exc x ρ S := (rfl)
theorem R_toS_bad {ρ : AE} {k : AV → SS → SR} : R.toS R.bad ρ k = .bad := (rfl)
theorem RB_toS_ok {a : Bool} {ρ : AE} {S : SS} {k : Bool → SS → SR} : RB.toS (RB.ok a S) ρ k = k a S := (rfl)
theorem RB_toS_exc {x : Exn} {ρ : AE} {S : SS} {k : Bool → SS → SR} : RB.toS (RB.exc x S) ρ k = .exc x ρ S := (rfl)
theorem RB_toS_bad {ρ : AE} {k : Bool → SS → SR} : RB.toS RB.bad ρ k = .bad := (rfl)
theorem RI_toS_ok {a : List D} {ρ : AE} {S : SS} {k : List D → SS → SR} : RI.toS (RI.ok a S) ρ k = k a S := (rfl)
theorem RI_toS_exc {x : Exn} {ρ : AE} {S : SS} {k : List D → SS → SR} : RI.toS (RI.exc x S) ρ k = .exc x ρ S := (rfl)
theorem RI_toS_bad {ρ : AE} {k : List D → SS → SR} : RI.toS RI.bad ρ k = .bad := (rfl)
theorem sSeq_e {p q : AE → SS → SR} {ρ : AE} {S : SS} : sSeq p q ρ S = SR.seq (p ρ S) q := (rfl)
theorem SR_seq_nx {q : AE → SS → SR} {ρ : AE} {S : SS} : SR.seq (SR.nx ρ S) q = q ρ S := (rfl)
theorem SR_seq_rt {q : AE → SS → SR} {S : SS} {a : AV} : SR.seq (SR.rt a S) q = .rt a S := (rfl)
theorem SR_seq_bk {q : AE → SS → SR} {ρ : AE} {S : SS} : SR.seq (SR.bk ρ S) q = .bk ρ S := (rfl)
theorem SR_seq_ct {q : AE → SS → SR} {ρ : AE} {S : SS} : SR.seq (SR.ct ρ S) q = .ct ρ S := (rfl)
theorem SR_seq_exc {q : AE → SS → SR} {ρ : AE} {S : SS} {x : Exn} : SR.seq (SR.exc x ρ S) q = .exc x ρ S := (rfl)
theorem SR_seq_bad {q : AE → SS → SR} : SR.seq (SR.bad ) q = .bad  := (rfl)
theorem sNx_e {ρ : AE} {S : SS} : sNx ρ S = .nx ρ S := (rfl)
theorem sBk_e {ρ : AE} {S : SS} : sBk ρ S = .bk ρ S := (rfl)
theorem sCt_e {ρ : AE} {S : SS} : sCt ρ S = .ct ρ S := (rfl)
theorem sBad_e {ρ : AE} {S : SS} : sBad ρ S = .bad := (rfl)
theorem sRetN_e {ρ : AE} {S : SS} : sRetN ρ S = .rt (.dat .non) S := (rfl)
def sSetK (i : Nat) (ρ : AE) : AV → SS → SR := fun a S => .nx (ρ.set i (some (fz1 a))) S
theorem sSet_e {i : Nat} {f : AE → SS → R} {ρ : AE} {S : SS} : sSet i f ρ S = R.toS (f ρ S) ρ (sSetK i ρ) := (rfl)
theorem sSetK_e {i : Nat} {ρ : AE} {S : SS} {a : AV} : sSetK i ρ a S = .nx (ρ.set i (some (fz1 a))) S := (rfl)
theorem fz1_d {d : D} : fz1 (.dat d) = .dat d := (rfl)
theorem fz1_o {n : Nat} : fz1 (.own n) = .own n := (rfl)
theorem fz1_n {o : AO} : fz1 (.new o) = .dat o.toD := (rfl)
theorem toD_l {ds : List D} : AO.toD (.lst ds) = .lst ds := (rfl)
theorem toD_d {es : List (Key × D)} : AO.toD (.dct es) = .dct es := (rfl)
theorem toD_f {d : D} : AO.toD (.fz d) = d := (rfl)
theorem live_l {ds : List D} : AO.live (.lst ds) = true := (rfl)
theorem live_d {es : List (Key × D)} : AO.live (.dct es) = true := (rfl)
def sSetOK (i : Nat) (ρ : AE) : AV → SS → SR := fun a S1 => match a with
  | .new o => .nx (ρ.set i (some (.own S1.length))) (S1 ++ [o])
  | a => .nx (ρ.set i (some a)) S1
theorem sSetO_e {i : Nat} {f : AE → SS → R} {ρ : AE} {S : SS} : sSetO i f ρ S = R.toS (f ρ S) ρ (sSetOK i ρ) := (rfl)
theorem sSetOK_n {i : Nat} {ρ : AE} {S : SS} {o : AO} : sSetOK i ρ (.new o) S = .nx (ρ.set i (some (.own S.length))) (S ++ [o]) := (rfl)
theorem sSetOK_d {i : Nat} {ρ : AE} {S : SS} {d : D} : sSetOK i ρ (.dat d) S = .nx (ρ.set i (some (.dat d))) S := (rfl)
theorem sSetOK_o {i n : Nat} {ρ : AE} {S : SS} : sSetOK i ρ (.own n) S = .nx (ρ.set i (some (.own n))) S := (rfl)
def sDropK (ρ : AE) : AV → SS → SR := fun _ S => .nx ρ S
theorem sDrop_e {f : AE → SS → R} {ρ : AE} {S : SS} : sDrop f ρ S = R.toS (f ρ S) ρ (sDropK ρ) := (rfl)
theorem sDropK_e {ρ : AE} {S : SS} {a : AV} : sDropK ρ a S = .nx ρ S := (rfl)
def sRetK : AV → SS → SR := fun a S => .rt a S
theorem sRet_e {f : AE → SS → R} {ρ : AE} {S : SS} : sRet f ρ S = R.toS (f ρ S) ρ sRetK := (rfl)
theorem sRetK_e {S : SS} {a : AV} : sRetK a S = .rt a S := (rfl)
def sIfK (f g : AE → SS → SR) (ρ : AE) : Bool → SS → SR := fun b S1 => match b with
  | true => f ρ S1
  | false => g ρ S1
theorem sIf_e {t : AE → SS → RB} {p q : AE → SS → SR} {ρ : AE} {S : SS} : sIf t p q ρ S = RB.toS (t ρ S) ρ (sIfK p q ρ) := (rfl)
theorem sIfK_t {p q : AE → SS → SR} {ρ : AE} {S : SS} : sIfK p q ρ true S = p ρ S := (rfl)
theorem sIfK_f {p q : AE → SS → SR} {ρ : AE} {S : SS} : sIfK p q ρ false S = q ρ S := (rfl)
def sForK (g : D → AE → Option AE) (f : AE → SS → SR) (ρ : AE) : List D → SS → SR := fun ds S1 => forD (turn g f) ds ρ S1
theorem sFor_e {fi : AE → SS → RI} {g : D → AE → Option AE} {p : AE → SS → SR} {ρ : AE} {S : SS} : sFor fi g p ρ S = RI.toS (fi ρ S) ρ (sForK g p ρ) := (rfl)
theorem sForK_e {g : D → AE → Option AE} {p : AE → SS → SR} {ρ : AE} {S : SS} {ds : List D} : sForK g p ρ ds S = forD (turn g p) ds ρ S := (rfl)
def turnK (f : AE → SS → SR) (S : SS) : Option AE → SR := fun o => match o with
  | some ρ => f ρ S
  | none => .bad
theorem turn_e {g : D → AE → Option AE} {p : AE → SS → SR} {ρ : AE} {S : SS} {d : D} : turn g p d ρ S = turnK p S (g d ρ)  := by unfold turn turnK; rfl
theorem turnK_s {p : AE → SS → SR} {ρ : AE} {S : SS} : turnK p S (some ρ) = p ρ S := (rfl)
theorem gN_e {i : Nat} {d : D} {ρ : AE} : gN i d ρ = some (ρ.set i (some (.dat d))) := (rfl)
theorem gT_e {h : List D → AE → Option AE} {ds : List D} {ρ : AE} : gT h (.tup ds) ρ = h ds ρ := (rfl)
theorem gT_l {h : List D → AE → Option AE} {ds : List D} {ρ : AE} : gT h (.lst ds) ρ = h ds ρ := (rfl)
def gsK (h : List D → AE → Option AE) (ds : List D) : Option AE → Option AE := fun o => match o with
  | some ρ => h ds ρ
  | none => none
theorem gsCons_e {g : D → AE → Option AE} {h : List D → AE → Option AE} {d : D} {ds : List D} {ρ : AE} : gsCons g h (d :: ds) ρ = gsK h ds (g d ρ) := (rfl)
theorem gsK_s {h : List D → AE → Option AE} {ds : List D} {ρ : AE} : gsK h ds (some ρ) = h ds ρ := (rfl)
theorem gsNil_e {ρ : AE} : gsNil [] ρ = some ρ := (rfl)
def sPutK1 (g : AO → D → D → Option AO) (fo fi : AE → SS → R) (ρ : AE) : AV → SS → SR := fun a S1 => match frz a S1 with
  | some (d, S2) => (fo ρ S2).toS ρ fun x S3 => (fi ρ S3).toS ρ fun y S4 => apP g ρ x y d S4
  | none => .bad
def sPutK4 (g : AO → D → D → Option AO) (ρ : AE) (d : D) (x : AV) : AV → SS → SR := fun y S4 => apP g ρ x y d S4
def sPutK3 (g : AO → D → D → Option AO) (fi : AE → SS → R) (ρ : AE) (d : D) : AV → SS → SR := fun x S3 => (fi ρ S3).toS ρ (sPutK4 g ρ d x)
def sPutK2 (g : AO → D → D → Option AO) (fo fi : AE → SS → R) (ρ : AE) : Option (D × SS) → SR := fun z => match z with
  | some (d, S2) => (fo ρ S2).toS ρ (sPutK3 g fi ρ d)
  | none => .bad
theorem sPut_e {g : AO → D → D → Option AO} {fo fi fe : AE → SS → R} {ρ : AE} {S : SS} : sPut g fo fi fe ρ S = R.toS (fe ρ S) ρ (sPutK1 g fo fi ρ) := (rfl)
theorem sPutK1_e {g : AO → D → D → Option AO} {fo fi : AE → SS → R} {ρ : AE} {S : SS} {a : AV} : sPutK1 g fo fi ρ a S = sPutK2 g fo fi ρ (frz a S)  := by unfold sPutK1 sPutK2; rfl
theorem sPutK2_e {g : AO → D → D → Option AO} {fo fi : AE → SS → R} {ρ : AE} {S : SS} {d : D} : sPutK2 g fo fi ρ (some (d, S)) = R.toS (fo ρ S) ρ (sPutK3 g fi ρ d) := (rfl)
theorem sPutK3_e {g : AO → D → D → Option AO} {fi : AE → SS → R} {ρ : AE} {S : SS} {x : AV} {d : D} : sPutK3 g fi ρ d x S = R.toS (fi ρ S) ρ (sPutK4 g ρ d x) := (rfl)
theorem sPutK4_e {g : AO → D → D → Option AO} {ρ : AE} {S : SS} {x y : AV} {d : D} : sPutK4 g ρ d x y S = apP g ρ x y d S := (rfl)
def apPK (g : AO → D → D → Option AO) (ρ : AE) (n : Nat) (d : D) (S : SS) : Option D → Option AO → SR := fun i o => match i with
  | some i => (match o with
    | some o => (match o.live, g o i d with
      | true, some o2 => .nx ρ (S.set n o2)
      | _, _ => .bad)
    | none => .bad)
  | none => .bad
def apPL (ρ : AE) (n : Nat) (S : SS) : Bool → Option AO → SR := fun l o => match l, o with
  | true, some o2 => .nx ρ (S.set n o2)
  | _, _ => .bad
theorem apP_e {g : AO → D → D → Option AO} {ρ : AE} {S : SS} {y : AV} {d : D} {n : Nat} : apP g ρ (.own n) y d S = apPK g ρ n d S (view y S) S[n]?  := by unfold apP apPK; cases view y S <;> rfl
theorem apPK_e {g : AO → D → D → Option AO} {ρ : AE} {S : SS} {d : D} {n : Nat} {o : AO} {i : D} : apPK g ρ n d S (some i) (some o) = apPL ρ n S o.live (g o i d) := (rfl)
theorem apPL_e {ρ : AE} {S : SS} {n : Nat} {o : AO} : apPL ρ n S true (some o) = .nx ρ (S.set n o) := (rfl)
def sUnpK (g : D → AE → Option AE) (ρ : AE) : AV → SS → SR := fun a S1 => match unpV a S1 with
  | some d => (match g d ρ with
    | some ρ2 => .nx ρ2 S1
    | none => .bad)
  | none => .bad
def sUnpL (g : D → AE → Option AE) (ρ : AE) (S1 : SS) : Option D → SR := fun v => match v with
  | some d => (match g d ρ with
    | some ρ2 => .nx ρ2 S1
    | none => .bad)
  | none => .bad
def sUnpM (S1 : SS) : Option AE → SR := fun v => match v with
  | some ρ2 => .nx ρ2 S1
  | none => .bad
theorem sUnp_e {g : D → AE → Option AE} {f : AE → SS → R} {ρ : AE} {S : SS} : sUnp g f ρ S = R.toS (f ρ S) ρ (sUnpK g ρ) := (rfl)
theorem sUnpK_e {g : D → AE → Option AE} {ρ : AE} {S : SS} {a : AV} : sUnpK g ρ a S = sUnpL g ρ S (unpV a S)  := by unfold sUnpK sUnpL; rfl
theorem sUnpL_e {g : D → AE → Option AE} {ρ : AE} {S : SS} : sUnpL g ρ S (some d) = sUnpM S (g d ρ) := (rfl)
theorem unpV_d {S : SS} : unpV (.dat d) S = some d := (rfl)
theorem sUnpM_e {ρ : AE} {S : SS} : sUnpM S (some ρ) = .nx ρ S := (rfl)
def sAugK (i : Nat) (g : D → D → Option D) (ρ : AE) (d : D) : AV → SS → SR := fun y S1 => match view y S1 with
    | some e => (match g d e with
      | some z => .nx (ρ.set i (some (.dat z))) S1
      | none => .bad)
    | none => .bad
def sAugL (i : Nat) (g : D → D → Option D) (ρ : AE) (S1 : SS) (d : D) : Option D → SR := fun v => match v with
    | some e => (match g d e with
      | some z => .nx (ρ.set i (some (.dat z))) S1
      | none => .bad)
    | none => .bad
def sAugM (i : Nat) (ρ : AE) (S1 : SS) : Option D → SR := fun v => match v with
      | some z => .nx (ρ.set i (some (.dat z))) S1
      | none => .bad
def sAugJ (i : Nat) (g : D → D → Option D) (f : AE → SS → R) (ρ : AE) (S : SS) : Option (Option AV) → SR := fun v => match v with
  | some (some (.dat d)) => (f ρ S).toS ρ (sAugK i g ρ d)
  | _ => .bad
theorem sAug_e {i : Nat} {g : D → D → Option D} {f : AE → SS → R} {ρ : AE} {S : SS} : sAug i g f ρ S = sAugJ i g f ρ S ρ[i]?  := by unfold sAug sAugJ; rfl
theorem sAugJ_e {i : Nat} {g : D → D → Option D} {f : AE → SS → R} {ρ : AE} {S : SS} {d : D} : sAugJ i g f ρ S (some (some (.dat d))) = R.toS (f ρ S) ρ (sAugK i g ρ d) := (rfl)
theorem sAugK_e {i : Nat} {g : D → D → Option D} {ρ : AE} {S : SS} {y : AV} {d : D} : sAugK i g ρ d y S = sAugL i g ρ S d (view y S)  := by unfold sAugK sAugL; rfl
theorem sAugL_e {i : Nat} {g : D → D → Option D} {ρ : AE} {S : SS} {d e : D} : sAugL i g ρ S d (some e) = sAugM i ρ S (g d e) := (rfl)
theorem sAugM_e {i : Nat} {ρ : AE} {S : SS} {d : D} : sAugM i ρ S (some d) = .nx (ρ.set i (some (.dat d))) S := (rfl)
theorem clB_0  : clB [] = true := (rfl)
theorem clB_l {ds : List D} {S : SS} : clB (.lst ds :: S) = clB S := (rfl)
theorem clB_d {es : List (Key × D)} {S : SS} : clB (.dct es :: S) = clB S := (rfl)
theorem clB_f {d : D} {S : SS} : clB (.fz d :: S) = clB S := (rfl)
theorem frz_d {d : D} {S : SS} : frz (.dat d) S = some (d, S) := (rfl)
theorem frz_n {o : AO} {S : SS} : frz (.new o) S = some (o.toD, S) := (rfl)
def frzK (n : Nat) (S : SS) : Option AO → Option (D × SS) := fun v => match v with
    | some o => some (o.toD, S.set n (.fz o.toD))
    | none => none
theorem frz_o {n : Nat} {S : SS} : frz (.own n) S = frzK n S S[n]? := (rfl)
theorem frzK_e {n : Nat} {S : SS} {o : AO} : frzK n S (some o) = some (o.toD, S.set n (.fz o.toD)) := (rfl)
def frzsK (as : List AV) : Option (D × SS) → Option (List D × SS) := fun v => match v with
    | some (d, S1) => (match frzs as S1 with
      | some (ds, S2) => some (d :: ds, S2)
      | none => none)
    | none => none
def frzsL (d : D) : Option (List D × SS) → Option (List D × SS) := fun v => match v with
      | some (ds, S2) => some (d :: ds, S2)
      | none => none
theorem frzs_nil {S : SS} : frzs [] S = some ([], S) := (rfl)
theorem frzs_c {a : AV} {as : List AV} {S : SS} : frzs (a :: as) S = frzsK as (frz a S)  := by unfold frzsK; rw [frzs] <;> rfl
theorem frzsK_e {as : List AV} {S : SS} {d : D} : frzsK as (some (d, S)) = frzsL d (frzs as S) := (rfl)
theorem frzsL_e {ds : List D} {S : SS} {d : D} : frzsL d (some (ds, S)) = some (d :: ds, S) := (rfl)
theorem view_d {d : D} {S : SS} : view (.dat d) S = some d := (rfl)
def viewK : Option AO → Option D := fun v => match v with
  | some o => some o.toD
  | none => none
theorem view_o {n : Nat} {S : SS} : view (.own n) S = viewK S[n]?  := by unfold viewK; show Option.map AO.toD S[n]? = _; cases S[n]? <;> rfl
theorem viewK_e {o : AO} : viewK (some o) = some o.toD := (rfl)
theorem view_n {o : AO} {S : SS} : view (.new o) S = some o.toD := (rfl)
def viewsK (as : List AV) (S : SS) : Option D → Option (List D) := fun v => match v with
  | some d => (match views as S with
    | some ds => some (d :: ds)
    | none => none)
  | none => none
def viewsL (d : D) : Option (List D) → Option (List D) := fun v => match v with
    | some ds => some (d :: ds)
    | none => none
theorem views_nil {S : SS} : views [] S = some [] := (rfl)
theorem views_c {a : AV} {as : List AV} {S : SS} : views (a :: as) S = viewsK as S (view a S)  := by unfold viewsK; rw [views]; cases view a S <;> cases views as S <;> rfl
theorem viewsK_e {as : List AV} {S : SS} {d : D} : viewsK as S (some d) = viewsL d (views as S)  := by unfold viewsK viewsL; rfl
theorem viewsL_e {ds : List D} {d : D} : viewsL d (some ds) = some (d :: ds) := (rfl)
def eVarK (S : SS) : Option (Option AV) → R := fun v => match v with
  | some (some (.dat d)) => .ok (.dat d) S
  | some (some (.own n)) => .ok (.own n) S
  | _ => .bad
theorem eVar_e {i : Nat} {ρ : AE} {S : SS} : eVar i ρ S = eVarK S ρ[i]?  := by unfold eVar eVarK; rfl
theorem eVarK_d {S : SS} {d : D} : eVarK S (some (some (.dat d))) = .ok (.dat d) S := (rfl)
theorem eVarK_o {S : SS} {n : Nat} : eVarK S (some (some (.own n))) = .ok (.own n) S := (rfl)
theorem eC_e {d : D} {ρ : AE} {S : SS} : eC d ρ S = .ok (.dat d) S := (rfl)
def apR (S : SS) : Option RD → R := fun v => match v with
    | some z => .ok z.av S
    | none => .bad
theorem apR_d {S : SS} {d : D} : apR S (some (.dt d)) = .ok (.dat d) S := (rfl)
theorem apR_o {S : SS} {o : AO} : apR S (some (.ob o)) = .ok (.new o) S := (rfl)
def ap2V (g : D → D → Option RD) (S : SS) : Option D → Option D → R := fun v w => match v, w with
  | some d, some e => apR S (g d e)
  | _, _ => .bad
theorem ap2_e {g : D → D → Option RD} {a b : AV} {S : SS} : ap2 g a b S = ap2V g S (view a S) (view b S)  := by unfold ap2 ap2V apR; rfl
theorem ap2V_e {g : D → D → Option RD} {d e : D} {S : SS} : ap2V g S (some d) (some e) = apR S (g d e) := (rfl)
def eBinL (g : D → D → Option RD) (a : AV) : AV → SS → R := fun b S => ap2 g a b S
def eBinK (g : D → D → Option RD) (h : AE → SS → R) (ρ : AE) : AV → SS → R := fun x S1 => (h ρ S1).bind (eBinL g x)
theorem eBin_e {g : D → D → Option RD} {f h : AE → SS → R} {ρ : AE} {S : SS} : eBin g f h ρ S = R.bind (f ρ S) (eBinK g h ρ) := (rfl)
theorem eBinK_e {g : D → D → Option RD} {h : AE → SS → R} {ρ : AE} {S : SS} {a : AV} : eBinK g h ρ a S = R.bind (h ρ S) (eBinL g a) := (rfl)
theorem eBinL_e {g : D → D → Option RD} {S : SS} {a b : AV} : eBinL g a b S = ap2 g a b S := (rfl)
def tBinL (g : D → D → Option RD) (a : AV) : AV → SS → RB := fun b S => bl2 g a b S
def tBinK (g : D → D → Option RD) (h : AE → SS → R) (ρ : AE) : AV → SS → RB := fun x S1 => (h ρ S1).toB (tBinL g x)
theorem tBin_e {g : D → D → Option RD} {f h : AE → SS → R} {ρ : AE} {S : SS} : tBin g f h ρ S = R.toB (f ρ S) (tBinK g h ρ) := (rfl)
theorem tBinK_e {g : D → D → Option RD} {h : AE → SS → R} {ρ : AE} {S : SS} {a : AV} : tBinK g h ρ a S = R.toB (h ρ S) (tBinL g a) := (rfl)
theorem tBinL_e {g : D → D → Option RD} {S : SS} {a b : AV} : tBinL g a b S = bl2 g a b S := (rfl)
def blR (S : SS) : Option RD → RB := fun v => match v with
    | some (.dt (.bl b)) => .ok b S
    | _ => .bad
def bl2V (g : D → D → Option RD) (S : SS) : Option D → Option D → RB := fun v w => match v, w with
  | some d, some e => blR S (g d e)
  | _, _ => .bad
theorem bl2_e {g : D → D → Option RD} {S : SS} {a b : AV} : bl2 g a b S = bl2V g S (view a S) (view b S)  := by unfold bl2 bl2V blR; rfl
theorem bl2V_e {g : D → D → Option RD} {S : SS} {d e : D} : bl2V g S (some d) (some e) = blR S (g d e) := (rfl)
theorem blR_e {S : SS} {c : Bool} : blR S (some (.dt (.bl c))) = .ok c S := (rfl)
def un1V (g : D → Option RD) (S : SS) : Option D → R := fun v => match v with
  | some d => apR S (g d)
  | none => .bad
theorem eUn_e {g : D → Option RD} {f : AE → SS → R} {ρ : AE} {S : SS} : eUn g f ρ S = R.bind (f ρ S) (un1 g) := (rfl)
theorem un1_e {g : D → Option RD} {S : SS} {a : AV} : un1 g a S = un1V g S (view a S)  := by unfold un1 un1V apR; rfl
theorem un1V_e {g : D → Option RD} {S : SS} {d : D} : un1V g S (some d) = apR S (g d) := (rfl)
def truV (S : SS) : Option D → RB := fun v => match v with
  | some d => (match truth d with
    | some b => .ok b S
    | none => .bad)
  | none => .bad
def truW (S : SS) : Option Bool → RB := fun v => match v with
    | some b => .ok b S
    | none => .bad
theorem tVal_e {f : AE → SS → R} {ρ : AE} {S : SS} : tVal f ρ S = R.toB (f ρ S) tru := (rfl)
theorem tru_e {S : SS} {a : AV} : tru a S = truV S (view a S)  := by unfold tru truV; rfl
theorem truV_e {S : SS} {d : D} : truV S (some d) = truW S (truth d) := (rfl)
theorem truW_e {S : SS} {c : Bool} : truW S (some c) = .ok c S := (rfl)
theorem truth_n  : truth .non = some false := (rfl)
theorem truth_b {b : Bool} : truth (.bl b) = some b := (rfl)
theorem truth_i {i : Int} : truth (.int i) = some (i != 0) := (rfl)
theorem truth_t {ds : List D} : truth (.tup ds) = some (!ds.isEmpty) := (rfl)
theorem truth_l {ds : List D} : truth (.lst ds) = some (!ds.isEmpty) := (rfl)
def tNtK : Bool → SS → RB := fun b S1 => .ok (!b) S1
theorem tNt_e {t : AE → SS → RB} {ρ : AE} {S : SS} : tNt t ρ S = RB.bind (t ρ S) tNtK := (rfl)
theorem tNtK_e {b : Bool} {S : SS} : tNtK b S = .ok (!b) S := (rfl)
def tAnK (u : AE → SS → RB) (ρ : AE) : Bool → SS → RB := fun b S1 => match b with
  | true => u ρ S1
  | false => .ok false S1
def tOK (u : AE → SS → RB) (ρ : AE) : Bool → SS → RB := fun b S1 => match b with
  | true => .ok true S1
  | false => u ρ S1
theorem tAn_e {t u : AE → SS → RB} {ρ : AE} {S : SS} : tAn t u ρ S = RB.bind (t ρ S) (tAnK u ρ) := (rfl)
theorem tAnK_t {u : AE → SS → RB} {ρ : AE} {S : SS} : tAnK u ρ true S = u ρ S := (rfl)
theorem tAnK_f {u : AE → SS → RB} {ρ : AE} {S : SS} : tAnK u ρ false S = .ok false S := (rfl)
theorem tO_e {t u : AE → SS → RB} {ρ : AE} {S : SS} : tO t u ρ S = RB.bind (t ρ S) (tOK u ρ) := (rfl)
theorem tOK_t {u : AE → SS → RB} {ρ : AE} {S : SS} : tOK u ρ true S = .ok true S := (rfl)
theorem tOK_f {u : AE → SS → RB} {ρ : AE} {S : SS} : tOK u ρ false S = u ρ S := (rfl)
theorem tY_e {ρ : AE} {S : SS} : tY ρ S = .ok true S := (rfl)
def eAndK (h : AE → SS → R) (ρ : AE) : AV → SS → R := fun x S1 => match x with
  | .dat (.bl true) => h ρ S1
  | .dat (.bl false) => .ok (.dat (.bl false)) S1
  | _ => .bad
def eOrK (h : AE → SS → R) (ρ : AE) : AV → SS → R := fun x S1 => match x with
  | .dat (.bl false) => h ρ S1
  | .dat (.bl true) => .ok (.dat (.bl true)) S1
  | _ => .bad
def eNotK : AV → SS → R := fun x S1 => match x with
  | .dat (.bl b) => .ok (.dat (.bl (!b))) S1
  | _ => .bad
theorem eAnd_e {f h : AE → SS → R} {ρ : AE} {S : SS} : eAnd f h ρ S = R.bind (f ρ S) (eAndK h ρ) := (rfl)
theorem eAndK_t {h : AE → SS → R} {ρ : AE} {S : SS} : eAndK h ρ (.dat (.bl true)) S = h ρ S := (rfl)
theorem eAndK_f {h : AE → SS → R} {ρ : AE} {S : SS} : eAndK h ρ (.dat (.bl false)) S = .ok (.dat (.bl false)) S := (rfl)
theorem eOr_e {f h : AE → SS → R} {ρ : AE} {S : SS} : eOr f h ρ S = R.bind (f ρ S) (eOrK h ρ) := (rfl)
theorem eOrK_f {h : AE → SS → R} {ρ : AE} {S : SS} : eOrK h ρ (.dat (.bl false)) S = h ρ S := (rfl)
theorem eOrK_t {h : AE → SS → R} {ρ : AE} {S : SS} : eOrK h ρ (.dat (.bl true)) S = .ok (.dat (.bl true)) S := (rfl)
theorem eNot_e {f : AE → SS → R} {ρ : AE} {S : SS} : eNot f ρ S = R.bind (f ρ S) eNotK := (rfl)
theorem eNotK_e {S : SS} {b : Bool} : eNotK (.dat (.bl b)) S = .ok (.dat (.bl (!b))) S := (rfl)
def eIfK (f h : AE → SS → R) (ρ : AE) : Bool → SS → R := fun b S1 => match b with
  | true => f ρ S1
  | false => h ρ S1
theorem eIf_e {f h : AE → SS → R} {t : AE → SS → RB} {ρ : AE} {S : SS} : eIf t f h ρ S = RB.toR (t ρ S) (eIfK f h ρ) := (rfl)
theorem eIfK_t {f h : AE → SS → R} {ρ : AE} {S : SS} : eIfK f h ρ true S = f ρ S := (rfl)
theorem eIfK_f {f h : AE → SS → R} {ρ : AE} {S : SS} : eIfK f h ρ false S = h ρ S := (rfl)
theorem aNil_e {ρ : AE} {S : SS} : aNil ρ S = .ok [] S := (rfl)
def aConsL (x : AV) : List AV → SS → RA := fun xs S2 => .ok (x :: xs) S2
def aConsK (h : AE → SS → RA) (ρ : AE) : AV → SS → RA := fun x S1 => (h ρ S1).bind (aConsL x)
theorem aCons_e {f : AE → SS → R} {h : AE → SS → RA} {ρ : AE} {S : SS} : aCons f h ρ S = R.toA (f ρ S) (aConsK h ρ) := (rfl)
theorem aConsK_e {h : AE → SS → RA} {ρ : AE} {S : SS} {a : AV} : aConsK h ρ a S = RA.bind (h ρ S) (aConsL a) := (rfl)
theorem aConsL_e {S : SS} {a : AV} {as : List AV} : aConsL a as S = .ok (a :: as) S := (rfl)
def apV (g : List D → Option RD) (S : SS) : Option (List D) → R := fun v => match v with
  | some ds => apR S (g ds)
  | none => .bad
theorem eAp_e {g : List D → Option RD} {f : AE → SS → RA} {ρ : AE} {S : SS} : eAp g f ρ S = RA.toR (f ρ S) (ap g) := (rfl)
theorem ap_e {g : List D → Option RD} {S : SS} {as : List AV} : ap g as S = apV g S (views as S)  := by unfold ap apV apR; rfl
theorem apV_e {g : List D → Option RD} {S : SS} {ds : List D} : apV g S (some ds) = apR S (g ds) := (rfl)
theorem g1_e {g1f : D → Option RD} {d : D} : g1 g1f [d] = g1f d := (rfl)
theorem g2_e {g2f : D → D → Option RD} {d e : D} : g2 g2f [d, e] = g2f d e := (rfl)
def eMtL (g : D → List D → Option RD) (x : AV) : List AV → SS → R := fun as S2 => apM g x as S2
def eMtT (g : D → List D → Option RD) (h : AE → SS → RA) (ρ : AE) (S1 : SS) (x : AV) : Bool → R := fun v => match v with
    | true => (h ρ S1).toR (eMtL g x)
    | false => .bad
def eMtV (T : String) (g : D → List D → Option RD) (h : AE → SS → RA) (ρ : AE) (S1 : SS) (x : AV) : Option D → R := fun v => match v with
  | some d => eMtT g h ρ S1 x (tyD T d)
  | none => .bad
def eMtK (T : String) (g : D → List D → Option RD) (h : AE → SS → RA) (ρ : AE) : AV → SS → R := fun x S1 => eMtV T g h ρ S1 x (view x S1)
theorem eMt_e {T : String} {g : D → List D → Option RD} {f : AE → SS → R} {h : AE → SS → RA} {ρ : AE} {S : SS} : eMt T g f h ρ S = R.bind (f ρ S) (eMtK T g h ρ)  := by unfold eMt eMtK eMtV eMtT eMtL; rfl
theorem eMtK_e {T : String} {g : D → List D → Option RD} {h : AE → SS → RA} {ρ : AE} {S : SS} {a : AV} : eMtK T g h ρ a S = eMtV T g h ρ S a (view a S) := (rfl)
theorem eMtV_e {T : String} {g : D → List D → Option RD} {h : AE → SS → RA} {ρ : AE} {S : SS} {a : AV} {d : D} : eMtV T g h ρ S a (some d) = eMtT g h ρ S a (tyD T d) := (rfl)
theorem eMtT_e {g : D → List D → Option RD} {h : AE → SS → RA} {ρ : AE} {S : SS} {a : AV} : eMtT g h ρ S a true = RA.toR (h ρ S) (eMtL g a) := (rfl)
theorem eMtL_e {g : D → List D → Option RD} {S : SS} {a : AV} {as : List AV} : eMtL g a as S = apM g a as S := (rfl)
def apMV (g : D → List D → Option RD) (S : SS) : Option D → Option (List D) → R := fun v w => match v, w with
  | some d, some ds => apR S (g d ds)
  | _, _ => .bad
theorem apM_e {g : D → List D → Option RD} {S : SS} {a : AV} {as : List AV} : apM g a as S = apMV g S (view a S) (views as S)  := by unfold apM apMV apR; rfl
theorem apMV_e {g : D → List D → Option RD} {S : SS} {d : D} {ds : List D} : apMV g S (some d) (some ds) = apR S (g d ds) := (rfl)
theorem m1_e {d : D} {m1f : D → D → Option RD} {e : D} : m1 m1f d [e] = m1f d e := (rfl)
theorem m0_e {d : D} {m0f : D → Option RD} : m0 m0f d [] = m0f d := (rfl)
theorem tyD_s {s : Str} : tyD "str" (.str s) = true  := by rfl
theorem tyD_l {ds : List D} : tyD "list" (.lst ds) = true  := by rfl
def eMt0T (g : D → List D → Option RD) (S1 : SS) (x : AV) : Bool → R := fun v => match v with
    | true => apM g x [] S1
    | false => .bad
def eMt0V (T : String) (g : D → List D → Option RD) (S1 : SS) (x : AV) : Option D → R := fun v => match v with
  | some d => eMt0T g S1 x (tyD T d)
  | none => .bad
def eMt0K (T : String) (g : D → List D → Option RD) : AV → SS → R := fun x S1 => eMt0V T g S1 x (view x S1)
theorem eMt0_e {T : String} {g : D → List D → Option RD} {f : AE → SS → R} {ρ : AE} {S : SS} : eMt0 T g f ρ S = R.bind (f ρ S) (eMt0K T g)  := by unfold eMt0 eMt0K eMt0V eMt0T; rfl
theorem eMt0K_e {T : String} {g : D → List D → Option RD} {S : SS} {a : AV} : eMt0K T g a S = eMt0V T g S a (view a S) := (rfl)
theorem eMt0V_e {T : String} {g : D → List D → Option RD} {S : SS} {a : AV} {d : D} : eMt0V T g S a (some d) = eMt0T g S a (tyD T d) := (rfl)
theorem eMt0T_e {g : D → List D → Option RD} {S : SS} {a : AV} : eMt0T g S a true = apM g a [] S := (rfl)
def eMuL (g : AO → List D → Option (AO × D)) (n : Nat) : List AV → SS → R := fun as S2 => apU g n as S2
def eMuT (g : AO → List D → Option (AO × D)) (h : AE → SS → RA) (ρ : AE) (S1 : SS) (n : Nat) : Bool → R := fun v => match v with
      | true => (h ρ S1).toR (eMuL g n)
      | false => .bad
def eMuV (T : String) (g : AO → List D → Option (AO × D)) (h : AE → SS → RA) (ρ : AE) (S1 : SS) (n : Nat) : Option AO → R := fun v => match v with
    | some o => eMuT g h ρ S1 n (tyO T o)
    | none => .bad
def eMuK (T : String) (g : AO → List D → Option (AO × D)) (h : AE → SS → RA) (ρ : AE) : AV → SS → R := fun x S1 => match x with
  | .own n => eMuV T g h ρ S1 n S1[n]?
  | _ => .bad
theorem eMu_e {T : String} {g : AO → List D → Option (AO × D)} {f : AE → SS → R} {h : AE → SS → RA} {ρ : AE} {S : SS} : eMu T g f h ρ S = R.bind (f ρ S) (eMuK T g h ρ)  := by unfold eMu eMuK eMuV eMuT eMuL; rfl
theorem eMuK_e {T : String} {g : AO → List D → Option (AO × D)} {h : AE → SS → RA} {ρ : AE} {S : SS} {n : Nat} : eMuK T g h ρ (.own n) S = eMuV T g h ρ S n S[n]? := (rfl)
theorem eMuV_e {T : String} {g : AO → List D → Option (AO × D)} {h : AE → SS → RA} {ρ : AE} {S : SS} {n : Nat} {o : AO} : eMuV T g h ρ S n (some o) = eMuT g h ρ S n (tyO T o) := (rfl)
theorem eMuT_e {g : AO → List D → Option (AO × D)} {h : AE → SS → RA} {ρ : AE} {S : SS} {n : Nat} : eMuT g h ρ S n true = RA.toR (h ρ S) (eMuL g n) := (rfl)
theorem eMuL_e {g : AO → List D → Option (AO × D)} {S : SS} {n : Nat} {as : List AV} : eMuL g n as S = apU g n as S := (rfl)
theorem tyO_l {ds : List D} : tyO "list" (.lst ds) = true  := by rfl
theorem tyO_d {es : List (Key × D)} : tyO "dict" (.dct es) = true  := by rfl
def apUM (n : Nat) (S : SS) : Bool → Option (AO × D) → R := fun l z => match l, z with
      | true, some (o2, d) => .ok (.dat d) (S.set n o2)
      | _, _ => .bad
def apUL (g : AO → List D → Option (AO × D)) (n : Nat) (ds : List D) (S1 : SS) : Option AO → R := fun v => match v with
    | some o => apUM n S1 o.live (g o ds)
    | none => .bad
def apUK (g : AO → List D → Option (AO × D)) (n : Nat) : Option (List D × SS) → R := fun v => match v with
  | some (ds, S1) => apUL g n ds S1 S1[n]?
  | none => .bad
theorem apU_e {g : AO → List D → Option (AO × D)} {S : SS} {n : Nat} {as : List AV} : apU g n as S = apUK g n (frzs as S)  := by unfold apU apUK apUL apUM; rfl
theorem apUK_e {g : AO → List D → Option (AO × D)} {S : SS} {n : Nat} {ds : List D} : apUK g n (some (ds, S)) = apUL g n ds S S[n]? := (rfl)
theorem apUL_e {g : AO → List D → Option (AO × D)} {S : SS} {n : Nat} {o : AO} {ds : List D} : apUL g n ds S (some o) = apUM n S o.live (g o ds) := (rfl)
theorem apUM_e {S : SS} {n : Nat} {o : AO} {d : D} : apUM n S true (some (o, d)) = .ok (.dat d) (S.set n o) := (rfl)
theorem u1_e {o : AO} {d : D} {u1f : AO → D → Option (AO × D)} : u1 u1f o [d] = u1f o d := (rfl)
theorem u0_e {o : AO} {u0f : AO → Option (AO × D)} : u0 u0f o [] = u0f o := (rfl)
def eMu0T (g : AO → List D → Option (AO × D)) (S1 : SS) (n : Nat) : Bool → R := fun v => match v with
      | true => apU g n [] S1
      | false => .bad
def eMu0V (T : String) (g : AO → List D → Option (AO × D)) (S1 : SS) (n : Nat) : Option AO → R := fun v => match v with
    | some o => eMu0T g S1 n (tyO T o)
    | none => .bad
def eMu0K (T : String) (g : AO → List D → Option (AO × D)) : AV → SS → R := fun x S1 => match x with
  | .own n => eMu0V T g S1 n S1[n]?
  | _ => .bad
theorem eMu0_e {T : String} {g : AO → List D → Option (AO × D)} {f : AE → SS → R} {ρ : AE} {S : SS} : eMu0 T g f ρ S = R.bind (f ρ S) (eMu0K T g)  := by unfold eMu0 eMu0K eMu0V eMu0T; rfl
theorem eMu0K_e {T : String} {g : AO → List D → Option (AO × D)} {S : SS} {n : Nat} : eMu0K T g (.own n) S = eMu0V T g S n S[n]? := (rfl)
theorem eMu0V_e {T : String} {g : AO → List D → Option (AO × D)} {S : SS} {n : Nat} {o : AO} : eMu0V T g S n (some o) = eMu0T g S n (tyO T o) := (rfl)
theorem eMu0T_e {g : AO → List D → Option (AO × D)} {S : SS} {n : Nat} : eMu0T g S n true = apU g n [] S := (rfl)
def mkTK : Option (List D × SS) → R := fun v => match v with
  | some (ds, S2) => (match decide (ds.length ≤ line) with
    | true => .ok (.dat (.tup ds)) S2
    | false => .bad)
  | none => .bad
def mkLK : Option (List D × SS) → R := fun v => match v with
  | some (ds, S2) => (match decide (ds.length ≤ line) with
    | true => .ok (.new (.lst ds)) S2
    | false => .bad)
  | none => .bad
theorem eTup_e {f : AE → SS → RA} {ρ : AE} {S : SS} : eTup f ρ S = RA.toR (f ρ S) mkT := (rfl)
theorem eLst_e {f : AE → SS → RA} {ρ : AE} {S : SS} : eLst f ρ S = RA.toR (f ρ S) mkL := (rfl)
theorem mkT_e {S : SS} {as : List AV} : mkT as S = mkTK (frzs as S)  := by unfold mkT mkTK; rfl
theorem mkL_e {S : SS} {as : List AV} : mkL as S = mkLK (frzs as S)  := by unfold mkL mkLK; rfl
theorem mkTK_e {S : SS} {ds : List D} (h : ds.length ≤ line) : mkTK (some (ds, S)) = .ok (.dat (.tup ds)) S := by
  show (match decide (ds.length ≤ line) with | true => R.ok (.dat (.tup ds)) S | false => .bad) = _
  rw [decide_eq_true h]
theorem mkLK_e {S : SS} {ds : List D} (h : ds.length ≤ line) : mkLK (some (ds, S)) = .ok (.new (.lst ds)) S := by
  show (match decide (ds.length ≤ line) with | true => R.ok (.new (.lst ds)) S | false => .bad) = _
  rw [decide_eq_true h]
theorem mkTK_0 {S : SS} : mkTK (some ([], S)) = .ok (.dat (.tup [])) S  := mkTK_e (by decide)
theorem mkLK_0 {S : SS} : mkLK (some ([], S)) = .ok (.new (.lst [])) S  := mkLK_e (by decide)
theorem mkTK_1 {d0 : D} {S : SS} : mkTK (some ([d0], S)) = .ok (.dat (.tup [d0])) S  := mkTK_e (Nat.le_of_ble_eq_true rfl)
theorem mkLK_1 {d0 : D} {S : SS} : mkLK (some ([d0], S)) = .ok (.new (.lst [d0])) S  := mkLK_e (Nat.le_of_ble_eq_true rfl)
theorem mkTK_2 {d0 d1 : D} {S : SS} : mkTK (some ([d0, d1], S)) = .ok (.dat (.tup [d0, d1])) S  := mkTK_e (Nat.le_of_ble_eq_true rfl)
theorem mkLK_2 {d0 d1 : D} {S : SS} : mkLK (some ([d0, d1], S)) = .ok (.new (.lst [d0, d1])) S  := mkLK_e (Nat.le_of_ble_eq_true rfl)
theorem mkTK_3 {d0 d1 d2 : D} {S : SS} : mkTK (some ([d0, d1, d2], S)) = .ok (.dat (.tup [d0, d1, d2])) S  := mkTK_e (Nat.le_of_ble_eq_true rfl)
theorem mkLK_3 {d0 d1 d2 : D} {S : SS} : mkLK (some ([d0, d1, d2], S)) = .ok (.new (.lst [d0, d1, d2])) S  := mkLK_e (Nat.le_of_ble_eq_true rfl)
theorem mkTK_4 {d0 d1 d2 d3 : D} {S : SS} : mkTK (some ([d0, d1, d2, d3], S)) = .ok (.dat (.tup [d0, d1, d2, d3])) S  := mkTK_e (Nat.le_of_ble_eq_true rfl)
theorem mkLK_4 {d0 d1 d2 d3 : D} {S : SS} : mkLK (some ([d0, d1, d2, d3], S)) = .ok (.new (.lst [d0, d1, d2, d3])) S  := mkLK_e (Nat.le_of_ble_eq_true rfl)
theorem mkTK_5 {d0 d1 d2 d3 d4 : D} {S : SS} : mkTK (some ([d0, d1, d2, d3, d4], S)) = .ok (.dat (.tup [d0, d1, d2, d3, d4])) S  := mkTK_e (Nat.le_of_ble_eq_true rfl)
theorem mkLK_5 {d0 d1 d2 d3 d4 : D} {S : SS} : mkLK (some ([d0, d1, d2, d3, d4], S)) = .ok (.new (.lst [d0, d1, d2, d3, d4])) S  := mkLK_e (Nat.le_of_ble_eq_true rfl)
theorem mkTK_6 {d0 d1 d2 d3 d4 d5 : D} {S : SS} : mkTK (some ([d0, d1, d2, d3, d4, d5], S)) = .ok (.dat (.tup [d0, d1, d2, d3, d4, d5])) S  := mkTK_e (Nat.le_of_ble_eq_true rfl)
theorem mkLK_6 {d0 d1 d2 d3 d4 d5 : D} {S : SS} : mkLK (some ([d0, d1, d2, d3, d4, d5], S)) = .ok (.new (.lst [d0, d1, d2, d3, d4, d5])) S  := mkLK_e (Nat.le_of_ble_eq_true rfl)
theorem mkTK_7 {d0 d1 d2 d3 d4 d5 d6 : D} {S : SS} : mkTK (some ([d0, d1, d2, d3, d4, d5, d6], S)) = .ok (.dat (.tup [d0, d1, d2, d3, d4, d5, d6])) S  := mkTK_e (Nat.le_of_ble_eq_true rfl)
theorem mkLK_7 {d0 d1 d2 d3 d4 d5 d6 : D} {S : SS} : mkLK (some ([d0, d1, d2, d3, d4, d5, d6], S)) = .ok (.new (.lst [d0, d1, d2, d3, d4, d5, d6])) S  := mkLK_e (Nat.le_of_ble_eq_true rfl)
theorem mkTK_8 {d0 d1 d2 d3 d4 d5 d6 d7 : D} {S : SS} : mkTK (some ([d0, d1, d2, d3, d4, d5, d6, d7], S)) = .ok (.dat (.tup [d0, d1, d2, d3, d4, d5, d6, d7])) S  := mkTK_e (Nat.le_of_ble_eq_true rfl)
theorem mkLK_8 {d0 d1 d2 d3 d4 d5 d6 d7 : D} {S : SS} : mkLK (some ([d0, d1, d2, d3, d4, d5, d6, d7], S)) = .ok (.new (.lst [d0, d1, d2, d3, d4, d5, d6, d7])) S  := mkLK_e (Nat.le_of_ble_eq_true rfl)
def oSomeK : R → RO := fun r => match r with | .ok (.dat (.int i)) S => .ok (some i) S | .exc x S => .exc x S | _ => .bad
theorem oNone_e {ρ : AE} {S : SS} : oNone ρ S = .ok none S := (rfl)
theorem oSome_e {f : AE → SS → R} {ρ : AE} {S : SS} : oSome f ρ S = oSomeK (f ρ S)  := by unfold oSome R.toO oSomeK; rfl
theorem oSomeK_e {i : Int} {S : SS} : oSomeK (.ok (.dat (.int i)) S) = .ok (some i) S := (rfl)
def apSV (g : D → Option Int → Option Int → Option RD) (lo hi : Option Int) (S : SS) : Option D → R := fun v => match v with
  | some d => apR S (g d lo hi)
  | none => .bad
def eSlM (g : D → Option Int → Option Int → Option RD) (x : AV) (lo : Option Int) : Option Int → SS → R := fun hi S3 => apS g x lo hi S3
def eSlL (g : D → Option Int → Option Int → Option RD) (h : AE → SS → RO) (ρ : AE) (x : AV) : Option Int → SS → R := fun lo S2 => (h ρ S2).toR (eSlM g x lo)
def eSlK (g : D → Option Int → Option Int → Option RD) (l h : AE → SS → RO) (ρ : AE) : AV → SS → R := fun x S1 => (l ρ S1).toR (eSlL g h ρ x)
theorem eSl_e {g : D → Option Int → Option Int → Option RD} {f : AE → SS → R} {l h : AE → SS → RO} {ρ : AE} {S : SS} : eSl g f l h ρ S = R.bind (f ρ S) (eSlK g l h ρ) := (rfl)
theorem eSlK_e {g : D → Option Int → Option Int → Option RD} {l h : AE → SS → RO} {ρ : AE} {S : SS} {a : AV} : eSlK g l h ρ a S = RO.toR (l ρ S) (eSlL g h ρ a) := (rfl)
theorem eSlL_e {g : D → Option Int → Option Int → Option RD} {h : AE → SS → RO} {ρ : AE} {S : SS} {a : AV} {lo : Option Int} : eSlL g h ρ a lo S = RO.toR (h ρ S) (eSlM g a lo) := (rfl)
theorem eSlM_e {g : D → Option Int → Option Int → Option RD} {S : SS} {a : AV} {lo hi : Option Int} : eSlM g a lo hi S = apS g a lo hi S := (rfl)
theorem apS_e {g : D → Option Int → Option Int → Option RD} {S : SS} {a : AV} {lo hi : Option Int} : apS g a lo hi S = apSV g lo hi S (view a S)  := by unfold apS apSV apR; rfl
theorem apSV_e {g : D → Option Int → Option Int → Option RD} {S : SS} {lo hi : Option Int} {d : D} : apSV g lo hi S (some d) = apR S (g d lo hi) := (rfl)
def iSeqL (S : SS) : Option (List D) → RI := fun v => match v with
    | some ds => .ok ds S
    | none => .bad
def iSeqV : Option (D × SS) → RI := fun v => match v with
  | some (d, S2) => iSeqL S2 (itemsD d)
  | none => .bad
def iSeqK : AV → SS → RI := fun a S1 => iSeqV (frz a S1)
theorem iSeq_e {f : AE → SS → R} {ρ : AE} {S : SS} : iSeq f ρ S = R.toI (f ρ S) iSeqK  := by unfold iSeq iSeqK iSeqV iSeqL; rfl
theorem iSeqK_e {S : SS} {a : AV} : iSeqK a S = iSeqV (frz a S) := (rfl)
theorem iSeqV_e {S : SS} {d : D} : iSeqV (some (d, S)) = iSeqL S (itemsD d) := (rfl)
theorem iSeqL_e {S : SS} {ds : List D} : iSeqL S (some ds) = .ok ds S := (rfl)
theorem items_l {ds : List D} : itemsD (.lst ds) = some ds := (rfl)
theorem items_t {ds : List D} : itemsD (.tup ds) = some ds := (rfl)
theorem items_s {s : Str} : itemsD (.str s) = some (chars s) := (rfl)
theorem iRange_e {fa : AE → SS → RA} {ρ : AE} {S : SS} : iRange fa ρ S = RA.toI (fa ρ S) iRg := (rfl)
theorem iRg_1 {j : Int} {S : SS} (h1 : -4611686018427387904 ≤ j) (h2 : j < 4611686018427387904) : iRg [.dat (.int j)] S = .ok (rangeD 0 1 j.toNat) S := by
  show (match rangeB j with | true => RI.ok (rangeD 0 1 j.toNat) S | false => .bad) = _
  have e : rangeB j = true := by unfold rangeB; rw [decide_eq_true h1, decide_eq_true h2]; rfl
  rw [e]
theorem gAdd_ii {i j : Int} : gAdd (.int i) (.int j) = some (.dt (.int (i + j))) := (rfl)
theorem gSub_ii {i j : Int} : gSub (.int i) (.int j) = some (.dt (.int (i - j))) := (rfl)
theorem gNeg_i {i : Int} : gNeg (.int i) = some (.dt (.int (-i))) := (rfl)
theorem gAbs_i {i : Int} : gAbs (.int i) = some (.dt (.int (if i < 0 then -i else i))) := (rfl)
theorem gInt_i {i : Int} : gInt (.int i) = some (.dt (.int i)) := (rfl)
theorem gAdd_ss {s t : Str} (h : s.length + t.length ≤ line) : gAdd (.str s) (.str t) = some (.dt (.str (s ++ t))) := by
  dsimp only [gAdd]
  rw [ble_of h]
theorem gMod_ii {i j : Int} (h : 0 < j) : gMod (.int i) (.int j) = some (.dt (.int (i % j))) := by
  dsimp only [gMod]
  rw [decide_eq_true h]
theorem gDiv_ii {i j : Int} (h : divOk j = true) : gDiv (.int i) (.int j) = some (.dt (.int (i / j))) := by
  dsimp only [gDiv]
  rw [h]
theorem gMul_ii {i j : Int} (h : mulOk i j = true) : gMul (.int i) (.int j) = some (.dt (.int (i * j))) := by
  dsimp only [gMul]
  rw [h]
theorem gLt_ii {i j : Int} : gLt (.int i) (.int j) = some (.dt (.bl (decide (i < j)))) := (rfl)
theorem gLt_ss {s t : Str} : gLt (.str s) (.str t) = some (.dt (.bl (decide (s.cps.toList < t.cps.toList)))) := (rfl)
theorem gLe_ii {i j : Int} : gLe (.int i) (.int j) = some (.dt (.bl (decide (i ≤ j)))) := (rfl)
theorem gLe_ss {s t : Str} : gLe (.str s) (.str t) = some (.dt (.bl (!decide (t.cps.toList < s.cps.toList)))) := (rfl)
theorem gGt_ii {i j : Int} : gGt (.int i) (.int j) = some (.dt (.bl (decide (j < i)))) := (rfl)
theorem gGt_ss {s t : Str} : gGt (.str s) (.str t) = some (.dt (.bl (decide (t.cps.toList < s.cps.toList)))) := (rfl)
theorem gGe_ii {i j : Int} : gGe (.int i) (.int j) = some (.dt (.bl (decide (j ≤ i)))) := (rfl)
theorem gGe_ss {s t : Str} : gGe (.str s) (.str t) = some (.dt (.bl (!decide (s.cps.toList < t.cps.toList)))) := (rfl)
theorem gEq_ii {i j : Int} : gEq (.int i) (.int j) = some (.dt (.bl (decide (i = j)))) := (rfl)
theorem gNe_ii {i j : Int} : gNe (.int i) (.int j) = some (.dt (.bl (!decide (i = j)))) := (rfl)
theorem gEq_ss {i j : Str} : gEq (.str i) (.str j) = some (.dt (.bl (decide (i = j)))) := (rfl)
theorem gNe_ss {i j : Str} : gNe (.str i) (.str j) = some (.dt (.bl (!decide (i = j)))) := (rfl)
theorem gLen_l {ds : List D} : gLen (.lst ds) = some (.dt (.int ds.length)) := (rfl)
theorem gLen_t {ds : List D} : gLen (.tup ds) = some (.dt (.int ds.length)) := (rfl)
theorem gLen_s {s : Str} (h : s.length ≤ line) : gLen (.str s) = some (.dt (.int s.length)) := by
  dsimp only [gLen]
  rw [ble_of h]
theorem gList_s {ns : List Int} : gList (.scr ns) = some (.ob (.lst (ns.map D.int))) := (rfl)
theorem gList_l {ds : List D} : gList (.lst ds) = some (.ob (.lst ds)) := (rfl)
theorem gList_t {ds : List D} : gList (.tup ds) = some (.ob (.lst ds)) := (rfl)
theorem gTuple_l {ds : List D} : gTuple (.lst ds) = some (.dt (.tup ds)) := (rfl)
theorem gTuple_t {ds : List D} : gTuple (.tup ds) = some (.dt (.tup ds)) := (rfl)
def optD : Option D → Option RD := fun v => match v with
  | some d => some (.dt d)
  | none => none
theorem gIx_l {ds : List D} {i : Int} : gIx (.lst ds) (.int i) = optD (atI ds i)  := by show Option.map RD.dt (atI ds i) = _; cases atI ds i <;> rfl
theorem gIx_t {ds : List D} {i : Int} : gIx (.tup ds) (.int i) = optD (atI ds i)  := by show Option.map RD.dt (atI ds i) = _; cases atI ds i <;> rfl
theorem optD_e {d : D} : optD (some d) = some (.dt d) := (rfl)
theorem atI_lit {α : Type} {xs : List α} {n : Nat} : atI xs (no_index (@OfNat.ofNat Int n instOfNat)) = xs[n]? := by
  show atI xs ((n : Nat) : Int) = _
  cases h : xs[n]? with
  | some x => exact atI_nat h
  | none =>
    have hl := List.getElem?_eq_none_iff.mp h
    unfold atI ixN
    rw [if_pos (by omega), if_neg (by omega)]
    rfl
def gSetLK (ds : List D) (d : D) : Option Nat → Option AO := fun v => match v with
    | some j => some (.lst (ds.set j d))
    | none => none
theorem gSet_l {ds : List D} {k : Int} {d : D} : gSet (.lst ds) (.int k) d = gSetLK ds d (ixN ds.length k) := (rfl)
theorem gSetLK_e {ds : List D} {j : Nat} {d : D} : gSetLK ds d (some j) = some (.lst (ds.set j d)) := (rfl)
theorem ixN_lit {n m : Nat} (h : m < n) : ixN n (no_index (@OfNat.ofNat Int m instOfNat)) = some m := by
  show ixN n ((m : Nat) : Int) = _
  unfold ixN
  rw [if_pos (by omega), if_pos (by omega)]
  simp
theorem gAppend_l {ds : List D} {d : D} (h : ds.length < line) : gAppend (.lst ds) d = some (.lst (ds ++ [d]), .non) := by
  dsimp only [gAppend]
  rw [blt_of h]
end Ew

set_option Elab.async false
set_option linter.all false
set_option maxRecDepth 100000
set_option maxHeartbeats 4000000
namespace Ew
open PySem PySem.Spec PyProof.Rows L2
local macro_rules | `(tactic| nomatch "e", $ts,*) => `(tactic| simp only [R_bind_ok, R_bind_exc, R_bind_bad, R_toB_ok, R_toB_exc, R_toB_bad, R_toA_ok, R_toA_exc, R_toA_bad, RA_bind_ok, RA_bind_exc, RA_bind_bad, RA_toR_ok, RA_toR_exc, RA_toR_bad, RA_toI_ok, RA_toI_exc, RA_toI_bad, RB_toR_ok, RB_toR_exc, RB_toR_bad, RB_bind_ok, RB_bind_exc, RB_bind_bad, R_toI_ok, R_toI_exc, R_toI_bad, RO_toR_ok, RO_toR_exc, RO_toR_bad, R_toS_ok, R_toS_exc, R_toS_bad, RB_toS_ok, RB_toS_exc, RB_toS_bad, RI_toS_ok, RI_toS_exc, RI_toS_bad, sSeq_e, SR_seq_nx, SR_seq_rt, SR_seq_bk, SR_seq_ct, SR_seq_exc, SR_seq_bad, sNx_e, sBk_e, sCt_e, sBad_e, sRetN_e, sSet_e, sSetK_e, fz1_d, fz1_o, fz1_n, toD_l, toD_d, toD_f, live_l, live_d, sSetO_e, sSetOK_n, sSetOK_d, sSetOK_o, sDrop_e, sDropK_e, sRet_e, sRetK_e, sIf_e, sIfK_t, sIfK_f, sFor_e, sForK_e, turn_e, turnK_s, gN_e, gT_e, gT_l, gsCons_e, gsK_s, gsNil_e, sPut_e, sPutK1_e, sPutK2_e, sPutK3_e, sPutK4_e, apP_e, apPK_e, apPL_e, sUnp_e, sUnpK_e, sUnpL_e, unpV_d, sUnpM_e, sAug_e, sAugJ_e, sAugK_e, sAugL_e, sAugM_e, clB_0, clB_l, clB_d, clB_f, frz_d, frz_n, frz_o, frzK_e, frzs_nil, frzs_c, frzsK_e, frzsL_e, view_d, view_o, viewK_e, view_n, views_nil, views_c, viewsK_e, viewsL_e, eVar_e, eVarK_d, eVarK_o, eC_e, apR_d, apR_o, ap2_e, ap2V_e, eBin_e, eBinK_e, eBinL_e, tBin_e, tBinK_e, tBinL_e, bl2_e, bl2V_e, blR_e, eUn_e, un1_e, un1V_e, tVal_e, tru_e, truV_e, truW_e, truth_n, truth_b, truth_i, truth_t, truth_l, tNt_e, tNtK_e, tAn_e, tAnK_t, tAnK_f, tO_e, tOK_t, tOK_f, tY_e, eAnd_e, eAndK_t, eAndK_f, eOr_e, eOrK_f, eOrK_t, eNot_e, eNotK_e, eIf_e, eIfK_t, eIfK_f, aNil_e, aCons_e, aConsK_e, aConsL_e, eAp_e, ap_e, apV_e, g1_e, g2_e, eMt_e, eMtK_e, eMtV_e, eMtT_e, eMtL_e, apM_e, apMV_e, m1_e, m0_e, tyD_s, tyD_l, eMt0_e, eMt0K_e, eMt0V_e, eMt0T_e, eMu_e, eMuK_e, eMuV_e, eMuT_e, eMuL_e, tyO_l, tyO_d, apU_e, apUK_e, apUL_e, apUM_e, u1_e, u0_e, eMu0_e, eMu0K_e, eMu0V_e, eMu0T_e, eTup_e, eLst_e, mkT_e, mkL_e, mkTK_0, mkLK_0, mkTK_1, mkLK_1, mkTK_2, mkLK_2, mkTK_3, mkLK_3, mkTK_4, mkLK_4, mkTK_5, mkLK_5, mkTK_6, mkLK_6, mkTK_7, mkLK_7, mkTK_8, mkLK_8, oNone_e, oSome_e, oSomeK_e, eSl_e, eSlK_e, eSlL_e, eSlM_e, apS_e, apSV_e, iSeq_e, iSeqK_e, iSeqV_e, iSeqL_e, items_l, items_t, items_s, iRange_e, gAdd_ii, gSub_ii, gNeg_i, gAbs_i, gInt_i, gLt_ii, gLt_ss, gLe_ii, gLe_ss, gGt_ii, gGt_ss, gGe_ii, gGe_ss, gEq_ii, gNe_ii, gEq_ss, gNe_ss, gLen_l, gLen_t, gList_s, gList_l, gList_t, gTuple_l, gTuple_t, gIx_l, gIx_t, optD_e, atI_lit, gSet_l, gSetLK_e, List.getElem?_cons_zero, List.getElem?_cons_succ, List.getElem?_nil, List.set_cons_zero, List.set_cons_succ, List.length_cons, List.length_nil, List.map_cons, List.map_nil, List.cons_append, List.nil_append, Nat.zero_add, Nat.add_zero, Nat.reduceAdd, Nat.reduceSub, Nat.sub_self, Nat.reduceLT, Nat.reduceLeDiff, Int.reduceLT, Int.reduceLE, Int.reduceNeg, Int.reduceEq, decide_true, decide_false, ixN_lit, List.set_nil, List.replicate, Int.reduceAdd, Int.reduceSub, reduceCtorEq, Bool.not_true, Bool.not_false, List.take_succ_cons, List.take_zero, List.take_nil, retS, cutR, cutX, $[$ts:term],*])
local macro_rules | `(tactic| nomatch "e") => `(tactic| simp only [R_bind_ok, R_bind_exc, R_bind_bad, R_toB_ok, R_toB_exc, R_toB_bad, R_toA_ok, R_toA_exc, R_toA_bad, RA_bind_ok, RA_bind_exc, RA_bind_bad, RA_toR_ok, RA_toR_exc, RA_toR_bad, RA_toI_ok, RA_toI_exc, RA_toI_bad, RB_toR_ok, RB_toR_exc, RB_toR_bad, RB_bind_ok, RB_bind_exc, RB_bind_bad, R_toI_ok, R_toI_exc, R_toI_bad, RO_toR_ok, RO_toR_exc, RO_toR_bad, R_toS_ok, R_toS_exc, R_toS_bad, RB_toS_ok, RB_toS_exc, RB_toS_bad, RI_toS_ok, RI_toS_exc, RI_toS_bad, sSeq_e, SR_seq_nx, SR_seq_rt, SR_seq_bk, SR_seq_ct, SR_seq_exc, SR_seq_bad, sNx_e, sBk_e, sCt_e, sBad_e, sRetN_e, sSet_e, sSetK_e, fz1_d, fz1_o, fz1_n, toD_l, toD_d, toD_f, live_l, live_d, sSetO_e, sSetOK_n, sSetOK_d, sSetOK_o, sDrop_e, sDropK_e, sRet_e, sRetK_e, sIf_e, sIfK_t, sIfK_f, sFor_e, sForK_e, turn_e, turnK_s, gN_e, gT_e, gT_l, gsCons_e, gsK_s, gsNil_e, sPut_e, sPutK1_e, sPutK2_e, sPutK3_e, sPutK4_e, apP_e, apPK_e, apPL_e, sUnp_e, sUnpK_e, sUnpL_e, unpV_d, sUnpM_e, sAug_e, sAugJ_e, sAugK_e, sAugL_e, sAugM_e, clB_0, clB_l, clB_d, clB_f, frz_d, frz_n, frz_o, frzK_e, frzs_nil, frzs_c, frzsK_e, frzsL_e, view_d, view_o, viewK_e, view_n, views_nil, views_c, viewsK_e, viewsL_e, eVar_e, eVarK_d, eVarK_o, eC_e, apR_d, apR_o, ap2_e, ap2V_e, eBin_e, eBinK_e, eBinL_e, tBin_e, tBinK_e, tBinL_e, bl2_e, bl2V_e, blR_e, eUn_e, un1_e, un1V_e, tVal_e, tru_e, truV_e, truW_e, truth_n, truth_b, truth_i, truth_t, truth_l, tNt_e, tNtK_e, tAn_e, tAnK_t, tAnK_f, tO_e, tOK_t, tOK_f, tY_e, eAnd_e, eAndK_t, eAndK_f, eOr_e, eOrK_f, eOrK_t, eNot_e, eNotK_e, eIf_e, eIfK_t, eIfK_f, aNil_e, aCons_e, aConsK_e, aConsL_e, eAp_e, ap_e, apV_e, g1_e, g2_e, eMt_e, eMtK_e, eMtV_e, eMtT_e, eMtL_e, apM_e, apMV_e, m1_e, m0_e, tyD_s, tyD_l, eMt0_e, eMt0K_e, eMt0V_e, eMt0T_e, eMu_e, eMuK_e, eMuV_e, eMuT_e, eMuL_e, tyO_l, tyO_d, apU_e, apUK_e, apUL_e, apUM_e, u1_e, u0_e, eMu0_e, eMu0K_e, eMu0V_e, eMu0T_e, eTup_e, eLst_e, mkT_e, mkL_e, mkTK_0, mkLK_0, mkTK_1, mkLK_1, mkTK_2, mkLK_2, mkTK_3, mkLK_3, mkTK_4, mkLK_4, mkTK_5, mkLK_5, mkTK_6, mkLK_6, mkTK_7, mkLK_7, mkTK_8, mkLK_8, oNone_e, oSome_e, oSomeK_e, eSl_e, eSlK_e, eSlL_e, eSlM_e, apS_e, apSV_e, iSeq_e, iSeqK_e, iSeqV_e, iSeqL_e, items_l, items_t, items_s, iRange_e, gAdd_ii, gSub_ii, gNeg_i, gAbs_i, gInt_i, gLt_ii, gLt_ss, gLe_ii, gLe_ss, gGt_ii, gGt_ss, gGe_ii, gGe_ss, gEq_ii, gNe_ii, gEq_ss, gNe_ss, gLen_l, gLen_t, gList_s, gList_l, gList_t, gTuple_l, gTuple_t, gIx_l, gIx_t, optD_e, atI_lit, gSet_l, gSetLK_e, List.getElem?_cons_zero, List.getElem?_cons_succ, List.getElem?_nil, List.set_cons_zero, List.set_cons_succ, List.length_cons, List.length_nil, List.map_cons, List.map_nil, List.cons_append, List.nil_append, Nat.zero_add, Nat.add_zero, Nat.reduceAdd, Nat.reduceSub, Nat.sub_self, Nat.reduceLT, Nat.reduceLeDiff, Int.reduceLT, Int.reduceLE, Int.reduceNeg, Int.reduceEq, decide_true, decide_false, ixN_lit, List.set_nil, List.replicate, Int.reduceAdd, Int.reduceSub, reduceCtorEq, Bool.not_true, Bool.not_false, List.take_succ_cons, List.take_zero, List.take_nil, retS, cutR, cutX])

/-! ### reckoning with mirrors: the draws of a law -/
/-- the state of a law's draws -/
structure Sta where
  cells : List Int
  i : Int
  c : Int
  s : Int
def Sta.ao (st : Sta) : AO := .lst [.lst (st.cells.map D.int), .int st.i, .int st.c, .int st.s]
theorem clB_ao {st : Sta} {S : SS} : clB (st.ao :: S) = clB S := rfl
theorem Sta.ao_e {st : Sta} : st.ao = .lst [.lst (st.cells.map D.int), .int st.i, .int st.c, .int st.s] := rfl
def b_law_draw : AE → SS → SR :=
(sSeq (sPut gSet (eVar 0) (eC (.int 3)) (eBin gAdd (eBin gIx (eVar 0) (eC (.int 3))) (eC (.int 1))))
(sSeq (sIf (tBin gGt (eBin gIx (eVar 0) (eC (.int 2))) (eC (.int 0))) (sSeq (sSet 2 (eBin gMod (eAp (g1 gInt) (aCons (eBin gIx (eVar 0) (eC (.int 2))) aNil)) (eVar 1)))
(sSeq (sPut gSet (eVar 0) (eC (.int 2)) (eBin gDiv (eBin gIx (eVar 0) (eC (.int 2))) (eVar 1)))
(sRet (eVar 2))))
sNx)
(sSeq (sSet 3 (eC (.int 0)))
(sSeq (sIf (tBin gGt (eAp (g1 gLen) (aCons (eBin gIx (eVar 0) (eC (.int 0))) aNil)) (eC (.int 0))) (sSet 3 (eAp (g1 gAbs) (aCons (eBin gIx (eBin gIx (eVar 0) (eC (.int 0))) (eBin gMod (eAp (g1 gInt) (aCons (eBin gIx (eVar 0) (eC (.int 1))) aNil)) (eAp (g1 gLen) (aCons (eBin gIx (eVar 0) (eC (.int 0))) aNil)))) aNil)))
sNx)
(sSeq (sPut gSet (eVar 0) (eC (.int 1)) (eBin gAdd (eBin gIx (eVar 0) (eC (.int 1))) (eC (.int 1))))
(sSeq (sIf (tBin gGe (eVar 3) (eBin gPow (eC (.int 10)) (eC (.int 18)))) (sSeq (sPut gSet (eVar 0) (eC (.int 2)) (eBin gDiv (eVar 3) (eVar 1)))
(sRet (eBin gMod (eAp (g1 gInt) (aCons (eVar 3) aNil)) (eVar 1))))
sNx)
(sSeq (sSet 4 (eBin gMod (eAp (g1 gInt) (aCons (eBin gAdd (eBin gMul (eBin gAdd (eVar 3) (eC (.int 1))) (eC (.int 48271))) (eBin gMul (eBin gIx (eVar 0) (eC (.int 3))) (eC (.int 69621)))) aNil)) (eC (.int 2147483647))))
(sSeq (sSet 4 (eBin gMod (eAp (g1 gInt) (aCons (eBin gAdd (eBin gAdd (eBin gMul (eVar 4) (eC (.int 16807))) (eBin gDiv (eVar 3) (eC (.int 97)))) (eBin gIx (eVar 0) (eC (.int 3)))) aNil)) (eC (.int 2147483629))))
(sRet (eBin gMod (eBin gDiv (eVar 4) (eC (.int 11))) (eVar 1)))))))))))
def m_law_draw : List AV → SS → R := runF 5 b_law_draw

/-- a divisor that the machine takes -/
theorem divOk_of {k : Int} (h : 0 < k) (h2 : k < 1152921504606846976) : divOk k = true := by
  unfold divOk
  rw [Bool.and_eq_true]
  refine ⟨decide_eq_true h, blt_of ?_⟩
  have : k.natAbs < 2 ^ 60 := by omega
  have := (Nat.log2_lt (by omega)).mpr this
  omega
theorem gDiv_c {i j : Int} (h : 0 < j) (h2 : j < 1152921504606846976) : gDiv (.int i) (.int j) = some (.dt (.int (i / j))) := gDiv_ii (divOk_of h h2)
theorem gMul_c {i j : Int} (h : -18446744073709551616 < j) (h2 : j < 18446744073709551616) : gMul (.int i) (.int j) = some (.dt (.int (i * j))) := gMul_ii (mulOk_small (by omega))
theorem gMul_c' {i j : Int} (h : -18446744073709551616 < i) (h2 : i < 18446744073709551616) : gMul (.int i) (.int j) = some (.dt (.int (i * j))) := gMul_ii (mulOk_small' (by omega))
theorem atI_mod {α : Type} {xs : List α} {i : Int} (h : 0 < xs.length) : ∃ x, atI xs (i % (xs.length : Int)) = some x ∧ x ∈ xs := by
  have h1 := Int.emod_nonneg i (show (xs.length : Int) ≠ 0 by omega)
  have h2 := Int.emod_lt_of_pos i (show 0 < (xs.length : Int) by omega)
  refine ⟨xs[(i % (xs.length : Int)).toNat]'(by omega), ?_, List.getElem_mem _⟩
  unfold atI ixN
  rw [if_pos h1, if_pos h2]
  show xs[(i % (xs.length : Int)).toNat]? = _
  rw [List.getElem?_eq_getElem]
theorem gPow_18 : gPow (.int 10) (.int 18) = some (.dt (.int 1000000000000000000)) := rfl
def shape (r : R) (k : Int) : Prop := ∃ v st', r = .ok (.dat (.int v)) [Sta.ao st'] ∧ 0 ≤ v ∧ v < k
theorem shape_ok {k v : Int} (st' : Sta) (h : 0 ≤ v) (h2 : v < k) : shape (.ok (.dat (.int v)) [.lst [.lst (st'.cells.map D.int), .int st'.i, .int st'.c, .int st'.s]]) k := ⟨v, st', rfl, h, h2⟩
theorem emod_in {k : Int} (hk : 0 < k) (x : Int) : 0 ≤ x % k ∧ x % k < k := ⟨Int.emod_nonneg x (by omega), Int.emod_lt_of_pos x hk⟩
theorem draw_ok (st : Sta) {k : Int} (hk : 0 < k) (hk2 : k < 1152921504606846976) : shape (m_law_draw [.own 0, .dat (.int k)] [st.ao]) k := by
  unfold m_law_draw b_law_draw runF
  rw [Sta.ao_e]
  have p := emod_in hk
  by_cases hc : 0 < st.c
  · nomatch "e", gMod_ii hk, gDiv_c hk hk2, hc
    exact shape_ok ⟨st.cells, st.i, st.c / k, st.s + 1⟩ (p _).1 (p _).2
  · by_cases hl : 0 < st.cells.length
    · obtain ⟨x, hx, hm⟩ := atI_mod (xs := st.cells.map D.int) (i := st.i) (by simpa using hl)
      obtain ⟨y, _, rfl⟩ := List.mem_map.mp hm
      have hl2 : (0 : Int) < ((st.cells.map D.int).length : Int) := by simpa using hl
      by_cases hb : 1000000000000000000 ≤ (if y < 0 then -y else y)
      · nomatch "e", gMod_ii hk, gDiv_c hk hk2, hc, gMod_ii hl2, hl2, hx, gPow_18, hb
        exact shape_ok ⟨st.cells, st.i + 1, (if y < 0 then -y else y) / k, st.s + 1⟩ (p _).1 (p _).2
      · nomatch "e", gMod_ii hk, gDiv_c hk hk2, gMod_ii, hc, hl2, gDiv_c, gMul_c, hx, gPow_18, hb
        exact shape_ok ⟨st.cells, st.i + 1, st.c, st.s + 1⟩ (p _).1 (p _).2
    · have hl2 : ¬ (0 : Int) < ((st.cells.map D.int).length : Int) := by simpa using hl
      nomatch "e", gMod_ii hk, gDiv_c hk hk2, gMod_ii, hc, hl2, gDiv_c, gMul_c, gPow_18
      exact shape_ok ⟨st.cells, st.i + 1, st.c, st.s + 1⟩ (p _).1 (p _).2
end Ew

set_option Elab.async false
set_option linter.all false
set_option maxRecDepth 100000
set_option maxHeartbeats 4000000
namespace Ew
open PySem PySem.Spec PyProof.Rows L2

/-! ### loops and calls of mirrors -/
theorem forD_inv {body : D → AE → SS → SR} : ∀ (ds : List D) (P : Nat → AE → SS → Prop) (ρ : AE) (S : SS), P 0 ρ S → (∀ k d ρ S, ds[k]? = some d → P k ρ S → ∃ ρ' S', (body d ρ S = .nx ρ' S' ∨ body d ρ S = .ct ρ' S') ∧ P (k + 1) ρ' S') →
    ∃ ρ' S', forD body ds ρ S = .nx ρ' S' ∧ P ds.length ρ' S'
  | [], P, ρ, S, h, _ => ⟨ρ, S, rfl, h⟩
  | d :: ds, P, ρ, S, h, hs => by
    obtain ⟨ρ1, S1, e, p⟩ := hs 0 d ρ S rfl h
    obtain ⟨ρ2, S2, e2, p2⟩ := forD_inv ds (fun k => P (k + 1)) ρ1 S1 p fun k x ρ S hk => hs (k + 1) x ρ S hk
    refine ⟨ρ2, S2, ?_, p2⟩
    unfold forD
    rcases e with e | e <;> rw [e] <;> exact e2
theorem whileF_inv {t : AE → SS → RB} {f : AE → SS → SR} (I Q : AE → SS → Prop) (μ : AE → SS → Nat)
    (h : ∀ ρ S, I ρ S → (t ρ S = .ok false S ∧ Q ρ S) ∨ (t ρ S = .ok true S ∧ ∃ ρ' S', f ρ S = .nx ρ' S' ∧ I ρ' S' ∧ μ ρ' S' < μ ρ S)) :
    ∀ n ρ S, I ρ S → μ ρ S < n → ∃ ρ' S', whileF t f n ρ S = .nx ρ' S' ∧ Q ρ' S'
  | 0, _, _, _, hn => absurd hn (Nat.not_lt_zero _)
  | n + 1, ρ, S, i, hn => by
    unfold whileF
    rcases h ρ S i with ⟨e, q⟩ | ⟨e, ρ', S', e2, i2, hm⟩
    · rw [e]; exact ⟨ρ, S, rfl, q⟩
    · rw [e]
      dsimp only
      rw [e2]
      exact whileF_inv I Q μ h n ρ' S' i2 (by omega)
theorem put0 {S : SS} : put [] [] S = S := rfl
theorem callF_0 {F : List AV → SS → R} {as : List AV} {S : SS} {d : D} (h : AV.hs as = []) (e : F as [] = .ok (.dat d) []) (ha : as.map (fun a => ren [] (fz1 a)) = as) : callF F as S = .ok (.dat d) S := by
  unfold callF
  rw [h]
  simp only [nodupB, pick, ha, e]
  rfl
theorem eCall_e {n : Nat} {F : List AV → SS → R} {f : AE → SS → RA} {ρ : AE} {S S1 : SS} {as : List AV} {r : R} (h : f ρ S = .ok as S1) (hn : as.length = n) (h2 : callF F as S1 = r) : eCall n F f ρ S = r := by
  unfold eCall
  rw [h]
  dsimp only [RA.toR]
  subst hn
  rw [Nat.beq_refl]
  exact h2
theorem call_d1 {F : List AV → SS → R} {f : AE → SS → RA} {ρ : AE} {S : SS} {d1 d : D} (e : F [.dat d1] [] = .ok (.dat d) []) (h : f ρ S = .ok [.dat d1] S) : eCall 1 F f ρ S = .ok (.dat d) S :=
  eCall_e h rfl (callF_0 rfl e rfl)
theorem call_d2 {F : List AV → SS → R} {f : AE → SS → RA} {ρ : AE} {S : SS} {d1 d2 d : D} (e : F [.dat d1, .dat d2] [] = .ok (.dat d) []) (h : f ρ S = .ok [.dat d1, .dat d2] S) : eCall 2 F f ρ S = .ok (.dat d) S :=
  eCall_e h rfl (callF_0 rfl e rfl)
theorem callF_n {F : List AV → SS → R} {as : List AV} {S : SS} {o : AO} (h : AV.hs as = []) (e : F as [] = .ok (.new o) []) (ha : as.map (fun a => ren [] (fz1 a)) = as) : callF F as S = .ok (.new o) S := by
  unfold callF
  rw [h]
  simp only [nodupB, pick, ha, e]
  rfl
theorem call_n1 {F : List AV → SS → R} {f : AE → SS → RA} {ρ : AE} {S : SS} {d1 : D} {o : AO} (e : F [.dat d1] [] = .ok (.new o) []) (h : f ρ S = .ok [.dat d1] S) : eCall 1 F f ρ S = .ok (.new o) S :=
  eCall_e h rfl (callF_n rfl e rfl)
/-- a call that gets one own object, the first of its arguments -/
theorem callF_1 {F : List AV → SS → R} {as : List AV} {S : SS} {n : Nat} {o o' : AO} {d : D} (hS : S[n]? = some o) (c1 : clO o = true) (c2 : clO o' = true) (h : AV.hs as = []) (e : F (.own 0 :: as) [o] = .ok (.dat d) [o']) (ha : as.map (fun a => ren [n] (fz1 a)) = as) : callF F (.own n :: as) S = .ok (.dat d) (S.set n o') := by
  unfold callF
  have e1 : AV.hs (.own n :: as) = [n] := by unfold AV.hs; rw [h]
  have e2 : ren [n] (fz1 (.own n)) = .own 0 := by
    show AV.own ([n].idxOf n) = _
    simp
  have e3 : (!([] : List Nat).contains n && true) = true := rfl
  rw [e1]
  have b1 : clB [o] = true := by show (clO o && true) = true; rw [c1]; rfl
  have b2 : clB [o'] = true := by show (clO o' && true) = true; rw [c2]; rfl
  have b3 : okL [o'] [o] = true := by show (Nat.beq 1 1 && clB [o']) = true; rw [b2]; rfl
  simp only [nodupB, pick, hS, List.map_cons, ha, e2, e3, e, b1, b3]
  rfl
theorem call_o1 {F : List AV → SS → R} {f : AE → SS → RA} {ρ : AE} {S : SS} {n : Nat} {o o' : AO} {d : D} (e : F [.own 0] [o] = .ok (.dat d) [o']) (h : f ρ S = .ok [.own n] S) (hS : S[n]? = some o) (c1 : clO o = true := by rfl) (c2 : clO o' = true := by rfl) : eCall 1 F f ρ S = .ok (.dat d) (S.set n o') :=
  eCall_e h rfl (callF_1 hS c1 c2 rfl e rfl)
theorem call_o2 {F : List AV → SS → R} {f : AE → SS → RA} {ρ : AE} {S : SS} {n : Nat} {o o' : AO} {d d1 : D} (e : F [.own 0, .dat d1] [o] = .ok (.dat d) [o']) (h : f ρ S = .ok [.own n, .dat d1] S) (hS : S[n]? = some o) (c1 : clO o = true := by rfl) (c2 : clO o' = true := by rfl) : eCall 2 F f ρ S = .ok (.dat d) (S.set n o') :=
  eCall_e h rfl (callF_1 hS c1 c2 rfl e rfl)
/-- a draw under k, from any own object -/
theorem e_draw {f : AE → SS → RA} {ρ : AE} {S : SS} {n : Nat} {st : Sta} {k : Int} (hS : S[n]? = some st.ao) (hk : 0 < k) (hk2 : k < 1152921504606846976) (h : f ρ S = .ok [.own n, .dat (.int k)] S) :
    ∃ (v : Int) (st' : Sta), eCall 2 m_law_draw f ρ S = .ok (.dat (.int v)) (S.set n st'.ao) ∧ 0 ≤ v ∧ v < k := by
  obtain ⟨v, st', e, h1, h2⟩ := draw_ok st hk hk2
  exact ⟨v, st', call_o2 e h hS, h1, h2⟩
theorem e_drawN {f : AE → SS → RA} {ρ : AE} {S : SS} {n : Nat} {st : Sta} {k : Int} (hS : S[n]? = some st.ao) (hk : 0 < k) (hk2 : k < 1152921504606846976) (h : f ρ S = .ok [.own n, .dat (.int k)] S) :
    ∃ (v : Nat) (st' : Sta), eCall 2 m_law_draw f ρ S = .ok (.dat (.int (v : Nat))) (S.set n st'.ao) ∧ (v : Int) < k := by
  obtain ⟨v, st', e, h1, h2⟩ := e_draw hS hk hk2 h
  obtain ⟨m, rfl⟩ := Int.eq_ofNat_of_zero_le h1
  exact ⟨m, st', e, h2⟩
end Ew

set_option Elab.async false
set_option linter.all false
set_option maxRecDepth 100000
set_option maxHeartbeats 4000000
namespace Ew
open PySem PySem.Spec PyProof.Rows L2
open PySem.NumText (digitsVal AllDigits)
open TL (numL)

/-! ### texts of numbers -/
theorem AllDigits.app {a b : List Nat} (h : AllDigits a) (h2 : AllDigits b) : AllDigits (a ++ b) := fun c hc => (List.mem_append.mp hc).elim (h c) (h2 c)
theorem AllDigits.take {a : List Nat} (h : AllDigits a) (n : Nat) : AllDigits (a.take n) := fun c hc => h c (List.mem_of_mem_take hc)
theorem AllDigits.drop {a : List Nat} (h : AllDigits a) (n : Nat) : AllDigits (a.drop n) := fun c hc => h c (List.mem_of_mem_drop hc)
theorem AllDigits.rep {n c : Nat} (h : 48 ≤ c ∧ c ≤ 57) : AllDigits (List.replicate n c) := fun x hx => by rw [(List.mem_replicate.mp hx).2]; exact h
theorem foldl_val (b : List Nat) : ∀ a : Nat, b.foldl (fun acc c => acc * 10 + (c - 48)) a = a * 10 ^ b.length + digitsVal b := by
  induction b with
  | nil => intro a; show a = a * 1 + 0; omega
  | cons c b ih =>
    intro a
    show b.foldl _ (a * 10 + (c - 48)) = _
    have e : digitsVal (c :: b) = (c - 48) * 10 ^ b.length + digitsVal b := by
      show b.foldl _ (0 * 10 + (c - 48)) = _
      rw [ih, Nat.zero_mul, Nat.zero_add]
    rw [ih, e, List.length_cons, Nat.pow_succ, Nat.add_mul, Nat.mul_assoc, Nat.add_assoc, Nat.mul_comm 10]
theorem val_app (a b : List Nat) : digitsVal (a ++ b) = digitsVal a * 10 ^ b.length + digitsVal b := by
  show (a ++ b).foldl _ 0 = _
  rw [List.foldl_append, foldl_val]; rfl
theorem val_lt {a : List Nat} (h : AllDigits a) : digitsVal a < 10 ^ a.length := by
  induction a with
  | nil => exact Nat.one_pos
  | cons c b ih =>
    have e := val_app [c] b
    have hc := h c (List.mem_cons_self ..)
    have hb := ih fun x hx => h x (List.mem_cons_of_mem _ hx)
    have e1 : digitsVal [c] = c - 48 := by show 0 * 10 + (c - 48) = _; omega
    rw [List.singleton_append, e1] at e
    rw [e, List.length_cons, Nat.pow_succ]
    have : (c - 48) * 10 ^ b.length ≤ 9 * 10 ^ b.length := Nat.mul_le_mul_right _ (by omega)
    omega
theorem val_zeros (n : Nat) (a : List Nat) : digitsVal (List.replicate n 48 ++ a) = digitsVal a := by
  induction n with
  | zero => rfl
  | succ n ih => rw [List.replicate_succ, List.cons_append]; exact ih
theorem val_take_step {t : List Nat} {i c : Nat} (h : i + c ≤ t.length) : digitsVal (t.take (i + c)) = digitsVal (t.take i) * 10 ^ c + digitsVal ((t.drop i).take c) := by
  rw [List.take_add, val_app, List.length_take, List.length_drop, Nat.min_eq_left (by omega)]
/-- a text without a leading nought is its number's text -/
theorem num_of {t : List Nat} (h : AllDigits t) {c : Nat} {r : List Nat} (e : t = c :: r) (hc : c ≠ 48) : numL (digitsVal t) = t := by
  have hc2 := h c (by rw [e]; exact List.mem_cons_self ..)
  have z := NumText.toDigits_digitsVal r.length t (by rw [e]; rfl) h (.inr ⟨c, r, e, by omega⟩)
  show (Nat.toDigits 10 (digitsVal t)).map Char.toNat = t
  rw [z, List.map_map]
  have : ∀ x ∈ t, (Char.toNat ∘ Char.ofNat) x = id x := fun x hx => by
    have hx := h x hx
    show (Char.ofNat x).toNat = x
    unfold Char.ofNat
    rw [dif_pos (show x.isValidChar from .inl (by omega))]
    show (Char.ofNatAux x _).val.toNat = x
    exact rfl
  rw [List.map_congr_left this, List.map_id]
theorem numL_0 : numL 0 = [48] := rfl
/-- m in c signs -/
def padL : Nat → Nat → List Nat
  | 0, _ => []
  | c + 1, m => padL c (m / 10) ++ [48 + m % 10]
theorem padL_0 : ∀ c, padL c 0 = List.replicate c 48
  | 0 => rfl
  | c + 1 => by
    show padL c 0 ++ [48] = _
    rw [padL_0 c, List.replicate_succ']
theorem padL_eq : ∀ {c m : Nat}, 0 < c → m < 10 ^ c → padL c m = List.replicate (c - (numL m).length) 48 ++ numL m
  | c + 1, m, _, h => by
    show padL c (m / 10) ++ [48 + m % 10] = _
    by_cases hm : m < 10
    · rw [TL.numL_lt hm, show m / 10 = 0 by omega, show m % 10 = m by omega, padL_0]
      rfl
    · have hc : 0 < c := by
        rcases Nat.eq_zero_or_pos c with e | e
        · subst e; omega
        · exact e
      rw [TL.numL_step (by omega), padL_eq hc (by rw [Nat.pow_succ] at h; omega), List.length_append, List.append_assoc]
      have : (numL (m / 10)).length ≤ c := TL.numL_len hc (by rw [Nat.pow_succ] at h; omega)
      rw [show c + 1 - ((numL (m / 10)).length + [48 + m % 10].length) = c - (numL (m / 10)).length by show c + 1 - (_ + 1) = _; omega]
theorem numL_split : ∀ {c n : Nat}, 10 ^ c ≤ n → numL n = numL (n / 10 ^ c) ++ padL c (n % 10 ^ c)
  | 0, n, _ => by rw [Nat.pow_zero, Nat.div_one]; exact (List.append_nil _).symm
  | c + 1, n, h => by
    have hp : 0 < 10 ^ c := Nat.pow_pos (show 0 < 10 by decide)
    rw [Nat.pow_succ] at h ⊢
    rw [TL.numL_step (by omega), numL_split (c := c) (n := n / 10) (by omega), List.append_assoc]
    have e1 : n / 10 / 10 ^ c = n / (10 ^ c * 10) := by rw [Nat.div_div_eq_div_mul, Nat.mul_comm]
    have e2 : n / 10 % 10 ^ c = n % (10 ^ c * 10) / 10 := by
      rw [Nat.mul_comm (10 ^ c) 10, Nat.mod_mul_right_div_self]
    have e3 : n % 10 = n % (10 ^ c * 10) % 10 := by rw [Nat.mod_mul_left_mod]
    rw [e1, e2, e3]
    rfl
theorem padL_len : ∀ c m, (padL c m).length = c
  | 0, _ => rfl
  | c + 1, m => by show (padL c _ ++ [_]).length = _; rw [List.length_append, padL_len c]; rfl
end Ew

set_option Elab.async false
set_option linter.all false
set_option maxRecDepth 100000
set_option maxHeartbeats 4000000
namespace Ew
open PySem PySem.Spec PyProof.Rows L2
open PySem.NumText (digitsVal AllDigits)
open TL (numL)

/-! ### the laws of texts, by their signs -/
abbrev tx (l : List Nat) : D := .str (SX.S l)
theorem lit_nil : (("" : String) : Str) = SX.S [] := rfl
theorem lit_0 : (("0" : String) : Str) = SX.S [48] := rfl
theorem lit_1 : (("1" : String) : Str) = SX.S [49] := rfl
theorem lit_9 : (("9" : String) : Str) = SX.S [57] := rfl
theorem lit_min : (("-" : String) : Str) = SX.S [45] := rfl
theorem gLen_t' {a : List Nat} (h : a.length ≤ 16777216) : gLen (tx a) = some (.dt (.int a.length)) := by
  have z := gLen_s (s := SX.S a) (by rw [SX.S_len]; exact h)
  rw [SX.S_len] at z
  exact z
theorem gAdd_t {a b : List Nat} (h : a.length + b.length ≤ 16777216) : gAdd (tx a) (tx b) = some (.dt (tx (a ++ b))) := by
  have z := gAdd_ss (s := SX.S a) (t := SX.S b) (by rw [SX.S_len, SX.S_len]; exact h)
  rw [SX.S_cat] at z
  exact z
theorem S_eq_iff {a b : List Nat} : (SX.S a = SX.S b) ↔ a = b := ⟨SX.S_inj, fun e => by rw [e]⟩
theorem gEq_t {a b : List Nat} : gEq (tx a) (tx b) = some (.dt (.bl (decide (a = b)))) := by
  rw [gEq_ss]; congr 3; exact decide_eq_decide.mpr S_eq_iff
theorem gNe_t {a b : List Nat} : gNe (tx a) (tx b) = some (.dt (.bl (!decide (a = b)))) := by
  rw [gNe_ss]; congr 4; exact decide_eq_decide.mpr S_eq_iff
theorem gInt_t {a : List Nat} (h : AllDigits a) (h1 : a ≠ []) (h2 : a.length ≤ 640) : gInt (tx a) = some (.dt (.int (digitsVal a : Nat))) := by
  have z := intText_digits (x := SX.S a) h h1 (by rw [SX.S_len]; omega)
  dsimp only [gInt]
  rw [z, show Nat.ble (SX.S a).length 640 = true from ble_of (by rw [SX.S_len]; exact h2)]
theorem log2_lt_of {n k : Nat} (h : n < 2 ^ k) (hk : 0 < k) : n.log2 < k := by
  rcases Nat.eq_zero_or_pos n with e | e
  · subst e; simpa using hk
  · exact (Nat.log2_lt (by omega)).mpr h
theorem gStr_n {n : Nat} (h : n < 2 ^ 1920) : gStr (.int (n : Nat)) = some (.dt (tx (numL n))) := by
  dsimp only [gStr]
  rw [blt_of (log2_lt_of (show (n : Int).natAbs < 2 ^ 1920 from h) (by decide))]
  exact congrArg (fun z : Str => some (RD.dt (.str z))) (SX.num_S n)
theorem gStr_i {i : Int} (h0 : 0 ≤ i) (h : i.toNat < 2 ^ 1920) : gStr (.int i) = some (.dt (tx (numL i.toNat))) := by
  obtain ⟨n, rfl⟩ := Int.eq_ofNat_of_zero_le h0
  exact gStr_n h
theorem numL_head {n : Nat} : ∃ c r, numL n = c :: r ∧ 48 ≤ c ∧ c ≤ 57 := by
  cases e : numL n with
  | nil => exact absurd e (TL.numL_ne n)
  | cons c r => exact ⟨c, r, rfl, TL.numL_digits n c (by rw [e]; exact List.mem_cons_self ..)⟩
theorem zfill_num {n c : Nat} : Txt.zfill (SX.S (numL n)) (c : Nat) = SX.S (List.replicate (c - (numL n).length) 48 ++ numL n) := by
  unfold Txt.zfill
  rw [SX.S_len]
  split
  · rename_i h
    rw [show c - (numL n).length = 0 by omega]
    rfl
  · obtain ⟨d, r, e, hd⟩ := numL_head (n := n)
    unfold zfilled
    have e2 : (SX.S (numL n)).cps[0]? = some d := by rw [e]; rfl
    rw [e2]
    have hp : Builtin.Str.padded (SX.S (numL n)) (c - (numL n).length) 0 48 = SX.S (List.replicate (c - (numL n).length) 48 ++ numL n) := by
      refine TL.ext_tl ?_
      show (Array.replicate (c - (numL n).length) 48 ++ (numL n).toArray ++ Array.replicate 0 48).toList = List.replicate (c - (numL n).length) 48 ++ numL n
      simp
    rw [Int.toNat_natCast]
    split
    · rename_i h; cases h; omega
    · rename_i h; cases h; omega
    · exact hp
theorem gZfill_t {n c : Nat} (hc : 0 < c) (hp : PadOk (c : Nat) = true) (h : n < 10 ^ c) : gZfill (tx (numL n)) (.int (c : Nat)) = some (.dt (tx (padL c n))) := by
  dsimp only [gZfill]
  rw [hp, padL_eq hc h, zfill_num]
theorem gMul_t {c : Nat} {n : Int} (h0 : 0 ≤ n) (h : n ≤ 16777216) : gMul (tx [c]) (.int n) = some (.dt (tx (List.replicate n.toNat c))) := by
  have e : Txt.mul ⟨#[c]⟩ n = SX.S (List.replicate n.toNat c) := TL.ext_tl (mul_one_list c n)
  dsimp only [gMul]
  have l : (SX.S [c]).length = 1 := rfl
  have z : Nat.ble ((SX.S [c]).length * n.toNat) line = true := ble_of (by rw [l, Nat.one_mul]; show n.toNat ≤ 16777216; omega)
  rw [z, decide_eq_true (show n < 9223372036854775808 by omega), decide_eq_true (show -9223372036854775808 ≤ n by omega)]
  exact congrArg (fun z : Str => some (RD.dt (.str z))) e
theorem foldl_rep (c : Array Nat) : ∀ (k : Nat) (acc : Array Nat), ((List.replicate k c).foldl (· ++ ·) acc).toList = acc.toList ++ (List.replicate k c.toList).flatten
  | 0, acc => by simp
  | k + 1, acc => by
    rw [List.replicate_succ, List.foldl_cons, foldl_rep c k]
    simp [List.replicate_succ]
theorem mul_S (a : List Nat) (n : Int) : Txt.mul (SX.S a) n = SX.S (List.replicate n.toNat a).flatten := by
  refine TL.ext_tl ?_
  show (Txt.mul (SX.S a) n).cps.toList = (List.replicate n.toNat a).flatten
  unfold Txt.mul
  by_cases h1 : n < 1
  · rw [if_pos h1, show n.toNat = 0 by omega]; rfl
  · rw [if_neg h1]
    by_cases h2 : n = 1
    · subst h2; simp
    · have a1 : (n == 1) = false := by simpa using h2
      rw [a1, SX.S_len]
      cases a with
      | nil => simp
      | cons c r =>
        rw [if_neg (by simp)]
        show ((List.replicate n.toNat (SX.S (c :: r)).cps).foldl (· ++ ·) #[]).toList = _
        rw [foldl_rep]
        simp
theorem gMul_ts {a : List Nat} {n : Int} (h0 : 0 ≤ n) (h : n ≤ 16777216) (h2 : a.length * n.toNat ≤ 16777216) : gMul (tx a) (.int n) = some (.dt (tx (List.replicate n.toNat a).flatten)) := by
  dsimp only [gMul]
  have z : Nat.ble ((SX.S a).length * n.toNat) line = true := ble_of (by rw [SX.S_len]; exact h2)
  rw [z, decide_eq_true (show n < 9223372036854775808 by omega), decide_eq_true (show -9223372036854775808 ≤ n by omega)]
  exact congrArg (fun z : Str => some (RD.dt (.str z))) (mul_S a n)
theorem cutS_S (a : List Nat) (lo hi : Option Int) : cutS (SX.S a) lo hi = SX.S ((a.drop (HT.sIx a.length 0 lo)).take (HT.sIx a.length a.length hi - HT.sIx a.length 0 lo)) := by
  unfold cutS
  rw [SX.S_len]
theorem sIx_i {n d : Nat} {i : Int} (h : 0 ≤ i) : HT.sIx n d (some i) = min i.toNat n := by
  obtain ⟨k, rfl⟩ := Int.eq_ofNat_of_zero_le h
  exact HT.sIx_nat n d k
theorem gSl_t {a : List Nat} {lo hi : Option Int} (h : a.length ≤ 16777216) : gSl (tx a) lo hi = some (.dt (tx ((a.drop (HT.sIx a.length 0 lo)).take (HT.sIx a.length a.length hi - HT.sIx a.length 0 lo)))) := by
  dsimp only [gSl]
  rw [show Nat.ble (SX.S a).length line = true from ble_of (by rw [SX.S_len]; exact h), cutS_S]
theorem gSl_to {a : List Nat} {i : Int} (h : a.length ≤ 16777216) (hi : 0 ≤ i) : gSl (tx a) none (some i) = some (.dt (tx (a.take i.toNat))) := by
  rw [gSl_t h, sIx_i hi, HT.sIx_none, List.drop_zero, Nat.sub_zero, ← List.take_eq_take_min]
theorem gSl_from {a : List Nat} {i : Int} (h : a.length ≤ 16777216) (hi : 0 ≤ i) : gSl (tx a) (some i) none = some (.dt (tx (a.drop i.toNat))) := by
  rw [gSl_t h, sIx_i hi, HT.sIx_none]
  congr 4
  rw [List.take_of_length_le (by rw [List.length_drop]; exact Nat.le_refl _)]
  rcases Nat.le_total i.toNat a.length with h | h
  · rw [Nat.min_eq_left h]
  · rw [Nat.min_eq_right h, List.drop_of_length_le (Nat.le_refl _), List.drop_of_length_le h]
theorem gSl_mid {a : List Nat} {i j : Int} (h : a.length ≤ 16777216) (hi : 0 ≤ i) (hj : i ≤ j) (hl : j ≤ a.length) : gSl (tx a) (some i) (some j) = some (.dt (tx ((a.drop i.toNat).take (j - i).toNat))) := by
  rw [gSl_t h, sIx_i hi, sIx_i (by omega), Nat.min_eq_left (by omega), Nat.min_eq_left (by omega)]
  congr 5
  omega
theorem strsD_map : ∀ ss : List (List Nat), strsD (ss.map tx) = some (ss.map SX.S)
  | [] => rfl
  | x :: ss => by
    show (match strsD (ss.map tx) with | some z => some (SX.S x :: z) | none => none) = _
    rw [strsD_map ss]; rfl
theorem joinL_nil : ∀ ss : List (List Nat), TL.joinL [] ss = ss.flatten
  | [] => rfl
  | [p] => by simp [TL.joinL]
  | p :: q :: r => by
    show p ++ ([] ++ TL.joinL [] (q :: r)) = _
    rw [joinL_nil (q :: r)]; rfl
theorem gJoin_t {ss : List (List Nat)} (h : ss.flatten.length ≤ 16777216) : gJoin (tx []) (.lst (ss.map tx)) = some (.dt (tx ss.flatten)) := by
  dsimp only [gJoin, listD]
  rw [strsD_map]
  dsimp only
  have e : ((ss.map SX.S).map (·.length)).sum = ss.flatten.length := by
    rw [SX.lens, List.length_flatten]
  have e2 : (SX.S []).length = 0 := rfl
  rw [e, e2, Nat.mul_zero, Nat.add_zero, ble_of (show ss.flatten.length ≤ line from h)]
  rw [SX.join_S, joinL_nil]
theorem lstrip_S (a : List Nat) (c : Nat) : Txt.lstripChars (SX.S a) (SX.S [c]) = SX.S (a.dropWhile (· == c)) := by
  unfold Txt.lstripChars Txt.stripBy
  have g : ∀ x, (SX.S [c]).cps.contains x = (x == c) := fun x => by
    show (#[c] : Array Nat).contains x = _
    rw [Array.contains_eq_mem, Bool.eq_iff_iff]
    simp
  have g2 : (SX.S [c]).cps.contains = (· == c) := funext g
  rw [g2]
  have hlo : Builtin.Str.strSub = Builtin.Str.strSub := rfl
  have key : a = a.takeWhile (· == c) ++ a.dropWhile (· == c) := (List.takeWhile_append_dropWhile).symm
  have lo : stripLo (· == c) true (SX.S a) = (a.takeWhile (· == c)).length := by unfold stripLo; rfl
  have hi : ∀ n, stripHi (· == c) false (SX.S a) n = a.length := fun n => by unfold stripHi; rw [if_neg Bool.false_ne_true, SX.S_len]
  split
  · rename_i h
    unfold stripSame at h
    rw [Bool.and_eq_true] at h
    have h0 := eq_of_beq h.1
    rw [lo] at h0
    rw [List.length_eq_zero_iff.mp h0, List.nil_append] at key
    exact congrArg SX.S key
  · unfold stripped
    rw [lo, hi]
    refine TL.ext_tl ?_
    show (a.toArray.extract _ _).toList = a.dropWhile (· == c)
    rw [Array.toList_extract, List.extract_eq_take_drop]
    show ((a.drop (a.takeWhile (· == c)).length).take _) = _
    rw [List.take_of_length_le (by rw [List.length_drop]; exact Nat.le_refl _)]
    generalize a.takeWhile (· == c) = p at key
    generalize a.dropWhile (· == c) = q at key
    subst key
    exact List.drop_left
theorem gLstrip_t {a : List Nat} {c : Nat} (h : a.length ≤ 16777216) : gLstrip (tx a) (tx [c]) = some (.dt (tx (a.dropWhile (· == c)))) := by
  dsimp only [gLstrip]
  rw [show Nat.ble (SX.S a).length line = true from ble_of (by rw [SX.S_len]; exact h), lstrip_S]
theorem gIx_t0 {c : Nat} {r : List Nat} (h : (c :: r).length ≤ 16777216) : gIx (tx (c :: r)) (.int 0) = some (.dt (tx [c])) := by
  dsimp only [gIx]
  rw [show Nat.ble (SX.S (c :: r)).length line = true from ble_of (by rw [SX.S_len]; exact h)]
  show (atI (c :: r) 0).map _ = _
  rw [atI_lit]
  rfl
theorem chars_S (a : List Nat) : chars (SX.S a) = a.map fun c => tx [c] := rfl
theorem gIn_t {a : List Nat} {c : Nat} : gInX false (tx [c]) (tx a) = some (.dt (.bl (decide (c ∈ a)))) := by
  show some (RD.dt (.bl (!(Builtin.Str.occurrences (SX.S a) (SX.S [c]) 0 (SX.S a).length 1).isEmpty))) = _
  rw [SX.in_one]
theorem gNin_t {a : List Nat} {c : Nat} : gInX true (tx [c]) (tx a) = some (.dt (.bl (!decide (c ∈ a)))) := by
  show some (RD.dt (.bl (!(!(Builtin.Str.occurrences (SX.S a) (SX.S [c]) 0 (SX.S a).length 1).isEmpty)))) = _
  rw [SX.in_one]
end Ew

set_option Elab.async false
set_option linter.all false
set_option maxRecDepth 100000
set_option maxHeartbeats 4000000
namespace Ew
open PySem PySem.Spec PyProof.Rows L2
open PySem.NumText (digitsVal AllDigits)
open TL (numL)

/-! ### ranges with a step; big products -/
theorem rangeSize_n {i n c : Nat} (hc : 0 < c) : Builtin.Range.rangeSize (i : Nat) ((i + n * c : Nat) : Int) (c : Nat) = n := by
  unfold Builtin.Range.rangeSize
  rw [if_pos (by omega)]
  cases n with
  | zero => rw [if_neg (by omega)]; rfl
  | succ m =>
    have hp : 0 < (m + 1) * c := Nat.mul_pos (by omega) hc
    rw [if_pos (by omega)]
    have e : ((i + (m + 1) * c : Nat) : Int) - (i : Nat) - 1 = ((m * c + (c - 1) : Nat) : Int) := by
      rw [Nat.succ_mul] at hp ⊢; omega
    rw [e]
    have e2 : (m * c + (c - 1)) / c = m := by
      rw [Nat.mul_comm, Nat.mul_add_div hc, Nat.div_eq_of_lt (by omega), Nat.add_zero]
    have e3 : ((m * c + (c - 1) : Nat) : Int) / (c : Nat) = ((m * c + (c - 1)) / c : Nat) := rfl
    rw [e3, e2]; rfl
theorem fits_nat {a : Int} (h : 0 ≤ a) (h2 : a < 4294967296) : Builtin.Range.rangeFitsLong a = true := by
  unfold Builtin.Range.rangeFitsLong
  rw [Bool.and_eq_true]
  exact ⟨decide_eq_true (by omega), decide_eq_true (by omega)⟩
theorem iRg_a {i j c : Int} {S : SS} : iRg [.dat (.int i), .dat (.int j), .dat (.int c)] S = (match rangeB i && rangeB j && (decide (c = -1)) with
    | true => RI.ok (rangeD i c (i - j).toNat) S
    | false => (match decide (c ≠ 0) && Nat.blt c.natAbs 1073741824 && Builtin.Range.small i j c && decide (0 ≤ Builtin.Range.rangeSize i j c) with
      | true => .ok (rangeD i c (Builtin.Range.rangeSize i j c).toNat) S
      | false => .bad)) := rfl
theorem iRg_b {i j c : Int} {S : SS} {n : Nat} (h1 : decide (c = -1) = false) (h2 : decide (c ≠ 0) = true) (h3 : Nat.blt c.natAbs 1073741824 = true) (h4 : Builtin.Range.small i j c = true) (h5 : Builtin.Range.rangeSize i j c = (n : Nat)) : iRg [.dat (.int i), .dat (.int j), .dat (.int c)] S = .ok (rangeD i c n) S := by
  have h6 : decide ((0 : Int) ≤ (n : Nat)) = true := decide_eq_true (Int.natCast_nonneg n)
  rw [iRg_a, h1, Bool.and_false, h2, h3, h4, h5, h6]
  rfl
theorem blt_c {c : Nat} (hc2 : c < 1073741824) : Nat.blt ((c : Nat) : Int).natAbs 1073741824 = true := by rw [Int.natAbs_natCast]; exact blt_of hc2
theorem iRg_3 {i n c : Nat} {S : SS} (hc : 0 < c) (hb : i + n * c < 1073741824) (hc2 : c < 1073741824) :
    iRg [.dat (.int (i : Nat)), .dat (.int ((i + n * c : Nat) : Int)), .dat (.int (c : Nat))] S = .ok (rangeD (i : Nat) (c : Nat) n) S := by
  have hn : n ≤ n * c := Nat.le_mul_of_pos_right n hc
  have s : Builtin.Range.small (i : Nat) ((i + n * c : Nat) : Int) (c : Nat) = true := by
    unfold Builtin.Range.small
    rw [rangeSize_n hc]
    rw [fits_nat (a := (i : Nat)) (by omega) (by omega), fits_nat (a := ((i + n * c : Nat) : Int)) (by omega) (by omega), fits_nat (a := (c : Nat)) (by omega) (by omega), fits_nat (a := (n : Nat)) (by omega) (by omega), if_pos (by omega), fits_nat (a := ((i + n * c : Nat) : Int) + ((c : Nat) - 1)) (by omega) (by omega)]
    simp only [Bool.and_true, Bool.or_true]
  exact iRg_b (decide_eq_false (by omega)) (decide_eq_true (by omega)) (blt_c hc2) s (rangeSize_n hc)
theorem iRg_4 {i n c : Nat} {S : SS} {x j z : Int} (hx : x = (i : Nat)) (hj : j = ((i + n * c : Nat) : Int)) (hz : z = (c : Nat)) (hc : 0 < c) (hb : i + n * c < 1073741824) (hc2 : c < 1073741824) :
    iRg [.dat (.int x), .dat (.int j), .dat (.int z)] S = .ok (rangeD x z n) S := by
  subst hx hj hz
  exact iRg_3 hc hb hc2
theorem rangeD_some {lo c : Int} {n k : Nat} {d : D} (h : (rangeD lo c n)[k]? = some d) : k < n ∧ d = .int (lo + (k : Int) * c) := by
  have hk := (List.getElem?_eq_some_iff.mp h).1
  rw [rangeD_len] at hk
  rw [rangeD_get hk] at h
  cases h
  exact ⟨hk, rfl⟩
theorem bits_le {n k : Nat} (h : n < 2 ^ k) : Builtin.Int.intBits (n : Nat) ≤ k := by
  unfold Builtin.Int.intBits
  split
  · omega
  · rename_i h0
    have hn : n ≠ 0 := fun e => h0 (by subst e; rfl)
    have := (Nat.log2_lt (k := k) hn).mpr h
    show n.log2 + 1 ≤ k
    omega
theorem ten_le (m : Nat) : 10 ^ m ≤ 2 ^ (4 * m) := by
  rw [Nat.pow_mul]
  exact Nat.pow_le_pow_left (by decide) m
theorem mulOk_big {n m k : Nat} (h : n < 10 ^ k) (h2 : m < 2 ^ 1000) (hk : k ≤ 1000000) : mulOk (n : Nat) (m : Nat) = true := by
  have a := bits_le (Nat.lt_of_lt_of_le h (ten_le k))
  have b := bits_le h2
  unfold mulOk
  rw [ble_of (by omega : Builtin.Int.intBits (n : Nat) + Builtin.Int.intBits (m : Nat) ≤ 134217728), Bool.or_true]
theorem pylong_small {x y : Int} (h : y.natAbs.log2 < 9000) : Builtin.divisionGoesByPylong x y = false := by
  unfold Builtin.divisionGoesByPylong
  rw [Bool.and_eq_false_iff]
  left
  apply decide_eq_false
  dsimp only
  split <;> omega
theorem gDivmod_n {n m : Nat} (h : 0 < m) (h2 : m < 2 ^ 1000) : gDivmod (.int (n : Nat)) (.int (m : Nat)) = some (.dt (.tup [.int ((n / m : Nat) : Int), .int ((n % m : Nat) : Int)])) := by
  dsimp only [gDivmod]
  have : (m : Int).natAbs.log2 < 9000 := Nat.lt_trans (log2_lt_of (show (m : Int).natAbs < 2 ^ 1000 from h2) (by decide)) (by decide)
  rw [pylong_small this, decide_eq_true (show (0 : Int) < (m : Nat) by omega)]
  rfl
end Ew

set_option Elab.async false
set_option linter.all false
set_option maxRecDepth 100000
set_option maxHeartbeats 4000000
namespace Ew
open PySem PySem.Spec PyProof.Rows L2

/-! ### comprehensions -/
theorem lcF_inv {g : D → AE → Option AE} {t : AE → SS → RB} {e : AE → SS → R} {ρ0 : AE} : ∀ (ds : List D) (P : Nat → List D → SS → Prop) (xs0 : List D) (S : SS), P 0 xs0 S →
    (∀ k d xs S, ds[k]? = some d → P k xs S → ∃ ρ1, g d ρ0 = some ρ1 ∧ ((∃ S1, t ρ1 S = .ok false S1 ∧ P (k + 1) xs S1) ∨
      ∃ S1 a S2 x S3, t ρ1 S = .ok true S1 ∧ e ρ1 S1 = .ok a S2 ∧ frz a S2 = some (x, S3) ∧ P (k + 1) (xs ++ [x]) S3)) →
    ∃ xs S', lcF g t e ρ0 ds S = some (xs, S') ∧ P ds.length (xs0 ++ xs) S'
  | [], P, xs0, S, h, _ => ⟨[], S, by rw [lcF], by rw [List.append_nil]; exact h⟩
  | d :: ds, P, xs0, S, h, hs => by
    obtain ⟨ρ1, hg, hc⟩ := hs 0 d xs0 S rfl h
    rcases hc with ⟨S1, e1, p⟩ | ⟨S1, a, S2, x, S3, e1, e2, e3, p⟩
    · obtain ⟨xs, S', e, q⟩ := lcF_inv ds (fun k => P (k + 1)) xs0 S1 p fun k x xs S hk => hs (k + 1) x xs S hk
      refine ⟨xs, S', ?_, q⟩
      rw [lcF, hg]
      dsimp only
      rw [e1]
      exact e
    · obtain ⟨xs, S', e, q⟩ := lcF_inv ds (fun k => P (k + 1)) (xs0 ++ [x]) S3 p fun k x xs S hk => hs (k + 1) x xs S hk
      refine ⟨x :: xs, S', ?_, by rw [List.append_assoc] at q; exact q⟩
      rw [lcF, hg]
      dsimp only
      rw [e1]
      dsimp only
      rw [e2]
      dsimp only
      rw [e3]
      dsimp only
      rw [e]
/-- a comprehension without effects, each item by a function -/
theorem lcF_map {g : D → AE → Option AE} {e : AE → SS → R} {ρ0 : AE} {S : SS} {α : Type} (as : List α) (i o : α → D) (r : α → AE) (hg : ∀ a ∈ as, g (i a) ρ0 = some (r a)) (he : ∀ a ∈ as, e (r a) S = .ok (.dat (o a)) S) :
    lcF g tY e ρ0 (as.map i) S = some (as.map o, S) := by
  induction as with
  | nil => rw [List.map_nil, lcF]; rfl
  | cons a as ih =>
    rw [List.map_cons, lcF, hg a (List.mem_cons_self ..)]
    dsimp only [tY]
    rw [he a (List.mem_cons_self ..)]
    dsimp only
    rw [frz_d]
    dsimp only
    have ih := ih (fun a h => hg a (List.mem_cons_of_mem _ h)) (fun a h => he a (List.mem_cons_of_mem _ h))
    rw [ih]; rfl
theorem lcF_filter {g : D → AE → Option AE} {t : AE → SS → RB} {e : AE → SS → R} {ρ0 : AE} {S : SS} {α : Type} (as : List α) (i o : α → D) (p : α → Bool) (r : α → AE) (hg : ∀ a ∈ as, g (i a) ρ0 = some (r a)) (ht : ∀ a ∈ as, t (r a) S = .ok (p a) S) (he : ∀ a ∈ as, p a = true → e (r a) S = .ok (.dat (o a)) S) :
    lcF g t e ρ0 (as.map i) S = some ((as.filter p).map o, S) := by
  induction as with
  | nil => rw [List.map_nil, lcF]; rfl
  | cons a as ih =>
    have ih := ih (fun a h => hg a (List.mem_cons_of_mem _ h)) (fun a h => ht a (List.mem_cons_of_mem _ h)) (fun a h => he a (List.mem_cons_of_mem _ h))
    rw [List.map_cons, lcF, hg a (List.mem_cons_self ..)]
    dsimp only
    rw [ht a (List.mem_cons_self ..)]
    cases hp : p a with
    | false =>
      rw [List.filter_cons, hp]
      exact ih
    | true =>
      rw [List.filter_cons, hp]
      dsimp only
      rw [he a (List.mem_cons_self ..) hp]
      dsimp only
      rw [frz_d]
      dsimp only
      rw [ih]; rfl
def eLcJ : Option (List D × SS) → R := fun v => match v with
    | some (xs, S2) => (match decide (xs.length ≤ line) with
      | true => .ok (.new (.lst xs)) S2
      | false => .bad)
    | none => .bad
def eLcI (vs : List Nat) (g : D → AE → Option AE) (t : AE → SS → RB) (e : AE → SS → R) (ρ : AE) : RI → R := fun r => match r with
  | .ok ds S1 => eLcJ (lcF g t e (wipeA ρ vs) ds S1)
  | .exc x S1 => .exc x S1
  | .bad => .bad
theorem eLc_e {vs : List Nat} {it : AE → SS → RI} {g : D → AE → Option AE} {t : AE → SS → RB} {e : AE → SS → R} {ρ : AE} {S : SS} : eLc vs it g t e ρ S = eLcI vs g t e ρ (it ρ S) := (rfl)
theorem eLcI_e {vs : List Nat} {g : D → AE → Option AE} {t : AE → SS → RB} {e : AE → SS → R} {ρ : AE} {S : SS} {ds : List D} : eLcI vs g t e ρ (.ok ds S) = eLcJ (lcF g t e (wipeA ρ vs) ds S) := (rfl)
theorem eLcJ_e {xs : List D} {S : SS} (h : xs.length ≤ 16777216) : eLcJ (some (xs, S)) = .ok (.new (.lst xs)) S := by
  unfold eLcJ
  dsimp only
  rw [decide_eq_true (show xs.length ≤ line from h)]
theorem wipeA_nil {ρ : AE} : wipeA ρ [] = ρ := (rfl)
theorem wipeA_c {ρ : AE} {v : Nat} {vs : List Nat} : wipeA ρ (v :: vs) = (wipeA ρ vs).set v none := (rfl)
/-! ### dicts -/
theorem eDnew_e {ρ : AE} {S : SS} : eDnew ρ S = .ok (.new (.dct [])) S := (rfl)
def eGetM (S3 : SS) : Option D → Option D → AV → R := fun d k c => match d, k, c with
    | some d, some k, .dat x => (match gGet2 d k x with
      | some z => .ok z.av S3
      | none => .bad)
    | _, _, _ => .bad
def eGetL (a b : AV) : AV → SS → R := fun c S3 => eGetM S3 (view a S3) (view b S3) c
def eGetK (a : AV) (j : AE → SS → R) (ρ : AE) : AV → SS → R := fun b S2 => (j ρ S2).bind (eGetL a b)
def eGetJ (h j : AE → SS → R) (ρ : AE) (a : AV) (S1 : SS) : Option D → R := fun v => match v with
  | some (.dct _) => (h ρ S1).bind (eGetK a j ρ)
  | _ => .bad
def eGetI (h j : AE → SS → R) (ρ : AE) : AV → SS → R := fun a S1 => eGetJ h j ρ a S1 (view a S1)
theorem eGet2_e {f h j : AE → SS → R} {ρ : AE} {S : SS} : eGet2 f h j ρ S = R.bind (f ρ S) (eGetI h j ρ) := by
  unfold eGet2 eGetI eGetJ eGetK eGetL eGetM; rfl
theorem eGetI_e {h j : AE → SS → R} {ρ : AE} {a : AV} {S : SS} : eGetI h j ρ a S = eGetJ h j ρ a S (view a S) := (rfl)
theorem eGetJ_e {h j : AE → SS → R} {ρ : AE} {a : AV} {S : SS} {es : List (Key × D)} : eGetJ h j ρ a S (some (.dct es)) = R.bind (h ρ S) (eGetK a j ρ) := (rfl)
theorem eGetK_e {j : AE → SS → R} {ρ : AE} {a b : AV} {S : SS} : eGetK a j ρ b S = R.bind (j ρ S) (eGetL a b) := (rfl)
theorem eGetL_e {a b c : AV} {S : SS} : eGetL a b c S = eGetM S (view a S) (view b S) c := (rfl)
theorem eGetM_e {S : SS} {es : List (Key × D)} {k x : D} {q : Key} (h : keyD k = some q) : eGetM S (some (.dct es)) (some k) (.dat x) = .ok (.dat ((dget es q).getD x)) S := by
  unfold eGetM gGet2
  dsimp only
  rw [h]; rfl
theorem keyD_s {s : Str} : keyD (.str s) = some (.inr s) := (rfl)
theorem gIx_d {es : List (Key × D)} {k : D} {q : Key} {d : D} (h : keyD k = some q) (h2 : dget es q = some d) : gIx (.dct es) k = some (.dt d) := by
  cases k <;> (dsimp only [gIx]; rw [h]; dsimp only; rw [h2]; rfl)
theorem gSet_d {es : List (Key × D)} {k d : D} {q : Key} (h : keyD k = some q) (h2 : es.length < 16777216) : gSet (.dct es) k d = some (.dct (dput es q d)) := by
  show gSetD (.dct es) k d = _
  unfold gSetD
  dsimp only
  rw [h, blt_of (show es.length < line from h2)]
end Ew

set_option Elab.async false
set_option linter.all false
set_option maxRecDepth 100000
set_option maxHeartbeats 4000000
namespace Ew
open PySem PySem.Spec PyProof.Rows L2 SrtO

/-! ### sorted of a list of (text, int) -/
def leSI (p q : Str × Int) : Bool := if p.1 = q.1 then decide (p.2 ≤ q.2) else sle p.1 q.1
def ltSI (p q : Str × Int) : Bool := !leSI q p
theorem leSI_total (p q : Str × Int) : (leSI p q || leSI q p) = true := by
  unfold leSI
  by_cases e : p.1 = q.1
  · rw [if_pos e, if_pos e.symm]
    rcases Int.le_total p.2 q.2 with h | h
    · rw [decide_eq_true h]; rfl
    · rw [decide_eq_true h, Bool.or_true]
  · rw [if_neg e, if_neg (Ne.symm e)]
    exact sle_total _ _
theorem leSI_anti (p q : Str × Int) (h : leSI p q = true) (h2 : leSI q p = true) : p = q := by
  unfold leSI at h h2
  by_cases e : p.1 = q.1
  · rw [if_pos e] at h
    rw [if_pos e.symm] at h2
    exact Prod.ext e (Int.le_antisymm (of_decide_eq_true h) (of_decide_eq_true h2))
  · rw [if_neg e] at h
    rw [if_neg (Ne.symm e)] at h2
    exact absurd (sle_anti _ _ h h2) e
theorem leSI_trans (p q r : Str × Int) (h : leSI p q = true) (h2 : leSI q r = true) : leSI p r = true := by
  unfold leSI at h h2 ⊢
  by_cases e : p.1 = q.1
  · rw [if_pos e] at h
    by_cases e2 : q.1 = r.1
    · rw [if_pos e2] at h2
      rw [if_pos (e.trans e2)]
      exact decide_eq_true (Int.le_trans (of_decide_eq_true h) (of_decide_eq_true h2))
    · rw [if_neg e2] at h2
      rw [if_neg (by rw [e]; exact e2), e]
      exact h2
  · rw [if_neg e] at h
    by_cases e2 : q.1 = r.1
    · rw [if_neg (by rw [← e2]; exact e), ← e2]
      exact h
    · rw [if_neg e2] at h2
      by_cases e3 : p.1 = r.1
      · rw [← e3] at h2
        exact absurd (sle_anti _ _ h h2) e
      · rw [if_neg e3]
        exact sle_trans _ _ _ h h2
theorem ltSI_no {p q : Str × Int} : ltSI p q = false ↔ leSI q p = true := by
  unfold ltSI
  cases leSI q p <;> decide
theorem swoSI {α : Type} (k : α → Str × Int) : Swo fun v u => ltSI (k v) (k u) := by
  refine ⟨fun x y h => ?_, fun x y z h1 h2 => ?_⟩
  · refine ltSI_no.mpr ?_
    have t := leSI_total (k x) (k y)
    have n : leSI (k y) (k x) = false := by
      cases q : leSI (k y) (k x) with
      | false => rfl
      | true =>
        have h' : ltSI (k x) (k y) = true := h
        unfold ltSI at h'
        rw [q] at h'
        cases h'
    rw [n, Bool.or_false] at t
    exact t
  · exact ltSI_no.mpr (leSI_trans _ _ _ (ltSI_no.mp h1) (ltSI_no.mp h2))
def sortP (ps : List (Str × Int)) : List (Str × Int) := ps.mergeSort leSI
theorem sortP_pw (ks : List (Str × Int)) : (sortP ks).Pairwise (fun a b => leSI a b = true) := List.pairwise_mergeSort leSI_trans leSI_total ks
theorem sortP_perm (ks : List (Str × Int)) : (sortP ks).Perm ks := List.mergeSort_perm ks leSI
theorem sortP_eq {ys ks : List (Str × Int)} (hp : ys.Perm ks) (h : ys.Pairwise (fun a b => leSI a b = true)) : ys = sortP ks :=
  List.Perm.eq_of_pairwise (le := fun a b => leSI a b = true) (fun a b _ _ h h' => leSI_anti a b h h') h (sortP_pw ks) (hp.trans (sortP_perm ks).symm)

section
variable {prog : Program} {w : World} {A : Around} {E : Value → Shared → Prop} {s : Shared}
def IsSI (h : Heap) (v : Value) (x : Str) (y : Int) : Prop := ∃ a o t u n, v = .ref a ∧ h.get? a = some o ∧ o.cls = .type "tuple" ∧ o.data = .seq #[.str x t, .int y u] n
theorem IsSI.keeps {h h' : Heap} {v : Value} {x : Str} {y : Int} (p : IsSI h v x y) (k : ∀ b o, h.get? b = some o → o.cls = .type "tuple" → h'.get? b = some o) : IsSI h' v x y := by
  obtain ⟨a, o, t, u, n, e, ho, hc, hd⟩ := p
  exact ⟨a, o, t, u, n, e, k _ _ ho hc, hc, hd⟩
theorem firstsSI {h : Heap} : ∀ {vs : List Value}, (∀ v ∈ vs, ∃ x y, IsSI h v x y) → ∃ fs : List Value, PySem.W.KatTups h vs fs ∧ fs.length = vs.length ∧ ∀ f ∈ fs, ∃ x t, f = Value.str x t
  | [], _ => ⟨[], PySem.W.KatTups.nil, rfl, fun _ hm => by simp at hm⟩
  | v :: vs, hp => by
    obtain ⟨fs, h1, h2, h3⟩ := firstsSI (vs := vs) fun v' hm => hp v' (List.mem_cons_of_mem _ hm)
    obtain ⟨x, y, a, o, t, u, n, e, ho, hc, hd⟩ := hp v (List.mem_cons_self ..)
    subst e
    refine ⟨.str x t :: fs, PySem.W.KatTups.cons ho hc hd rfl h1, by rw [List.length_cons, List.length_cons, h2], fun f hm => ?_⟩
    rcases List.mem_cons.mp hm with rfl | hm
    · exact ⟨x, t, rfl⟩
    · exact h3 f hm
theorem sle_lt {a b : Str} (h : a ≠ b) : decide (a.cps.toList < b.cps.toList) = !sle b a := by
  unfold sle
  by_cases q : b.cps.toList ≤ a.cps.toList
  · rw [decide_eq_true q, decide_eq_false (fun l => absurd q (List.not_le.mpr l))]; rfl
  · rw [decide_eq_false q, decide_eq_true (List.not_le.mp q)]; rfl
theorem si_cmp {vs : List Value} {k : Value → Str × Int} (hp : ∀ v ∈ vs, IsSI s.heap v (k v).1 (k v).2) : Cmp prog w A s (tuples' true) (fun p => p.1 ∈ vs) (lt2 fun v u => ltSI (k v) (k u)) := by
  intro p q hm hm'
  have h1 := hp _ hm
  have h2 := hp _ hm'
  show wpAny (model prog w) A (keyLt' (tuples' true) p.1 q.1) (fun r s' => s' = s ∧ r = ltSI (k p.1) (k q.1)) (fun _ _ => False) s
  unfold ltSI leSI
  generalize (k p.1).1 = x at h1 ⊢
  generalize (k p.1).2 = y at h1 ⊢
  generalize (k q.1).1 = x' at h2 ⊢
  generalize (k q.1).2 = y' at h2 ⊢
  obtain ⟨a, o, t, u, n, e, ho, hc, hd⟩ := h1
  obtain ⟨a', o', t', u', n', e', ho', hc', hd'⟩ := h2
  rw [e, e']
  refine PySem.W.kat_lt ho hd ho' hd' ?_
  show PySem.W.KatLex prog w A true (decide (2 < 2)) _ [(.str x t, .str x' t'), (.int y u, .int y' u')] 0 s
  refine PySem.W.kat_cons (SeqAt.EqAt.str_str x t x' t' prog w _ _ ?_)
  refine PySem.W.kat_go (fun e1 => ?_) (fun e1 => ?_)
  · have ex : x = x' := by simpa using e1
    refine PySem.W.kat_yes (PySem.W.kat_cons (SeqAt.EqAt.int_int y u y' u' prog w _ _ ?_))
    refine PySem.W.kat_go (fun e2 => ?_) (fun e2 => ?_)
    · have ey : y = y' := by simpa using e2
      have e3 : (!if x' = x then decide (y' ≤ y) else sle x' x) = false := by
        rw [if_pos ex.symm, ey, decide_eq_true (Int.le_refl _)]; rfl
      exact PySem.W.kat_yes (PySem.W.kat_nil ⟨rfl, e3.symm⟩)
    · have e3 : (!if x' = x then decide (y' ≤ y) else sle x' x) = decide (y < y') := by
        rw [if_pos ex.symm]
        by_cases l : y < y'
        · rw [decide_eq_true l, decide_eq_false (by omega)]; rfl
        · rw [decide_eq_false l, decide_eq_true (by omega)]; rfl
      refine PySem.W.kat_no (PySem.W.kat_one _ _ (PyProof.Rows.lt_int ?_))
      exact (show s = s ∧ decide (y < y') = _ from ⟨rfl, e3.symm⟩)
  · have ex : ¬ x = x' := by simpa using e1
    have e3 : (!if x' = x then decide (y' ≤ y) else sle x' x) = decide (x.cps.toList < x'.cps.toList) := by
      rw [if_neg (Ne.symm ex), sle_lt ex]
    exact PySem.W.kat_no (oneLt_str ⟨rfl, e3.symm⟩)
theorem si_sortable {a : Addr} {vs : List Value} {k : Value → Str × Int} (h0 : 0 < vs.length) (hp : ∀ v ∈ vs, IsSI s.heap v (k v).1 (k v).2) (ha : ∀ o, s.heap.get? a = some o → o.cls ≠ .type "tuple") : SortableO prog w A s a vs fun v u => ltSI (k v) (k u) := by
  intro h' keep
  have hp' : ∀ v ∈ vs, IsSI h' v (k v).1 (k v).2 := fun v hm => (hp v hm).keeps fun b o e c => keep b o (fun z => by subst z; exact ha o e c) e
  obtain ⟨fs, h1, h2, h3⟩ := firstsSI fun v hm => ⟨_, _, hp' v hm⟩
  refine ⟨tuples' true, fun Q E hq => ?_, si_cmp hp'⟩
  refine PySem.W.kat_kind (T := .type "str") h1 (by omega) (fun f hm => ?_) (by rfl) ?_
  · obtain ⟨x, t, rfl⟩ := h3 f hm
    exact PySem.W.Looks.now
  · have e : (Value.type "str" != Value.type "tuple") = true := by first | decide +kernel | rfl | decide
    rw [e]
    exact hq
theorem sorted_si {l : Addr} {vs : List Value} {k : Value → Str × Int} {Q : Value → Shared → Prop} (hl : s.heap.IsList l vs.toArray) (hz : vs.length ≤ sizeLine) (hp : ∀ v ∈ vs, IsSI s.heap v (k v).1 (k v).2)
    (h : ∀ (h' : Heap) (d : Addr) (out : List Value), Srtd (fun v u => ltSI (k v) (k u)) out → Stb (fun v u => ltSI (k v) (k u)) out vs → (∀ b o, s.heap.get? b = some o → h'.get? b = some o) → s.heap.objs.size ≤ d → (∃ n, h'.get? d = some (seqObj "list" out.toArray n)) → Q (.ref d) { s with heap := h' }) :
    wpAny (model prog w) A (call (.builtin "sorted") [.ref l]) Q E s := by
  refine sorted_ord (swoSI k) hl hz (fun h2 h₁ a ha kk => ?_) fun out hs hb => ?_
  · refine si_sortable (s := { s with heap := h₁ }) (by omega) (fun v hm => (hp v hm).keeps fun b o e _ => (kk b o e).2) fun o e => ?_
    have e' : some o = some (seqObj "list" vs.toArray 0) := e.symm.trans ha
    cases e'
    intro c
    exact absurd (Value.type.inj c) (by decide)
  · exact h _ _ out hs hb (fun b o e => sortedAll_old e) (Nat.le_succ _) (sortedAll_at s.heap vs out.toArray)
end
inductive SiL (K : PySem.W.Frag) (H : Hp) : List V → List (Str × Int) → Prop
  | nil : SiL K H [] []
  | cons {t : Addr} {s : Str} {i : Int} {xs : List V} {ps : List (Str × Int)} : SqT K H t [.str s, .int i] → SiL K H xs ps → SiL K H (.ref t :: xs) ((s, i) :: ps)
/-- sorted(xs), xs a list of (text, int) -/
def rSortedSI (K : PySem.W.Frag) : List V → Hp → VK → Prop := fun vs H Q => ∃ (a : Addr) (xs : List V) (ps : List (Str × Int)), vs = [V.ref a] ∧ SqL K H a xs ∧ SiL K H xs ps ∧
  ∀ ys qs p, SiL K H ys qs → qs.Pairwise (fun x y => leSI x y = true) → qs.Perm ps → H p = none → Q (.ref p) (upd H p (.lst ys))
open Classical in
noncomputable def keySI (K : PySem.W.Frag) (H : Hp) (x : V) : Str × Int :=
  if h : ∃ p : Str × Int, ∃ t, x = V.ref t ∧ SqT K H t [.str p.1, .int p.2] then h.choose else (⟨#[]⟩, 0)
section
variable {X : Cx}
theorem keySI_eq {pins : _} {s : Shared} {σ : _} {H : Hp} (I : Inv X pins σ H s) {t : Addr} {x : Str} {i : Int} (h : SqT X.K H t [.str x, .int i]) : keySI X.K H (.ref t) = (x, i) := by
  have ex : ∃ p : Str × Int, ∃ t', V.ref t = V.ref t' ∧ SqT X.K H t' [.str p.1, .int p.2] := ⟨(x, i), t, rfl, h⟩
  unfold keySI
  rw [dif_pos ex]
  obtain ⟨t', e, h'⟩ := ex.choose_spec
  cases e
  have := I.tuple_inj h' h
  injection this with e1 e2
  injection e2 with e2 _
  injection e1 with e1
  injection e2 with e2
  exact Prod.ext e1 e2
theorem SiL.map {pins : _} {s : Shared} {σ : _} {H : Hp} (I : Inv X pins σ H s) : ∀ {xs : List V} {ps : List (Str × Int)}, SiL X.K H xs ps → ps = xs.map (keySI X.K H)
  | _, _, .nil => rfl
  | _, _, .cons h t => by rw [List.map_cons, keySI_eq I h, ← SiL.map I t]
theorem SiL.mem {K : PySem.W.Frag} {H : Hp} : ∀ {xs : List V} {ps : List (Str × Int)}, SiL K H xs ps → ∀ x ∈ xs, ∃ t s i, x = V.ref t ∧ SqT K H t [.str s, .int i]
  | _, _, .nil, x, m => absurd m (by simp)
  | _, _, .cons h t, x, m => by
    rcases List.mem_cons.mp m with rfl | m
    · exact ⟨_, _, _, rfl, h⟩
    · exact SiL.mem t x m
theorem SiL.back {pins : _} {s : Shared} {σ : _} {H : Hp} (I : Inv X pins σ H s) : ∀ {ys : List V}, (∀ x ∈ ys, ∃ t s i, x = V.ref t ∧ SqT X.K H t [.str s, .int i]) → SiL X.K H ys (ys.map (keySI X.K H))
  | [], _ => .nil
  | y :: ys, h => by
    obtain ⟨t, s, i, rfl, hh⟩ := h y List.mem_cons_self
    rw [List.map_cons, keySI_eq I hh]
    exact .cons hh (SiL.back I fun x m => h x (List.mem_cons_of_mem _ m))
theorem cr_sortedSI : CallR X (.builtin "sorted") (rSortedSI X.K) := by
  intro pins s σ H vs us Q I r h
  obtain ⟨a, xs, ps, rfl, hs, hx, q⟩ := h
  obtain ⟨its, rv, hl, hz⟩ := I.list hs
  obtain ⟨u, rfl, ru⟩ := vals1 r
  obtain rfl : u = Value.ref a := ru
  obtain ⟨e1, e2⟩ := refs_back rv fun x m => by
    obtain ⟨t, _, _, e, _⟩ := hx.mem x m
    exact ⟨t, e⟩
  refine sorted_si (k := fun u => keySI X.K H (backV u)) hl.isList (by rw [← rv.length]; exact hz) (fun v hv => ?_) fun h' d out h1 h2 kp hd hn => ?_
  · obtain ⟨t, rfl⟩ := e2 v hv
    have hm : V.ref t ∈ xs := by rw [e1]; exact List.mem_map.mpr ⟨_, hv, rfl⟩
    obtain ⟨t', s', i', e, ht⟩ := hx.mem _ hm
    cases e
    show IsSI _ _ (keySI X.K H (.ref t)).1 (keySI X.K H (.ref t)).2
    rw [keySI_eq I ht]
    obtain ⟨its2, r2, ⟨o, ho, hc, n, hd⟩, hz2⟩ := I.tuple ht
    obtain ⟨u1, u2, rfl, ri, rj⟩ := vals2 r2
    obtain ⟨t1, rfl⟩ := ri
    obtain ⟨t2, rfl⟩ := rj
    exact ⟨t, o, t1, t2, n, rfl, ho, hc, hd⟩
  · have h3 : ∀ u ∈ out, ∃ a, u = Value.ref a := fun u hu => e2 u (h2.perm.mem_iff.mp hu)
    obtain ⟨n, hn⟩ := hn
    have hb : (out.map backV).Perm xs := by
      rw [e1]
      exact h2.perm.map backV
    have hw : ∀ x ∈ out.map backV, ∃ t s i, x = V.ref t ∧ SqT X.K H t [.str s, .int i] := fun x m => hx.mem x (hb.mem_iff.mp m)
    refine ⟨.ref d, upd H d (.lst (out.map backV)), I.laid (t' := s.toks) kp hd ⟨?_, out, n, vals_back h3, hn⟩, rfl, q _ _ d (SiL.back I hw) (List.pairwise_map.mpr (List.pairwise_map.mpr (h1.imp fun c => ltSI_no.mp c))) ?_ (I.hok.fresh hd)⟩
    · rw [hb.length_eq]
      exact hz
    · rw [hx.map I]
      exact hb.map _
end
/-! at data -/
def sisD : List D → Option (List (Str × Int))
  | [] => some []
  | d :: ds => (match d with
    | .tup [.str s, .int i] => (match sisD ds with
      | some ss => some ((s, i) :: ss)
      | none => none)
    | _ => none)
def siD (p : Str × Int) : D := .tup [.str p.1, .int p.2]
theorem sisD_eq : ∀ {ds : List D} {ps : List (Str × Int)}, sisD ds = some ps → ds = ps.map siD
  | [], ps, e => by cases e; rfl
  | d :: ds, ps, e => by
    unfold sisD at e
    split at e
    · split at e
      · rename_i ss e2
        cases e
        rw [sisD_eq e2]; rfl
      · cases e
    · cases e
theorem sisD_m (ps : List (Str × Int)) : sisD (ps.map siD) = some ps := by
  induction ps with
  | nil => rfl
  | cons k ks ih =>
    rw [List.map_cons]
    show (match sisD (ks.map siD) with | some ss => some ((k.1, k.2) :: ss) | none => none) = _
    rw [ih]
section
variable {K : PySem.W.Frag} {P : Addr → Prop} {H : Hp}
theorem sil_rep : ∀ {xs : List V} {ps : List (Str × Int)}, RepL K P H xs (ps.map siD) → SiL K H xs ps
  | _, [], .nil => .nil
  | _, p :: ps, .cons r t => by
    cases r with
    | tup c r1 =>
      cases r1 with
      | cons ra rt =>
        cases ra
        cases rt with
        | cons rb rn =>
          cases rb
          cases rn
          exact .cons (by first | exact c | exact .of c) (sil_rep t)
theorem rep_sil : ∀ {xs : List V} {ps : List (Str × Int)}, SiL K H xs ps → RepL K P H xs (ps.map siD)
  | _, _, .nil => .nil
  | _, _, .cons h t => .cons (.tup h (.cons (.str _) (.cons (.int _) .nil))) (rep_sil t)
end
end Ew

set_option Elab.async false
set_option linter.all false
set_option maxRecDepth 100000
set_option maxHeartbeats 4000000
namespace Ew
open PySem PySem.Spec PyProof.Rows L2

/-! ### a tuple turned round by a slice -/
section
variable {prog : Program} {w : World} {A : Around} {E : Value → Shared → Prop} {s : Shared}
theorem rev_applied {sl : Addr} {vs : Value} {n : Nat} {Q : Int × Int × Nat → Shared → Prop} (hs : s.heap.IsSliceOf sl .none .none vs) (ps : IsPart vs (some (-1)))
    (h : Q ((n : Int) - 1, -1, n) s) : wpAny (model prog w) A (Builtin.Slice.sliceApplied (.ref sl) (pure (n : Int))) Q E s := by
  obtain ⟨os, hos, hcs, hds⟩ := id hs
  unfold Builtin.Slice.sliceApplied Builtin.Slice.sliceFields
  refine wpAny_bind (wpAny_bind (wpAny_field hos hds (x := .none) rfl (wpAny_bind (wpAny_field hos hds (x := .none) rfl (wpAny_bind (wpAny_field hos hds (x := vs) rfl (wpAny_pure ?_)))))))
  refine wpAny_bind (HT.slicePart_ ps ?_)
  show wpAny _ _ (if ((-1 : Int) == 0) = true then _ else _) _ _ s
  rw [if_neg (by decide)]
  refine wpAny_bind (slicePart_none (wpAny_bind (slicePart_none (wpAny_bind (wpAny_pure ?_)))))
  have e1 : Builtin.Slice.sliceAdjust none none (-1) (n : Int) = ((n : Int) - 1, -1) := rfl
  show wpAny _ _ (match Builtin.Slice.sliceAdjust none none (-1) (n : Int) with | (lo, hi) => pure (lo, (-1 : Int), Builtin.Slice.slicePlaces lo hi (-1))) _ _ s
  rw [e1]
  show wpAny _ _ (pure ((n : Int) - 1, (-1 : Int), Builtin.Slice.slicePlaces ((n : Int) - 1) (-1) (-1))) _ _ s
  have e2 : Builtin.Slice.slicePlaces ((n : Int) - 1) (-1) (-1) = n := by
    unfold Builtin.Slice.slicePlaces
    have h1 : ¬ ((-1 : Int) > 0) := by decide
    have h2 : -(-1 : Int) = 1 := rfl
    simp only [h1, if_false, h2, Int.ediv_one]
    split <;> omega
  rw [e2]
  exact wpAny_pure h
theorem rev_pick (xs : Array Value) : ((List.range xs.size).filterMap fun (m : Nat) => xs[(((xs.size : Int) - 1) + (m : Int) * (-1)).toNat]?).toArray = xs.toList.reverse.toArray := by
  have : ((List.range xs.size).filterMap fun (m : Nat) => xs[(((xs.size : Int) - 1) + (m : Int) * (-1)).toNat]?) = xs.toList.reverse := by
    have key : ∀ (l : List Nat), (∀ m ∈ l, m < xs.size) → (l.filterMap fun (m : Nat) => xs[(((xs.size : Int) - 1) + (m : Int) * (-1)).toNat]?) = l.map fun m => xs.toList.reverse.getD m .none := fun l => by
      induction l with
      | nil => exact fun _ => rfl
      | cons m l ih =>
        intro h
        have hm := h m (List.mem_cons_self ..)
        have e : (((xs.size : Int) - 1) + (m : Int) * (-1)).toNat = xs.size - 1 - m := by omega
        have hl : xs.size - 1 - m < xs.size := by omega
        rw [List.filterMap_cons, e, Array.getElem?_eq_getElem hl, List.map_cons, ih fun k hk => h k (List.mem_cons_of_mem _ hk)]
        dsimp only
        congr 1
        have hr : m < xs.toList.reverse.length := by rw [List.length_reverse, Array.length_toList]; exact hm
        rw [List.getD_eq_getElem?_getD, List.getElem?_eq_getElem hr, List.getElem_reverse]
        simp
    rw [key _ fun m hm => List.mem_range.mp hm]
    refine List.ext_getElem? fun k => ?_
    rw [List.getElem?_map]
    by_cases hk : k < xs.size
    · have hr : k < xs.toList.reverse.length := by rw [List.length_reverse, Array.length_toList]; exact hk
      rw [List.getElem?_range hk, List.getElem?_eq_getElem hr]
      show some (xs.toList.reverse.getD k .none) = _
      rw [List.getD_eq_getElem?_getD, List.getElem?_eq_getElem hr]; rfl
    · rw [List.getElem?_eq_none (by rw [List.length_range]; omega), List.getElem?_eq_none (by rw [List.length_reverse, Array.length_toList]; omega)]; rfl
  rw [this]
theorem getItem_tuple_rev {t sl : Addr} {items : Array Value} {vs : Value} {Q : Value → Shared → Prop} (ht : IsTup s.heap t items) (hs : s.heap.IsSliceOf sl .none .none vs) (ps : IsPart vs (some (-1)))
    (h : Q (.ref s.heap.objs.size) { s with heap := s.heap.push { cls := .type "tuple", data := .seq items.toList.reverse.toArray } })
    (hsz : items.size ≤ sizeLine) : wpAny (model prog w) A (getItem (.ref t) (.ref sl)) Q E s := by
  have htake : sizeOk (.seq items.toList.reverse.toArray) := by
    show items.toList.reverse.toArray.size ≤ sizeLine
    rw [List.size_toArray, List.length_reverse, Array.length_toList]
    exact hsz
  obtain ⟨os, hos, hcs, hds⟩ := id hs
  have hTs : s.TypeIs (.ref sl) "slice" := ⟨os, hos, hcs⟩
  unfold getItem
  try with_reducible refine wpAny_holding ?_
  first | refine wpAny_bind (wpAny_pure ?_) | skip
  refine wpAny_bind (wpAny_sequenceKey ht.typeIs (by decide) ?_)
  refine wpAny_bind (wpAny_callSpecial?_slot (name := Str.ofString "__getitem__") ht.typeIs PyProof.Rows.slot_tuple_getitem
    (wpAny_call_entry PyProof.Rows.slot_tuple_getitem ht.typeIs entry_tuple_getitem ?_ (args_tuple_getitem _ _)))
  show wpAny _ _ (Builtin.Tuple.tupleItemsOf (.ref t) >>= _) _ _ s
  refine wpAny_bind (tupleItemsOf_ ht ?_)
  refine wpAny_bind (wpAny_typeOf hTs ?_)
  rw [if_pos (by decide)]
  refine wpAny_bind (rev_applied hs ps ?_)
  have hno : ¬ ((((items.size : Int) - 1) == 0 && (-1 : Int) == 1 && items.size == items.size) = true) := by
    intro q
    rw [Bool.and_eq_true, Bool.and_eq_true] at q
    have q1 : (-1 : Int) = 1 := eq_of_beq q.1.2
    omega
  show wpAny _ _ (if (((items.size : Int) - 1) == 0 && (-1 : Int) == 1 && items.size == items.size) = true then _ else _) _ _ s
  rw [if_neg hno, rev_pick]
  first
    | exact wpAny_bind (m := Builtin.Tuple.tupleExact _) (wpAny_newObj_type (wpAny_pure ⟨_, rfl, wpAny_pure h⟩) htake)
    | exact wpAny_bind (m := Builtin.Tuple.tupleExact _) (wpAny_newObj_type (wpAny_bind (wpAny_pure (wpAny_pure ⟨_, rfl, wpAny_pure h⟩))) htake)
    | exact wpAny_bind (wpAny_bind (m := Builtin.Tuple.tupleExact _) (wpAny_newObj_type (wpAny_pure (wpAny_pure ⟨_, rfl, wpAny_pure h⟩)) htake))
    | exact wpAny_bind (wpAny_bind (m := Builtin.Tuple.tupleExact _) (wpAny_newObj_type (wpAny_pure ⟨_, rfl, wpAny_pure h⟩) htake))
end
section
variable {X : Cx} {W : WX}
def tRevT (K : PySem.W.Frag) (te : TE) : TE := fun σ H Q => te σ H fun x H1 => ∃ a xs, x = .ref a ∧ SqT K H1 a xs ∧ ∀ p, H1 p = none → Q (.ref p) (upd H1 p (.tup xs.reverse))
theorem pe_revT {e : Expr} {te : TE} {k : Nat} {p1 p2 p3 pos : Pos} (he : PE X e te) : PE X (.Subscript e (.Slice none none (some (.UnaryOp .USub (.Constant (.int 1) k p1) p2)) p3) pos) (tRevT X.K te) := by
  refine ⟨fun pins s σ H Q I h => ?_⟩
  refine Subscript_ (thn (he.run pins s σ H _ I h) fun v s1 ⟨x, H1, I1, r1, q1⟩ => ?_)
  obtain ⟨a, xs, ex, hx, q⟩ := q1
  subst ex
  cases r1
  have hst : PO X (some (.UnaryOp .USub (.Constant (.int 1) k p1) p2)) (tPart (tUn (rU fun i => .int (-i)) (tC (.int 1)))) := po_some (pe_un un_neg pe_int)
  refine wpAny_Slice (thn (po_none.run pins s1 σ H1 (fun o H2 => o = none ∧ H2 = H1) I1 ⟨rfl, rfl⟩) fun vl s2 ⟨l, H2, I2, pl, el, e2⟩ => ?_)
  subst el e2
  refine thn (po_none.run pins s2 σ H2 (fun o H3 => o = none ∧ H3 = H2) I2 ⟨rfl, rfl⟩) fun vu s3 ⟨u, H3, I3, pu, eu, e3⟩ => ?_
  subst eu e3
  refine thn (hst.run pins s3 σ H3 (fun o H4 => o = some (-1) ∧ H4 = H3) I3 ⟨1, rfl, -1, rfl, rfl, rfl⟩) fun vs s4 ⟨o, H4, I4, ps, eo, e4⟩ => ?_
  subst eo e4
  cases pl
  cases pu
  have I5 : Inv X pins σ H4 { s4 with heap := s4.heap.push { cls := .type "slice", data := .fields #[.none, .none, vs] } } := I4.kept (t' := s4.toks) fun b ob q => Heap.get?_push_of_some _ q
  obtain ⟨its, r, ht, hz⟩ := I5.tuple hx
  have hlen := r.length
  show wpAny (model X.prog X.w) X.A (subscriptTail e (.Slice none none (some (.UnaryOp .USub (.Constant (.int 1) k p1) p2)) p3) (.ref a) (.ref s4.heap.objs.size)) (EP X pins σ Q) X.xe { s4 with heap := s4.heap.push { cls := .type "slice", data := .fields #[.none, .none, vs] } }
  refine tail_any (ops := [.ref a, .ref s4.heap.objs.size]) ht.typeIs (PyProof.Rows.slot_tuple_getitem.lookup) ?_ (by with_unfolding_all rfl)
  refine getItem_tuple_rev ht (Heap.IsSliceOf.new _ .none .none vs) ps ?_ (by rw [List.size_toArray]; omega)
  refine ⟨.ref _, _, I5.laid (t' := s4.toks) (o := .tup xs.reverse) (fun b ob q => Heap.get?_push_of_some _ q) (Nat.le_refl _) ?_, rfl, q _ (I5.hok.fresh (Nat.le_refl _))⟩
  exact ⟨by rw [List.length_reverse]; exact hz, _, r.reverse, _, Heap.get?_push_size _ rfl, rfl, 0, rfl⟩
theorem PE.or {e : Expr} {t t' : TE} (h : PE X e t) (h' : PE X e t') : PE X e (fun σ H Q => t σ H Q ∨ t' σ H Q) :=
  PE.ex fun σ H Q q => q.elim (fun q => ⟨t, h, q⟩) fun q => ⟨t', h', q⟩
def gRevT : D → Option RD
  | .tup ds => some (.dt (.tup ds.reverse))
  | _ => none
theorem uv_revT {K : PySem.W.Frag} : UnV K (fun x H1 Q => ∃ a xs, x = .ref a ∧ SqT K H1 a xs ∧ ∀ p, H1 p = none → Q (.ref p) (upd H1 p (.tup xs.reverse))) gRevT := by
  intro P H x d z Q h g q
  cases d <;> try (cases g; done)
  cases (show Rep K P H x (.tup _) from h) with
  | tup c r1 =>
    cases g
    exact ⟨_, _, rfl, c, fun p hp => q _ _ (new_tup hp r1.rev)⟩
/-- xs[::-1] of a list or of a tuple -/
def gRevA (d : D) : Option RD := match d with
  | .tup ds => gRevT (.tup ds)
  | d => gRev d
theorem je_revA {e : Expr} {k : Nat} {p1 p2 p3 pos : Pos} {f : AE → SS → R} (je : JE X W e f) : JE X W (.Subscript e (.Slice none none (some (.UnaryOp .USub (.Constant (.int 1) k p1) p2)) p3) pos) (eUn gRevA f) := fun ρ S => by
  cases hf : f ρ S with
  | bad => exact PE.imp (pe_revT (je ρ S)) fun σ H Q ⟨m, w, en, q⟩ => by unfold eUn at q; rw [hf] at q; exact q.elim
  | exc x S1 => exact PE.imp (pe_revT (je ρ S)) fun σ H Q ⟨m, w, en, q⟩ => ⟨m, w, en, by unfold eUn at q; rw [hf] at q ⊢; exact q⟩
  | ok a S1 =>
    by_cases ht : ∃ ds, view a S1 = some (.tup ds)
    · obtain ⟨ds, hd⟩ := ht
      refine PE.imp (pe_revT (je ρ S)) fun σ H Q q => un_of uv_revT ρ S σ H Q ?_
      have e : eUn gRevT f ρ S = eUn gRevA f ρ S := by
        unfold eUn; rw [hf]
        show un1 gRevT a S1 = un1 gRevA a S1
        unfold un1; rw [hd]; rfl
      rw [e]; exact q
    · refine PE.imp (pe_revL (je ρ S)) fun σ H Q q => un_of uv_rev ρ S σ H Q ?_
      have e : eUn gRev f ρ S = eUn gRevA f ρ S := by
        unfold eUn; rw [hf]
        show un1 gRev a S1 = un1 gRevA a S1
        unfold un1
        cases hv : view a S1 with
        | none => rfl
        | some d =>
          cases d with
          | tup ds => exact absurd ⟨ds, hv⟩ ht
          | _ => rfl
      rw [e]; exact q
theorem gRevA_t {ds : List D} : gRevA (.tup ds) = some (.dt (.tup ds.reverse)) := (rfl)
theorem gRevA_l {ds : List D} : gRevA (.lst ds) = some (.ob (.lst ds.reverse)) := (rfl)
/-! ### is None -/
def nonD : D → Bool
  | .non => true
  | _ => false
def gIsN (neg : Bool) (d e : D) : Option RD := match e with
  | .non => (match d with
    | .opq => none
    | d => some (.dt (.bl (neg != nonD d))))
  | _ => none
theorem isn_of {K : PySem.W.Frag} {P : Addr → Prop} {H : Hp} {x : V} {d : D} (h : RepV K P H x d) (ho : d ≠ .opq) : decide (x = .non) = nonD d := by
  cases d with
  | opq => exact absurd rfl ho
  | non => cases (show Rep K P H x .non from h); rfl
  | bl b => cases (show Rep K P H x (.bl b) from h); rfl
  | int i => cases (show Rep K P H x (.int i) from h); rfl
  | str i => cases (show Rep K P H x (.str i) from h); rfl
  | ty i => cases (show Rep K P H x (.ty i) from h); rfl
  | tup ds => cases (show Rep K P H x (.tup ds) from h); rfl
  | scr ds => cases (show Rep K P H x (.scr ds) from h); rfl
  | lst ds => obtain ⟨a, xs, rfl, _⟩ := h; rfl
  | dct ds => obtain ⟨a, xs, rfl, _⟩ := h; rfl
theorem ov_isN {K : PySem.W.Frag} : OpV K (fun x y H Q => y = .non ∧ Q (.bl (decide (x = .non))) H) (gIsN false) := by
  intro P H x y d e z Q hx hy g q
  cases e <;> try (cases g; done)
  cases (show Rep K P H y .non from hy)
  have ho : d ≠ .opq := fun e => by subst e; cases g
  have g : some (RD.dt (.bl (false != nonD d))) = some z := by cases d <;> first | exact g | exact absurd rfl ho
  cases g
  refine ⟨rfl, ?_⟩
  rw [isn_of hx ho]
  exact q _ _ (nv (by rw [Bool.false_bne]; exact .bl _))
theorem ov_notN {K : PySem.W.Frag} : OpV K (fun x y H Q => y = .non ∧ Q (.bl (!decide (x = .non))) H) (gIsN true) := by
  intro P H x y d e z Q hx hy g q
  cases e <;> try (cases g; done)
  cases (show Rep K P H y .non from hy)
  have ho : d ≠ .opq := fun e => by subst e; cases g
  have g : some (RD.dt (.bl (true != nonD d))) = some z := by cases d <;> first | exact g | exact absurd rfl ho
  cases g
  refine ⟨rfl, ?_⟩
  rw [isn_of hx ho]
  exact q _ _ (nv (by rw [Bool.true_bne]; exact .bl _))
/-! ### sorted of a list of texts -/
def gSortL : D → Option RD
  | .lst ds => (match strsD ds with
    | some ks => (match Nat.blt ks.length 64 with
      | true => some (.ob (.lst ((sortT ks).map D.str)))
      | false => none)
    | none => (match sisD ds with
      | some ps => some (.ob (.lst ((sortP ps).map siD)))
      | none => none))
  | _ => none
def gSortA (d : D) : Option RD := match d with
  | .lst ds => gSortL (.lst ds)
  | d => gSorted d
def rSortA (K : PySem.W.Frag) : List V → Hp → VK → Prop := fun xs H Q => (rSortedDk xs H Q ∨ rSortedS K xs H Q) ∨ rSortedSI K xs H Q
theorem call_sortA (hcalm : X.calm = true) : CallR X (.builtin "sorted") (rSortA X.K) := L2.CallR.or (L2.CallR.or (call_sortedD hcalm) cr_sortedS) cr_sortedSI
theorem strs_rep {K : PySem.W.Frag} {P : Addr → Prop} {H : Hp} : ∀ {vs : List V} {ds : List D} {ks : List Str}, RepL K P H vs ds → strsD ds = some ks → vs = ks.map V.str
  | _, _, ks, .nil, e => by cases e; rfl
  | _, _, ks, @RepL.cons _ _ _ v vs d ds r t, e => by
    cases d <;> try (cases e; done)
    rename_i s
    unfold strsD at e
    split at e
    · rename_i ss e2
      cases e
      cases r
      rw [strs_rep t e2]; rfl
    · cases e
theorem cv_sortA {K : PySem.W.Frag} : CallV K (rSortA K) (g1 gSortA) := by
  intro P H vs ds z Q hv g q
  match ds with
  | [] => cases g
  | _ :: _ :: _ => cases g
  | [d] =>
  by_cases hl : ∃ es, d = .lst es
  · obtain ⟨es, rfl⟩ := hl
    obtain ⟨v, rfl, h⟩ := p1 hv
    obtain ⟨a, xs, rfl, h1, r1⟩ := h
    dsimp only [g1, gSortA, gSortL] at g
    split at g
    · rename_i ks e
      split at g
      · rename_i c
        cases g
        refine .inl (.inr ⟨a, ks, rfl, by rw [← strs_rep r1 e]; exact .of h1, blt_ok c, fun ys p hp hs hH => ?_⟩)
        rw [sortT_eq hp (sorted_pw _ hs)]
        exact q _ _ (new_lst hH (repl_strs _))
      · cases g
    · split at g
      · rename_i ps e
        cases g
        refine .inr ⟨a, xs, ps, rfl, .of h1, ?_, fun ys qs p hy hs hp hH => ?_⟩
        · rw [sisD_eq e] at r1
          exact sil_rep r1
        · rw [sortP_eq hp hs] at hy
          exact q _ _ (new_lst hH (rep_sil hy))
      · cases g
  · have e : g1 gSortA [d] = g1 gSorted [d] := by
      cases d with
      | lst es => exact absurd ⟨es, rfl⟩ hl
      | _ => rfl
    rw [e] at g
    exact .inl (.inl (cv_sorted P H vs [d] z Q hv g q))
theorem strsD_m (ks : List Str) : strsD (ks.map D.str) = some ks := by
  induction ks with
  | nil => rfl
  | cons k ks ih => rw [List.map_cons, strsD, ih]
theorem gSortA_l {ks : List Str} (h : ks.length < 64) : gSortA (.lst (ks.map D.str)) = some (.ob (.lst ((sortT ks).map D.str))) := by
  dsimp only [gSortA, gSortL]
  rw [strsD_m]
  dsimp only
  rw [blt_of h]
theorem strsD_si {ps : List (Str × Int)} (h : ps ≠ []) : strsD (ps.map siD) = none := by
  cases ps with
  | nil => exact absurd rfl h
  | cons p ps => rfl
theorem gSortA_si {ps : List (Str × Int)} (h : ps ≠ []) : gSortA (.lst (ps.map siD)) = some (.ob (.lst ((sortP ps).map siD))) := by
  dsimp only [gSortA, gSortL]
  rw [strsD_si h]
  dsimp only
  rw [sisD_m]
theorem gSortA_d {es : List (Key × D)} : gSortA (.dct es) = gSorted (.dct es) := (rfl)
end
end Ew

set_option Elab.async false
set_option linter.all false
set_option maxRecDepth 100000
set_option maxHeartbeats 8000000
namespace Ew
open PySem PySem.Spec PyProof.Rows L2
local macro_rules | `(tactic| nomatch "e", $ts,*) => `(tactic| simp only [R_bind_ok, R_bind_exc, R_bind_bad, R_toB_ok, R_toB_exc, R_toB_bad, R_toA_ok, R_toA_exc, R_toA_bad, RA_bind_ok, RA_bind_exc, RA_bind_bad, RA_toR_ok, RA_toR_exc, RA_toR_bad, RA_toI_ok, RA_toI_exc, RA_toI_bad, RB_toR_ok, RB_toR_exc, RB_toR_bad, RB_bind_ok, RB_bind_exc, RB_bind_bad, R_toI_ok, R_toI_exc, R_toI_bad, RO_toR_ok, RO_toR_exc, RO_toR_bad, R_toS_ok, R_toS_exc, R_toS_bad, RB_toS_ok, RB_toS_exc, RB_toS_bad, RI_toS_ok, RI_toS_exc, RI_toS_bad, sSeq_e, SR_seq_nx, SR_seq_rt, SR_seq_bk, SR_seq_ct, SR_seq_exc, SR_seq_bad, sNx_e, sBk_e, sCt_e, sBad_e, sRetN_e, sSet_e, sSetK_e, fz1_d, fz1_o, fz1_n, toD_l, toD_d, toD_f, live_l, live_d, sSetO_e, sSetOK_n, sSetOK_d, sSetOK_o, sDrop_e, sDropK_e, sRet_e, sRetK_e, sIf_e, sIfK_t, sIfK_f, sFor_e, sForK_e, turn_e, turnK_s, gN_e, gT_e, gT_l, gsCons_e, gsK_s, gsNil_e, sPut_e, sPutK1_e, sPutK2_e, sPutK3_e, sPutK4_e, apP_e, apPK_e, apPL_e, sUnp_e, sUnpK_e, sUnpL_e, unpV_d, sUnpM_e, sAug_e, sAugJ_e, sAugK_e, sAugL_e, sAugM_e, clB_0, clB_l, clB_d, clB_f, frz_d, frz_n, frz_o, frzK_e, frzs_nil, frzs_c, frzsK_e, frzsL_e, view_d, view_o, viewK_e, view_n, views_nil, views_c, viewsK_e, viewsL_e, eVar_e, eVarK_d, eVarK_o, eC_e, apR_d, apR_o, ap2_e, ap2V_e, eBin_e, eBinK_e, eBinL_e, tBin_e, tBinK_e, tBinL_e, bl2_e, bl2V_e, blR_e, eUn_e, un1_e, un1V_e, tVal_e, tru_e, truV_e, truW_e, truth_n, truth_b, truth_i, truth_t, truth_l, tNt_e, tNtK_e, tAn_e, tAnK_t, tAnK_f, tO_e, tOK_t, tOK_f, tY_e, eAnd_e, eAndK_t, eAndK_f, eOr_e, eOrK_f, eOrK_t, eNot_e, eNotK_e, eIf_e, eIfK_t, eIfK_f, aNil_e, aCons_e, aConsK_e, aConsL_e, eAp_e, ap_e, apV_e, g1_e, g2_e, eMt_e, eMtK_e, eMtV_e, eMtT_e, eMtL_e, apM_e, apMV_e, m1_e, m0_e, tyD_s, tyD_l, eMt0_e, eMt0K_e, eMt0V_e, eMt0T_e, eMu_e, eMuK_e, eMuV_e, eMuT_e, eMuL_e, tyO_l, tyO_d, apU_e, apUK_e, apUL_e, apUM_e, u1_e, u0_e, eMu0_e, eMu0K_e, eMu0V_e, eMu0T_e, eTup_e, eLst_e, mkT_e, mkL_e, mkTK_0, mkLK_0, mkTK_1, mkLK_1, mkTK_2, mkLK_2, mkTK_3, mkLK_3, mkTK_4, mkLK_4, mkTK_5, mkLK_5, mkTK_6, mkLK_6, mkTK_7, mkLK_7, mkTK_8, mkLK_8, oNone_e, oSome_e, oSomeK_e, eSl_e, eSlK_e, eSlL_e, eSlM_e, apS_e, apSV_e, iSeq_e, iSeqK_e, iSeqV_e, iSeqL_e, items_l, items_t, items_s, iRange_e, gAdd_ii, gSub_ii, gNeg_i, gAbs_i, gInt_i, gLt_ii, gLt_ss, gLe_ii, gLe_ss, gGt_ii, gGt_ss, gGe_ii, gGe_ss, gEq_ii, gNe_ii, gEq_ss, gNe_ss, gLen_l, gLen_t, gList_s, gList_l, gList_t, gTuple_l, gTuple_t, gIx_l, gIx_t, optD_e, atI_lit, gSet_l, gSetLK_e, List.getElem?_cons_zero, List.getElem?_cons_succ, List.getElem?_nil, List.set_cons_zero, List.set_cons_succ, List.length_cons, List.length_nil, List.map_cons, List.map_nil, List.cons_append, List.nil_append, Nat.zero_add, Nat.add_zero, Nat.reduceAdd, Nat.reduceSub, Nat.sub_self, Nat.reduceLT, Nat.reduceLeDiff, Int.reduceLT, Int.reduceLE, Int.reduceNeg, Int.reduceEq, decide_true, decide_false, ixN_lit, List.set_nil, List.replicate, Int.reduceAdd, Int.reduceSub, reduceCtorEq, Bool.not_true, Bool.not_false, List.take_succ_cons, List.take_zero, List.take_nil, retS, cutR, cutX, clB_ao, $[$ts:term],*])
local macro_rules | `(tactic| nomatch "e") => `(tactic| simp only [R_bind_ok, R_bind_exc, R_bind_bad, R_toB_ok, R_toB_exc, R_toB_bad, R_toA_ok, R_toA_exc, R_toA_bad, RA_bind_ok, RA_bind_exc, RA_bind_bad, RA_toR_ok, RA_toR_exc, RA_toR_bad, RA_toI_ok, RA_toI_exc, RA_toI_bad, RB_toR_ok, RB_toR_exc, RB_toR_bad, RB_bind_ok, RB_bind_exc, RB_bind_bad, R_toI_ok, R_toI_exc, R_toI_bad, RO_toR_ok, RO_toR_exc, RO_toR_bad, R_toS_ok, R_toS_exc, R_toS_bad, RB_toS_ok, RB_toS_exc, RB_toS_bad, RI_toS_ok, RI_toS_exc, RI_toS_bad, sSeq_e, SR_seq_nx, SR_seq_rt, SR_seq_bk, SR_seq_ct, SR_seq_exc, SR_seq_bad, sNx_e, sBk_e, sCt_e, sBad_e, sRetN_e, sSet_e, sSetK_e, fz1_d, fz1_o, fz1_n, toD_l, toD_d, toD_f, live_l, live_d, sSetO_e, sSetOK_n, sSetOK_d, sSetOK_o, sDrop_e, sDropK_e, sRet_e, sRetK_e, sIf_e, sIfK_t, sIfK_f, sFor_e, sForK_e, turn_e, turnK_s, gN_e, gT_e, gT_l, gsCons_e, gsK_s, gsNil_e, sPut_e, sPutK1_e, sPutK2_e, sPutK3_e, sPutK4_e, apP_e, apPK_e, apPL_e, sUnp_e, sUnpK_e, sUnpL_e, unpV_d, sUnpM_e, sAug_e, sAugJ_e, sAugK_e, sAugL_e, sAugM_e, clB_0, clB_l, clB_d, clB_f, frz_d, frz_n, frz_o, frzK_e, frzs_nil, frzs_c, frzsK_e, frzsL_e, view_d, view_o, viewK_e, view_n, views_nil, views_c, viewsK_e, viewsL_e, eVar_e, eVarK_d, eVarK_o, eC_e, apR_d, apR_o, ap2_e, ap2V_e, eBin_e, eBinK_e, eBinL_e, tBin_e, tBinK_e, tBinL_e, bl2_e, bl2V_e, blR_e, eUn_e, un1_e, un1V_e, tVal_e, tru_e, truV_e, truW_e, truth_n, truth_b, truth_i, truth_t, truth_l, tNt_e, tNtK_e, tAn_e, tAnK_t, tAnK_f, tO_e, tOK_t, tOK_f, tY_e, eAnd_e, eAndK_t, eAndK_f, eOr_e, eOrK_f, eOrK_t, eNot_e, eNotK_e, eIf_e, eIfK_t, eIfK_f, aNil_e, aCons_e, aConsK_e, aConsL_e, eAp_e, ap_e, apV_e, g1_e, g2_e, eMt_e, eMtK_e, eMtV_e, eMtT_e, eMtL_e, apM_e, apMV_e, m1_e, m0_e, tyD_s, tyD_l, eMt0_e, eMt0K_e, eMt0V_e, eMt0T_e, eMu_e, eMuK_e, eMuV_e, eMuT_e, eMuL_e, tyO_l, tyO_d, apU_e, apUK_e, apUL_e, apUM_e, u1_e, u0_e, eMu0_e, eMu0K_e, eMu0V_e, eMu0T_e, eTup_e, eLst_e, mkT_e, mkL_e, mkTK_0, mkLK_0, mkTK_1, mkLK_1, mkTK_2, mkLK_2, mkTK_3, mkLK_3, mkTK_4, mkLK_4, mkTK_5, mkLK_5, mkTK_6, mkLK_6, mkTK_7, mkLK_7, mkTK_8, mkLK_8, oNone_e, oSome_e, oSomeK_e, eSl_e, eSlK_e, eSlL_e, eSlM_e, apS_e, apSV_e, iSeq_e, iSeqK_e, iSeqV_e, iSeqL_e, items_l, items_t, items_s, iRange_e, gAdd_ii, gSub_ii, gNeg_i, gAbs_i, gInt_i, gLt_ii, gLt_ss, gLe_ii, gLe_ss, gGt_ii, gGt_ss, gGe_ii, gGe_ss, gEq_ii, gNe_ii, gEq_ss, gNe_ss, gLen_l, gLen_t, gList_s, gList_l, gList_t, gTuple_l, gTuple_t, gIx_l, gIx_t, optD_e, atI_lit, gSet_l, gSetLK_e, List.getElem?_cons_zero, List.getElem?_cons_succ, List.getElem?_nil, List.set_cons_zero, List.set_cons_succ, List.length_cons, List.length_nil, List.map_cons, List.map_nil, List.cons_append, List.nil_append, Nat.zero_add, Nat.add_zero, Nat.reduceAdd, Nat.reduceSub, Nat.sub_self, Nat.reduceLT, Nat.reduceLeDiff, Int.reduceLT, Int.reduceLE, Int.reduceNeg, Int.reduceEq, decide_true, decide_false, ixN_lit, List.set_nil, List.replicate, Int.reduceAdd, Int.reduceSub, reduceCtorEq, Bool.not_true, Bool.not_false, List.take_succ_cons, List.take_zero, List.take_nil, retS, cutR, cutX, clB_ao])

/-! ### forms, and what laws over forms draw -/
def b_law_name : AE → SS → SR :=
(sSeq (sSet 1 (eC (.str "!\"#$&()*+,-./0123456789:;<=>?@ABCDEFGHIJKLMNOPQRSTUVWXYZ[\\]^_`")))
(sSeq (sSet 1 (eBin gAdd (eVar 1) (eC (.str "abcdefghijklmnopqrstuvwxyz{|}~"))))
(sRet (eMt "str" (m1 gJoin) (eC (.str "")) (aCons (eLc (([("k", 2)] : List (Str × Nat)).map (·.2)) (iRange (aCons (eBin gAdd (eC (.int 1)) (eCall 2 m_law_draw (aCons (eVar 0) (aCons (eC (.int 3)) aNil)))) aNil)) (gN 2) tY (eBin gIx (eVar 1) (eCall 2 m_law_draw (aCons (eVar 0) (aCons (eAp (g1 gLen) (aCons (eVar 1) aNil)) aNil))))) aNil)))))
def m_law_name : List AV → SS → R := runF 3 b_law_name
def b_law_pool : AE → SS → SR :=
(sSeq (sSet 2 (eCall 1 m_law_name (aCons (eVar 0) aNil)))
(sSeq (sSetO 3 (eLst aNil))
(sSeq (sFor (iRange (aCons (eVar 1) aNil)) (gN 4)
(sSeq (sSet 5 (eBin gIx (eLst (aCons (eBin gAdd (eVar 2) (eAp (g1 gStr) (aCons (eVar 4) aNil))) (aCons (eCall 1 m_law_name (aCons (eVar 0) aNil)) (aCons (eBin gAdd (eC (.str "@")) (eVar 2)) (aCons (eVar 2) aNil))))) (eCall 2 m_law_draw (aCons (eVar 0) (aCons (eC (.int 4)) aNil)))))
(sIf (tBin (gInX true) (eVar 5) (eVar 3)) (sDrop (eMu "list" (u1 gAppend) (eVar 3) (aCons (eVar 5) aNil)))
sNx)))
(sRet (eVar 3)))))
def m_law_pool : List AV → SS → R := runF 6 b_law_pool
def b_law_signed : AE → SS → SR :=
(sRet (eBin gSub (eCall 2 m_law_draw (aCons (eVar 0) (aCons (eBin gAdd (eBin gMul (eC (.int 2)) (eVar 1)) (eC (.int 1))) aNil))) (eVar 1)))
def m_law_signed : List AV → SS → R := runF 2 b_law_signed
def b_law_number : AE → SS → SR :=
(sSeq (sIf (tBin gEq (eCall 2 m_law_draw (aCons (eVar 0) (aCons (eC (.int 8)) aNil))) (eC (.int 0))) (sRet (eBin gAdd (eBin gMul (eCall 2 m_law_signed (aCons (eVar 0) (aCons (eC (.int 1000)) aNil))) (eBin gPow (eC (.int 10)) (eC (.int 40)))) (eCall 2 m_law_signed (aCons (eVar 0) (aCons (eC (.int 1000000)) aNil)))))
sNx)
(sRet (eCall 2 m_law_signed (aCons (eVar 0) (aCons (eC (.int 3)) aNil)))))
def m_law_number : List AV → SS → R := runF 1 b_law_number
def b_form : AE → SS → SR :=
(sSeq (sSetO 2 eDnew)
(sSeq (sFor (iSeq (eVar 1)) (gT (gsCons (gN 3) (gsCons (gN 4) gsNil)))
(sPut gSet (eVar 2) (eVar 3) (eBin gAdd (eGet2 (eVar 2) (eVar 3) (eC (.int 0))) (eVar 4))))
(sRet (eTup (aCons (eVar 0) (aCons (eAp (g1 gTuple) (aCons (eLc (([("name", 3)] : List (Str × Nat)).map (·.2)) (iSeq (eAp (g1 gSortA) (aCons (eVar 2) aNil))) (gN 3) (tBin gNe (eBin gIx (eVar 2) (eVar 3)) (eC (.int 0))) (eTup (aCons (eVar 3) (aCons (eBin gIx (eVar 2) (eVar 3)) aNil)))) aNil)) aNil))))))
def m_form : List AV → SS → R := runF 5 b_form
theorem call_d2s {F : List AV → SS → R} {f : AE → SS → RA} {ρ : AE} {S S1 : SS} {d1 d2 d : D} (e : F [.dat d1, .dat d2] [] = .ok (.dat d) []) (h : f ρ S = .ok [.dat d1, .dat d2] S1) : eCall 2 F f ρ S = .ok (.dat d) S1 :=
  eCall_e h rfl (callF_0 rfl e rfl)
theorem callF_1n {F : List AV → SS → R} {as : List AV} {S : SS} {n : Nat} {o o' z : AO} (hS : S[n]? = some o) (c1 : clO o = true) (c2 : clO o' = true) (h : AV.hs as = []) (e : F (.own 0 :: as) [o] = .ok (.new z) [o']) (ha : as.map (fun a => ren [n] (fz1 a)) = as) : callF F (.own n :: as) S = .ok (.new z) (S.set n o') := by
  unfold callF
  have e1 : AV.hs (.own n :: as) = [n] := by unfold AV.hs; rw [h]
  have e2 : ren [n] (fz1 (.own n)) = .own 0 := by
    show AV.own ([n].idxOf n) = _
    simp
  have e3 : (!([] : List Nat).contains n && true) = true := rfl
  rw [e1]
  have b1 : clB [o] = true := by show (clO o && true) = true; rw [c1]; rfl
  have b2 : clB [o'] = true := by show (clO o' && true) = true; rw [c2]; rfl
  have b3 : okL [o'] [o] = true := by show (Nat.beq 1 1 && clB [o']) = true; rw [b2]; rfl
  simp only [nodupB, pick, hS, List.map_cons, ha, e2, e3, e, b1, b3]
  rfl
theorem call_o2n {F : List AV → SS → R} {f : AE → SS → RA} {ρ : AE} {S : SS} {n : Nat} {o o' z : AO} {d1 : D} (e : F [.own 0, .dat d1] [o] = .ok (.new z) [o']) (h : f ρ S = .ok [.own n, .dat d1] S) (hS : S[n]? = some o) (c1 : clO o = true := by rfl) (c2 : clO o' = true := by rfl) : eCall 2 F f ρ S = .ok (.new z) (S.set n o') :=
  eCall_e h rfl (callF_1n hS c1 c2 rfl e rfl)
/-- a pair of a name and a number -/
def pD (p : Str × Int) : D := .tup [.str p.1, .int p.2]
def fD (c : Int) (ps : List (Str × Int)) : D := .tup [.int c, .tup (ps.map pD)]
/-- the number that belongs to a name -/
def co : List (Str × Int) → Str → Int
  | [], _ => 0
  | p :: ps, n => (if p.1 = n then p.2 else 0) + co ps n
theorem co_app (ps qs : List (Str × Int)) (n : Str) : co (ps ++ qs) n = co ps n + co qs n := by
  induction ps with
  | nil => show co qs n = 0 + _; omega
  | cons p ps ih => rw [List.cons_append, co, co, ih]; omega
def addK (ks : List Str) (n : Str) : List Str := if n ∈ ks then ks else ks ++ [n]
def keysOf (ps : List (Str × Int)) : List Str := (ps.map (·.1)).foldl addK []
theorem addK_mem {ks : List Str} {n x : Str} : x ∈ addK ks n ↔ x ∈ ks ∨ x = n := by
  unfold addK
  split
  · rename_i h
    exact ⟨.inl, fun z => z.elim id fun e => e ▸ h⟩
  · rw [List.mem_append, List.mem_singleton]
theorem foldK_mem (ns : List Str) : ∀ (ks : List Str) (x : Str), x ∈ ns.foldl addK ks ↔ x ∈ ks ∨ x ∈ ns := by
  induction ns with
  | nil => intro ks x; simp
  | cons n ns ih =>
    intro ks x
    rw [List.foldl_cons, ih, addK_mem, List.mem_cons, or_assoc]
theorem keysOf_mem {ps : List (Str × Int)} {x : Str} : x ∈ keysOf ps ↔ x ∈ ps.map (·.1) := by
  unfold keysOf
  rw [foldK_mem]
  simp
theorem addK_nodup {ks : List Str} {n : Str} (h : ks.Nodup) : (addK ks n).Nodup := by
  unfold addK
  split
  · exact h
  · rename_i hn
    rw [List.nodup_append]
    refine ⟨h, by simp, fun a ha b hb e => hn ?_⟩
    rw [← List.mem_singleton.mp hb, ← e]; exact ha
theorem foldK_nodup (ns : List Str) : ∀ (ks : List Str), ks.Nodup → (ns.foldl addK ks).Nodup := by
  induction ns with
  | nil => intro ks h; exact h
  | cons n ns ih => intro ks h; exact ih _ (addK_nodup h)
theorem keysOf_nodup (ps : List (Str × Int)) : (keysOf ps).Nodup := foldK_nodup _ [] (by simp)
theorem addK_len {ks : List Str} {n : Str} : (addK ks n).length ≤ ks.length + 1 := by
  unfold addK
  split
  · omega
  · simp
theorem foldK_len (ns : List Str) : ∀ (ks : List Str), (ns.foldl addK ks).length ≤ ks.length + ns.length := by
  induction ns with
  | nil => intro ks; simp
  | cons n ns ih =>
    intro ks
    have a := ih (addK ks n)
    have b := addK_len (ks := ks) (n := n)
    rw [List.foldl_cons, List.length_cons]; omega
theorem keysOf_len (ps : List (Str × Int)) : (keysOf ps).length ≤ ps.length := by
  have := foldK_len (ps.map (·.1)) []
  rw [List.length_map, List.length_nil] at this
  show ((ps.map (·.1)).foldl addK []).length ≤ _
  omega
theorem keysOf_snoc (ps : List (Str × Int)) (p : Str × Int) : keysOf (ps ++ [p]) = addK (keysOf ps) p.1 := by
  unfold keysOf
  rw [List.map_append, List.foldl_append]; rfl
theorem co_not {ps : List (Str × Int)} {n : Str} (h : n ∉ ps.map (·.1)) : co ps n = 0 := by
  induction ps with
  | nil => rfl
  | cons p ps ih =>
    rw [List.map_cons, List.mem_cons, not_or] at h
    rw [co, ih h.2, if_neg (fun e => h.1 e.symm)]; rfl
/-- a dict of numbers by names -/
def dE (ks : List Str) (f : Str → Int) : List (Key × D) := ks.map fun k => (Sum.inr k, .int (f k))
theorem dget_dE {ks : List Str} {f : Str → Int} {k : Str} : dget (dE ks f) (.inr k) = if k ∈ ks then some (.int (f k)) else none := by
  induction ks with
  | nil => rfl
  | cons a ks ih =>
    show (if (Sum.inr a : Key) = .inr k then some (D.int (f a)) else dget (dE ks f) (.inr k)) = _
    by_cases h : a = k
    · subst h
      rw [if_pos rfl, if_pos (List.mem_cons_self ..)]
    · have h2 : ¬ (Sum.inr a : Key) = .inr k := fun e => h (Sum.inr.inj e)
      have h3 : k ∈ a :: ks ↔ k ∈ ks := by
        rw [List.mem_cons]; exact ⟨fun z => z.elim (fun e => absurd e.symm h) id, .inr⟩
      rw [if_neg h2, ih]
      simp only [h3]
theorem dE_any {ks : List Str} {f : Str → Int} {k : Str} : ((dE ks f).any fun e => decide (e.1 = Sum.inr k)) = decide (k ∈ ks) := by
  induction ks with
  | nil => simp [dE]
  | cons a ks ih =>
    show (decide ((Sum.inr a : Key) = .inr k) || (dE ks f).any _) = _
    rw [ih, Bool.eq_iff_iff]
    simp only [Bool.or_eq_true, decide_eq_true_eq, List.mem_cons]
    constructor
    · rintro (e | e)
      · exact .inl (Sum.inr.inj e).symm
      · exact .inr e
    · rintro (e | e)
      · exact .inl (by rw [e])
      · exact .inr e
theorem dput_dE {ks : List Str} {f : Str → Int} {k : Str} {v : Int} : dput (dE ks f) (.inr k) (.int v) = dE (addK ks k) (fun x => if x = k then v else f x) := by
  unfold dput
  rw [dE_any]
  unfold addK
  by_cases h : k ∈ ks
  · rw [if_pos (decide_eq_true h), if_pos h]
    unfold dE
    rw [List.map_map]
    refine List.map_congr_left fun a _ => ?_
    show (if (Sum.inr a : Key) = .inr k then ((Sum.inr a : Key), D.int v) else (Sum.inr a, .int (f a))) = (Sum.inr a, .int (if a = k then v else f a))
    by_cases e : a = k
    · subst e
      rw [if_pos rfl, if_pos rfl]
    · rw [if_neg (fun z => e (Sum.inr.inj z)), if_neg e]
  · rw [if_neg (by simp [h]), if_neg h]
    unfold dE
    rw [List.map_append]
    congr 1
    · refine List.map_congr_left fun a ha => ?_
      show (Sum.inr a, D.int (f a)) = ((Sum.inr a : Key), D.int (if a = k then v else f a))
      rw [if_neg (fun e : a = k => h (by rw [← e]; exact ha))]
    · show [((Sum.inr k : Key), D.int v)] = [((Sum.inr k : Key), D.int (if k = k then v else f k))]
      rw [if_pos rfl]
theorem keysT_dE {ks : List Str} {f : Str → Int} : keysT (dE ks f) = some ks := by
  induction ks with
  | nil => rfl
  | cons a ks ih =>
    show (match keysT (dE ks f) with | some ss => some (a :: ss) | none => none) = _
    rw [ih]
theorem gSorted_dE {ks : List Str} {f : Str → Int} (h : ks.length < 64) : gSortA (.dct (dE ks f)) = some (.ob (.lst ((sortT ks).map D.str))) := by
  rw [gSortA_d]
  dsimp only [gSorted]
  rw [keysT_dE]
  dsimp only
  rw [blt_of h]
/-- the plain form of these pairs -/
def nf (ps : List (Str × Int)) : List (Str × Int) := ((sortT (keysOf ps)).filter fun k => !decide (co ps k = 0)).map fun k => (k, co ps k)
theorem nf_len (ps : List (Str × Int)) : (nf ps).length ≤ (keysOf ps).length := by
  unfold nf
  rw [List.length_map]
  exact Nat.le_trans (List.length_filter_le _ _) (Nat.le_of_eq (sortT_perm _).length_eq)
theorem form_loop {ps : List (Str × Int)} (hl : ps.length ≤ 1000000) (c src : D) : ∃ x y, forD (turn (gT (gsCons (gN 3) (gsCons (gN 4) gsNil)))
    (sPut gSet (eVar 2) (eVar 3) (eBin gAdd (eGet2 (eVar 2) (eVar 3) (eC (.int 0))) (eVar 4)))) (ps.map pD) [some (.dat c), some (.dat src), some (.own 0), none, none] [.dct []] =
    .nx [some (.dat c), some (.dat src), some (.own 0), x, y] [.dct (dE (keysOf ps) (co ps))] := by
  have z := forD_inv (body := turn (gT (gsCons (gN 3) (gsCons (gN 4) gsNil))) (sPut gSet (eVar 2) (eVar 3) (eBin gAdd (eGet2 (eVar 2) (eVar 3) (eC (.int 0))) (eVar 4)))) (ps.map pD)
    (fun k ρ S => ∃ x y, ρ = [some (.dat c), some (.dat src), some (.own 0), x, y] ∧ S = [.dct (dE (keysOf (ps.take k)) (co (ps.take k)))]) [some (.dat c), some (.dat src), some (.own 0), none, none] [.dct []] ⟨none, none, rfl, rfl⟩ (by
    rintro k d ρ S hk ⟨x, y, rfl, rfl⟩
    rw [List.getElem?_map] at hk
    cases hp : ps[k]? with
    | none => rw [hp] at hk; cases hk
    | some p =>
    rw [hp] at hk
    cases hk
    have ht : ps.take (k + 1) = ps.take k ++ [p] := by rw [List.take_add_one, hp]; rfl
    have hlen : (dE (keysOf (ps.take k)) (co (ps.take k))).length < 16777216 := by
      have := keysOf_len (ps.take k)
      rw [List.length_take] at this
      unfold dE
      rw [List.length_map]; omega
    have hget : (dget (dE (keysOf (ps.take k)) (co (ps.take k))) (.inr p.1)).getD (.int 0) = .int (co (ps.take k) p.1) := by
      rw [dget_dE]
      split
      · rfl
      · rename_i h
        rw [co_not (fun z => h (keysOf_mem.mpr z))]; rfl
    have gs := gSet_d (es := dE (keysOf (ps.take k)) (co (ps.take k))) (k := .str p.1) (d := .int (co (ps.take k) p.1 + p.2)) (keyD_s) hlen
    have e : dE (addK (keysOf (ps.take k)) p.1) (fun x => if x = p.1 then co (ps.take k) p.1 + p.2 else co (ps.take k) x) = dE (keysOf (ps.take (k + 1))) (co (ps.take (k + 1))) := by
      rw [ht, keysOf_snoc]
      congr 1
      funext x
      rw [co_app]
      show _ = _ + ((if p.1 = x then p.2 else 0) + 0)
      by_cases h : x = p.1
      · subst h
        rw [if_pos rfl, if_pos rfl, Int.add_zero]
      · rw [if_neg h, if_neg (fun z => h z.symm)]; omega
    rw [dput_dE, e] at gs
    refine ⟨_, _, .inl ?_, some (.dat (.str p.1)), some (.dat (.int p.2)), rfl, rfl⟩
    nomatch "e", pD, eGet2_e, eGetI_e, eGetJ_e, eGetK_e, eGetL_e, eGetM_e keyD_s, hget, gs)
  obtain ⟨ρ', S', e, x, y, rfl, rfl⟩ := z
  rw [List.length_map, List.take_length] at e
  exact ⟨x, y, e⟩
theorem form_ok {ps : List (Str × Int)} (hl : ps.length ≤ 1000000) (hk : (keysOf ps).length < 64) (c : Int) {src : D} (hi : itemsD src = some (ps.map pD)) : m_form [.dat (.int c), .dat src] [] = .ok (.dat (fD c (nf ps))) [] := by
  unfold m_form b_form runF
  obtain ⟨x, y, lp⟩ := form_loop hl (.int c) src
  have lc := lcF_filter (g := gN 3) (t := tBin gNe (eBin gIx (eVar 2) (eVar 3)) (eC (.int 0))) (e := eTup (aCons (eVar 3) (aCons (eBin gIx (eVar 2) (eVar 3)) aNil))) (ρ0 := [some (.dat (.int c)), some (.dat src), some (.own 0), none, y]) (S := [.dct (dE (keysOf ps) (co ps))])
    (sortT (keysOf ps)) D.str (fun k => pD (k, co ps k)) (fun k => !decide (co ps k = 0)) (fun k => [some (.dat (.int c)), some (.dat src), some (.own 0), some (.dat (.str k)), y]) (fun _ _ => rfl)
    (fun k h => by
      have gx := gIx_d (es := dE (keysOf ps) (co ps)) (k := .str k) (d := .int (co ps k)) keyD_s (by rw [dget_dE, if_pos ((sortT_perm _).mem_iff.mp h)])
      nomatch "e", gx)
    (fun k h _ => by
      have gx := gIx_d (es := dE (keysOf ps) (co ps)) (k := .str k) (d := .int (co ps k)) keyD_s (by rw [dget_dE, if_pos ((sortT_perm _).mem_iff.mp h)])
      nomatch "e", gx, pD)
  have hn : (nf ps).map pD = ((sortT (keysOf ps)).filter fun k => !decide (co ps k = 0)).map fun k => pD (k, co ps k) := by
    unfold nf
    rw [List.map_map]; rfl
  rw [← hn] at lc
  have hlen : ((nf ps).map pD).length ≤ 16777216 := by
    have := nf_len ps
    rw [List.length_map]; omega
  have gs := gSorted_dE (f := co ps) hk
  nomatch "e", eDnew_e, hi, lp, gs, eLc_e, eLcI_e, wipeA_nil, wipeA_c, lc, eLcJ_e hlen, fD
end Ew

set_option Elab.async false
set_option linter.all false
set_option maxRecDepth 100000
set_option maxHeartbeats 8000000
namespace Ew
open PySem PySem.Spec PyProof.Rows L2
local macro_rules | `(tactic| nomatch "e", $ts,*) => `(tactic| simp only [R_bind_ok, R_bind_exc, R_bind_bad, R_toB_ok, R_toB_exc, R_toB_bad, R_toA_ok, R_toA_exc, R_toA_bad, RA_bind_ok, RA_bind_exc, RA_bind_bad, RA_toR_ok, RA_toR_exc, RA_toR_bad, RA_toI_ok, RA_toI_exc, RA_toI_bad, RB_toR_ok, RB_toR_exc, RB_toR_bad, RB_bind_ok, RB_bind_exc, RB_bind_bad, R_toI_ok, R_toI_exc, R_toI_bad, RO_toR_ok, RO_toR_exc, RO_toR_bad, R_toS_ok, R_toS_exc, R_toS_bad, RB_toS_ok, RB_toS_exc, RB_toS_bad, RI_toS_ok, RI_toS_exc, RI_toS_bad, sSeq_e, SR_seq_nx, SR_seq_rt, SR_seq_bk, SR_seq_ct, SR_seq_exc, SR_seq_bad, sNx_e, sBk_e, sCt_e, sBad_e, sRetN_e, sSet_e, sSetK_e, fz1_d, fz1_o, fz1_n, toD_l, toD_d, toD_f, live_l, live_d, sSetO_e, sSetOK_n, sSetOK_d, sSetOK_o, sDrop_e, sDropK_e, sRet_e, sRetK_e, sIf_e, sIfK_t, sIfK_f, sFor_e, sForK_e, turn_e, turnK_s, gN_e, gT_e, gT_l, gsCons_e, gsK_s, gsNil_e, sPut_e, sPutK1_e, sPutK2_e, sPutK3_e, sPutK4_e, apP_e, apPK_e, apPL_e, sUnp_e, sUnpK_e, sUnpL_e, unpV_d, sUnpM_e, sAug_e, sAugJ_e, sAugK_e, sAugL_e, sAugM_e, clB_0, clB_l, clB_d, clB_f, frz_d, frz_n, frz_o, frzK_e, frzs_nil, frzs_c, frzsK_e, frzsL_e, view_d, view_o, viewK_e, view_n, views_nil, views_c, viewsK_e, viewsL_e, eVar_e, eVarK_d, eVarK_o, eC_e, apR_d, apR_o, ap2_e, ap2V_e, eBin_e, eBinK_e, eBinL_e, tBin_e, tBinK_e, tBinL_e, bl2_e, bl2V_e, blR_e, eUn_e, un1_e, un1V_e, tVal_e, tru_e, truV_e, truW_e, truth_n, truth_b, truth_i, truth_t, truth_l, tNt_e, tNtK_e, tAn_e, tAnK_t, tAnK_f, tO_e, tOK_t, tOK_f, tY_e, eAnd_e, eAndK_t, eAndK_f, eOr_e, eOrK_f, eOrK_t, eNot_e, eNotK_e, eIf_e, eIfK_t, eIfK_f, aNil_e, aCons_e, aConsK_e, aConsL_e, eAp_e, ap_e, apV_e, g1_e, g2_e, eMt_e, eMtK_e, eMtV_e, eMtT_e, eMtL_e, apM_e, apMV_e, m1_e, m0_e, tyD_s, tyD_l, eMt0_e, eMt0K_e, eMt0V_e, eMt0T_e, eMu_e, eMuK_e, eMuV_e, eMuT_e, eMuL_e, tyO_l, tyO_d, apU_e, apUK_e, apUL_e, apUM_e, u1_e, u0_e, eMu0_e, eMu0K_e, eMu0V_e, eMu0T_e, eTup_e, eLst_e, mkT_e, mkL_e, mkTK_0, mkLK_0, mkTK_1, mkLK_1, mkTK_2, mkLK_2, mkTK_3, mkLK_3, mkTK_4, mkLK_4, mkTK_5, mkLK_5, mkTK_6, mkLK_6, mkTK_7, mkLK_7, mkTK_8, mkLK_8, oNone_e, oSome_e, oSomeK_e, eSl_e, eSlK_e, eSlL_e, eSlM_e, apS_e, apSV_e, iSeq_e, iSeqK_e, iSeqV_e, iSeqL_e, items_l, items_t, items_s, iRange_e, gAdd_ii, gSub_ii, gNeg_i, gAbs_i, gInt_i, gLt_ii, gLt_ss, gLe_ii, gLe_ss, gGt_ii, gGt_ss, gGe_ii, gGe_ss, gEq_ii, gNe_ii, gEq_ss, gNe_ss, gLen_l, gLen_t, gList_s, gList_l, gList_t, gTuple_l, gTuple_t, gIx_l, gIx_t, optD_e, atI_lit, gSet_l, gSetLK_e, List.getElem?_cons_zero, List.getElem?_cons_succ, List.getElem?_nil, List.set_cons_zero, List.set_cons_succ, List.length_cons, List.length_nil, List.map_cons, List.map_nil, List.cons_append, List.nil_append, Nat.zero_add, Nat.add_zero, Nat.reduceAdd, Nat.reduceSub, Nat.sub_self, Nat.reduceLT, Nat.reduceLeDiff, Int.reduceLT, Int.reduceLE, Int.reduceNeg, Int.reduceEq, decide_true, decide_false, ixN_lit, List.set_nil, List.replicate, Int.reduceAdd, Int.reduceSub, reduceCtorEq, Bool.not_true, Bool.not_false, List.take_succ_cons, List.take_zero, List.take_nil, retS, cutR, cutX, clB_ao, $[$ts:term],*])
local macro_rules | `(tactic| nomatch "e") => `(tactic| simp only [R_bind_ok, R_bind_exc, R_bind_bad, R_toB_ok, R_toB_exc, R_toB_bad, R_toA_ok, R_toA_exc, R_toA_bad, RA_bind_ok, RA_bind_exc, RA_bind_bad, RA_toR_ok, RA_toR_exc, RA_toR_bad, RA_toI_ok, RA_toI_exc, RA_toI_bad, RB_toR_ok, RB_toR_exc, RB_toR_bad, RB_bind_ok, RB_bind_exc, RB_bind_bad, R_toI_ok, R_toI_exc, R_toI_bad, RO_toR_ok, RO_toR_exc, RO_toR_bad, R_toS_ok, R_toS_exc, R_toS_bad, RB_toS_ok, RB_toS_exc, RB_toS_bad, RI_toS_ok, RI_toS_exc, RI_toS_bad, sSeq_e, SR_seq_nx, SR_seq_rt, SR_seq_bk, SR_seq_ct, SR_seq_exc, SR_seq_bad, sNx_e, sBk_e, sCt_e, sBad_e, sRetN_e, sSet_e, sSetK_e, fz1_d, fz1_o, fz1_n, toD_l, toD_d, toD_f, live_l, live_d, sSetO_e, sSetOK_n, sSetOK_d, sSetOK_o, sDrop_e, sDropK_e, sRet_e, sRetK_e, sIf_e, sIfK_t, sIfK_f, sFor_e, sForK_e, turn_e, turnK_s, gN_e, gT_e, gT_l, gsCons_e, gsK_s, gsNil_e, sPut_e, sPutK1_e, sPutK2_e, sPutK3_e, sPutK4_e, apP_e, apPK_e, apPL_e, sUnp_e, sUnpK_e, sUnpL_e, unpV_d, sUnpM_e, sAug_e, sAugJ_e, sAugK_e, sAugL_e, sAugM_e, clB_0, clB_l, clB_d, clB_f, frz_d, frz_n, frz_o, frzK_e, frzs_nil, frzs_c, frzsK_e, frzsL_e, view_d, view_o, viewK_e, view_n, views_nil, views_c, viewsK_e, viewsL_e, eVar_e, eVarK_d, eVarK_o, eC_e, apR_d, apR_o, ap2_e, ap2V_e, eBin_e, eBinK_e, eBinL_e, tBin_e, tBinK_e, tBinL_e, bl2_e, bl2V_e, blR_e, eUn_e, un1_e, un1V_e, tVal_e, tru_e, truV_e, truW_e, truth_n, truth_b, truth_i, truth_t, truth_l, tNt_e, tNtK_e, tAn_e, tAnK_t, tAnK_f, tO_e, tOK_t, tOK_f, tY_e, eAnd_e, eAndK_t, eAndK_f, eOr_e, eOrK_f, eOrK_t, eNot_e, eNotK_e, eIf_e, eIfK_t, eIfK_f, aNil_e, aCons_e, aConsK_e, aConsL_e, eAp_e, ap_e, apV_e, g1_e, g2_e, eMt_e, eMtK_e, eMtV_e, eMtT_e, eMtL_e, apM_e, apMV_e, m1_e, m0_e, tyD_s, tyD_l, eMt0_e, eMt0K_e, eMt0V_e, eMt0T_e, eMu_e, eMuK_e, eMuV_e, eMuT_e, eMuL_e, tyO_l, tyO_d, apU_e, apUK_e, apUL_e, apUM_e, u1_e, u0_e, eMu0_e, eMu0K_e, eMu0V_e, eMu0T_e, eTup_e, eLst_e, mkT_e, mkL_e, mkTK_0, mkLK_0, mkTK_1, mkLK_1, mkTK_2, mkLK_2, mkTK_3, mkLK_3, mkTK_4, mkLK_4, mkTK_5, mkLK_5, mkTK_6, mkLK_6, mkTK_7, mkLK_7, mkTK_8, mkLK_8, oNone_e, oSome_e, oSomeK_e, eSl_e, eSlK_e, eSlL_e, eSlM_e, apS_e, apSV_e, iSeq_e, iSeqK_e, iSeqV_e, iSeqL_e, items_l, items_t, items_s, iRange_e, gAdd_ii, gSub_ii, gNeg_i, gAbs_i, gInt_i, gLt_ii, gLt_ss, gLe_ii, gLe_ss, gGt_ii, gGt_ss, gGe_ii, gGe_ss, gEq_ii, gNe_ii, gEq_ss, gNe_ss, gLen_l, gLen_t, gList_s, gList_l, gList_t, gTuple_l, gTuple_t, gIx_l, gIx_t, optD_e, atI_lit, gSet_l, gSetLK_e, List.getElem?_cons_zero, List.getElem?_cons_succ, List.getElem?_nil, List.set_cons_zero, List.set_cons_succ, List.length_cons, List.length_nil, List.map_cons, List.map_nil, List.cons_append, List.nil_append, Nat.zero_add, Nat.add_zero, Nat.reduceAdd, Nat.reduceSub, Nat.sub_self, Nat.reduceLT, Nat.reduceLeDiff, Int.reduceLT, Int.reduceLE, Int.reduceNeg, Int.reduceEq, decide_true, decide_false, ixN_lit, List.set_nil, List.replicate, Int.reduceAdd, Int.reduceSub, reduceCtorEq, Bool.not_true, Bool.not_false, List.take_succ_cons, List.take_zero, List.take_nil, retS, cutR, cutX, clB_ao])
open TL (numL)

/-! ### what laws over forms draw: names, numbers -/
theorem gIx_sv {s : Str} {v : Nat} (h : v < s.length) (hl : s.length ≤ 16777216) : ∃ c, gIx (.str s) (.int (v : Nat)) = some (.dt (tx [c])) := by
  refine ⟨s.cps.toList[v]'(by show v < s.cps.toList.length; rw [Array.length_toList]; exact h), ?_⟩
  dsimp only [gIx]
  rw [show Nat.ble s.length line = true from ble_of hl]
  dsimp only
  have e : s.cps.toList[v]? = some (s.cps.toList[v]'(by show v < s.cps.toList.length; rw [Array.length_toList]; exact h)) := List.getElem?_eq_getElem _
  rw [atI_nat e]; rfl
def t1 : Str := "!\"#$&()*+,-./0123456789:;<=>?@ABCDEFGHIJKLMNOPQRSTUVWXYZ[\\]^_`"
def t2 : Str := "abcdefghijklmnopqrstuvwxyz{|}~"
theorem t12_len : (t1 ++ t2).length = 92 := by decide +kernel
theorem flat_tx (cs : List Nat) : (cs.map fun c => [c]).flatten = cs := by
  induction cs with
  | nil => rfl
  | cons c cs ih => rw [List.map_cons, List.flatten_cons, ih]; rfl
/-- a name of one to three signs -/
theorem name_ok (st : Sta) : ∃ (a : List Nat) (st' : Sta), m_law_name [.own 0] [st.ao] = .ok (.dat (tx a)) [st'.ao] ∧ a.length ≤ 3 := by
  unfold m_law_name b_law_name runF
  have h1 : ("!\"#$&()*+,-./0123456789:;<=>?@ABCDEFGHIJKLMNOPQRSTUVWXYZ[\\]^_`" : Str) = t1 := rfl
  have h2 : ("abcdefghijklmnopqrstuvwxyz{|}~" : Str) = t2 := rfl
  have ga := gAdd_ss (s := t1) (t := t2) (by decide +kernel)
  have gl := gLen_s (s := t1 ++ t2) (by rw [t12_len]; decide)
  rw [t12_len] at gl
  have gl : gLen (.str (t1 ++ t2)) = some (.dt (.int 92)) := gl
  obtain ⟨v, st_v, e_v, h_v⟩ := e_drawN (f := aCons (eVar 0) (aCons (eC (.int 3)) aNil)) (ρ := [some (.own 0), some (.dat (.str (t1 ++ t2))), none]) (S := [st.ao]) (n := 0) (st := st) (k := 3) rfl (by decide) (by decide) (by nomatch "e")
  have rg := iRg_1 (j := 1 + (v : Nat)) (S := [st_v.ao]) (by omega) (by omega)
  have hn : (1 + ((v : Nat) : Int)).toNat = 1 + v := by omega
  rw [hn] at rg
  obtain ⟨xs, S', lc, cs, st2, rfl, hl, rfl⟩ := lcF_inv (g := gN 2) (t := tY) (e := eBin gIx (eVar 1) (eCall 2 m_law_draw (aCons (eVar 0) (aCons (eAp (g1 gLen) (aCons (eVar 1) aNil)) aNil)))) (ρ0 := [some (.own 0), some (.dat (.str (t1 ++ t2))), none])
    (rangeD 0 1 (1 + v)) (fun k xs S => ∃ (cs : List Nat) (st : Sta), xs = cs.map (fun c => tx [c]) ∧ cs.length = k ∧ S = [st.ao]) [] [st_v.ao] ⟨[], st_v, rfl, rfl, rfl⟩ (by
      rintro k d xs S hk ⟨cs, st, rfl, hl, rfl⟩
      obtain ⟨hk, rfl⟩ := rangeD_some hk
      refine ⟨_, rfl, .inr ?_⟩
      obtain ⟨u, st_u, e_u, h_u⟩ := e_drawN (f := aCons (eVar 0) (aCons (eAp (g1 gLen) (aCons (eVar 1) aNil)) aNil)) (ρ := [some (.own 0), some (.dat (.str (t1 ++ t2))), some (.dat (.int (0 + (k : Int) * 1)))]) (S := [st.ao]) (n := 0) (st := st) (k := 92) rfl (by decide) (by decide) (by nomatch "e", gl)
      obtain ⟨c, gx⟩ := gIx_sv (s := t1 ++ t2) (v := u) (by rw [t12_len]; omega) (by rw [t12_len]; decide)
      refine ⟨[st.ao], .dat (tx [c]), [st_u.ao], tx [c], [st_u.ao], rfl, ?_, rfl, cs ++ [c], st_u, by rw [List.map_append]; rfl, by rw [List.length_append, hl]; rfl, rfl⟩
      nomatch "e", e_u, gx)
  rw [rangeD_len] at hl
  have hcs : [] ++ cs.map (fun c => tx [c]) = (cs.map fun c => [c]).map tx := by rw [List.nil_append, List.map_map]; rfl
  have gj := gJoin_t (ss := cs.map fun c => [c]) (by rw [flat_tx]; omega)
  rw [flat_tx, ← hcs, List.nil_append] at gj
  refine ⟨cs, st2, ?_, by omega⟩
  have hlen : (cs.map fun c => tx [c]).length ≤ 16777216 := by rw [List.length_map]; omega
  nomatch "e", h1, h2, ga, e_v, rg, eLc_e, eLcI_e, wipeA_nil, wipeA_c, lc, eLcJ_e hlen, lit_nil, gj
theorem signed_ok (st : Sta) {m : Int} (h0 : 0 ≤ m) (h : m < 1000000000) : ∃ (v : Int) (st' : Sta), m_law_signed [.own 0, .dat (.int m)] [st.ao] = .ok (.dat (.int v)) [st'.ao] ∧ -m ≤ v ∧ v ≤ m := by
  unfold m_law_signed b_law_signed runF
  obtain ⟨u, st_u, e_u, h_u⟩ := e_drawN (f := aCons (eVar 0) (aCons (eBin gAdd (eBin gMul (eC (.int 2)) (eVar 1)) (eC (.int 1))) aNil)) (ρ := [some (.own 0), some (.dat (.int m))]) (S := [st.ao]) (n := 0) (st := st) (k := 2 * m + 1) rfl (by omega) (by omega) (by nomatch "e", gMul_c')
  refine ⟨u - m, st_u, ?_, by omega, by omega⟩
  nomatch "e", e_u
theorem gPow_40 : gPow (.int 10) (.int 40) = some (.dt (.int 10000000000000000000000000000000000000000)) := rfl
theorem number_ok (st : Sta) : ∃ (v : Int) (st' : Sta), m_law_number [.own 0] [st.ao] = .ok (.dat (.int v)) [st'.ao] ∧ v.natAbs < 10 ^ 44 := by
  unfold m_law_number b_law_number runF
  obtain ⟨u, st_u, e_u, h_u⟩ := e_drawN (f := aCons (eVar 0) (aCons (eC (.int 8)) aNil)) (ρ := [some (.own 0)]) (S := [st.ao]) (n := 0) (st := st) (k := 8) rfl (by decide) (by decide) (by nomatch "e")
  by_cases hu : ((u : Nat) : Int) = 0
  · obtain ⟨a, st2, ea, ha⟩ := signed_ok st_u (m := 1000) (by omega) (by omega)
    obtain ⟨b, st3, eb, hb⟩ := signed_ok st2 (m := 1000000) (by omega) (by omega)
    have c1 := fun (f : AE → SS → RA) (ρ : AE) => call_o2 (f := f) (ρ := ρ) (S := [st_u.ao]) (n := 0) ea
    have c2 := fun (f : AE → SS → RA) (ρ : AE) => call_o2 (f := f) (ρ := ρ) (S := [st2.ao]) (n := 0) eb
    have gm := gMul_c' (i := a) (j := 10000000000000000000000000000000000000000) (by omega) (by omega)
    refine ⟨a * 10000000000000000000000000000000000000000 + b, st3, ?_, by omega⟩
    nomatch "e", e_u, hu, c1, c2, gPow_40, gm
  · obtain ⟨a, st2, ea, ha⟩ := signed_ok st_u (m := 3) (by omega) (by omega)
    have c1 := fun (f : AE → SS → RA) (ρ : AE) => call_o2 (f := f) (ρ := ρ) (S := [st_u.ao]) (n := 0) ea
    refine ⟨a, st2, ?_, by omega⟩
    nomatch "e", e_u, hu, c1
theorem flat_strs (ns : List Str) : (ns.map D.str).all flatD = true := by
  induction ns with
  | nil => rfl
  | cons n ns ih => rw [List.map_cons, List.all_cons, ih]; rfl
theorem gNin_l {s : Str} {ns : List Str} : ∃ b, gInX true (.str s) (.lst (ns.map D.str)) = some (.dt (.bl b)) ∧ (b = false → 0 < ns.length) := by
  dsimp only [gInX]
  rw [flat_strs]
  refine ⟨_, rfl, fun h => ?_⟩
  cases ns with
  | nil => cases h
  | cons _ _ => exact Nat.succ_pos _
theorem pool_ok (st : Sta) {m : Nat} (hm : m ≤ 1000) : ∃ (ns : List Str) (st' : Sta), m_law_pool [.own 0, .dat (.int (m : Nat))] [st.ao] = .ok (.new (.lst (ns.map D.str))) [st'.ao] ∧ ns.length ≤ m ∧ (0 < m → 0 < ns.length) := by
  unfold m_law_pool b_law_pool runF
  obtain ⟨base, st1, e1, hb⟩ := name_ok st
  have c1 := fun (f : AE → SS → RA) (ρ : AE) => call_o1 (f := f) (ρ := ρ) (S := [st.ao]) (n := 0) e1
  have rg := iRg_1 (j := (m : Nat)) (S := [st1.ao, .lst []]) (by omega) (by omega)
  rw [Int.toNat_natCast] at rg
  obtain ⟨ρ', S', lp, st2, ns, x, y, rfl, rfl, hl, h0⟩ := forD_inv (body := turn (gN 4) (sSeq (sSet 5 (eBin gIx (eLst (aCons (eBin gAdd (eVar 2) (eAp (g1 gStr) (aCons (eVar 4) aNil))) (aCons (eCall 1 m_law_name (aCons (eVar 0) aNil)) (aCons (eBin gAdd (eC (.str "@")) (eVar 2)) (aCons (eVar 2) aNil))))) (eCall 2 m_law_draw (aCons (eVar 0) (aCons (eC (.int 4)) aNil)))))
(sIf (tBin (gInX true) (eVar 5) (eVar 3)) (sDrop (eMu "list" (u1 gAppend) (eVar 3) (aCons (eVar 5) aNil)))
sNx))) (rangeD 0 1 m) (fun k ρ S => ∃ (st : Sta) (ns : List Str) (x y : Option AV), ρ = [some (.own 0), some (.dat (.int (m : Nat))), some (.dat (tx base)), some (.own 1), x, y] ∧ S = [st.ao, .lst (ns.map D.str)] ∧ ns.length ≤ k ∧ (0 < k → 0 < ns.length))
    [some (.own 0), some (.dat (.int (m : Nat))), some (.dat (tx base)), some (.own 1), none, none] [st1.ao, .lst []] ⟨st1, [], none, none, rfl, rfl, Nat.le_refl _, fun h => absurd h (Nat.lt_irrefl _)⟩ (by
    rintro k d ρ S hk ⟨st, ns, x, y, rfl, rfl, hl, _⟩
    obtain ⟨hk, rfl⟩ := rangeD_some hk
    have e0 : (0 : Int) + (k : Int) * 1 = ((k : Nat) : Int) := by omega
    rw [e0]
    have gs := gStr_n (n := k) (Nat.lt_trans (show k < 1000 by omega) (by decide))
    have hkl : (numL k).length ≤ 4 := TL.numL_len (by decide) (by omega)
    have ga := gAdd_t (a := base) (b := numL k) (by omega)
    have l64 : (("@" : String) : Str) = SX.S [64] := rfl
    have ga2 := gAdd_t (a := [64]) (b := base) (by show 1 + _ ≤ _; omega)
    obtain ⟨nm, st2, e2, _⟩ := name_ok st
    have c2 := fun (f : AE → SS → RA) (ρ : AE) => call_o1 (f := f) (ρ := ρ) (S := [st.ao, .lst (ns.map D.str)]) (n := 0) e2
    obtain ⟨v, st_v, e_v, h_v⟩ := e_drawN (f := aCons (eVar 0) (aCons (eC (.int 4)) aNil)) (ρ := [some (.own 0), some (.dat (.int (m : Nat))), some (.dat (tx base)), some (.own 1), some (.dat (.int (k : Nat))), y]) (S := [st2.ao, .lst (ns.map D.str)]) (n := 0) (st := st2) (k := 4) rfl (by decide) (by decide) (by nomatch "e")
    have hx : ∃ s : Str, atI [tx (base ++ numL k), tx nm, tx (64 :: base), tx base] ((v : Nat) : Int) = some (.str s) := by
      match v, h_v with
      | 0, _ => exact ⟨_, rfl⟩
      | 1, _ => exact ⟨_, rfl⟩
      | 2, _ => exact ⟨_, rfl⟩
      | 3, _ => exact ⟨_, rfl⟩
      | v + 4, h => omega
    obtain ⟨s, hx⟩ := hx
    obtain ⟨b, gi, hb0⟩ := gNin_l (s := s) (ns := ns)
    have gp := gAppend_l (ds := ns.map D.str) (d := .str s) (by rw [List.length_map]; show _ < 16777216; omega)
    cases b
    · refine ⟨_, _, .inl ?_, st_v, ns, some (.dat (.int (k : Nat))), some (.dat (.str s)), rfl, rfl, by omega, fun _ => hb0 rfl⟩
      nomatch "e", gs, ga, l64, ga2, c2, e_v, hx, gi
    · refine ⟨_, _, .inl ?_, st_v, ns ++ [s], some (.dat (.int (k : Nat))), some (.dat (.str s)), rfl, rfl, by rw [List.length_append]; show _ + 1 ≤ _; omega, fun _ => by rw [List.length_append]; show 0 < _ + 1; omega⟩
      nomatch "e", gs, ga, l64, ga2, c2, e_v, hx, gi, gp, List.map_append)
  rw [rangeD_len] at hl h0
  refine ⟨ns, st2, ?_, hl, h0⟩
  have hb : Nat.blt 1 1 = false := rfl
  nomatch "e", c1, rg, lp, hb
end Ew

set_option Elab.async false
set_option linter.all false
set_option maxRecDepth 100000
set_option maxHeartbeats 8000000
namespace Ew
open PySem PySem.Spec PyProof.Rows L2
local macro_rules | `(tactic| nomatch "e", $ts,*) => `(tactic| simp only [R_bind_ok, R_bind_exc, R_bind_bad, R_toB_ok, R_toB_exc, R_toB_bad, R_toA_ok, R_toA_exc, R_toA_bad, RA_bind_ok, RA_bind_exc, RA_bind_bad, RA_toR_ok, RA_toR_exc, RA_toR_bad, RA_toI_ok, RA_toI_exc, RA_toI_bad, RB_toR_ok, RB_toR_exc, RB_toR_bad, RB_bind_ok, RB_bind_exc, RB_bind_bad, R_toI_ok, R_toI_exc, R_toI_bad, RO_toR_ok, RO_toR_exc, RO_toR_bad, R_toS_ok, R_toS_exc, R_toS_bad, RB_toS_ok, RB_toS_exc, RB_toS_bad, RI_toS_ok, RI_toS_exc, RI_toS_bad, sSeq_e, SR_seq_nx, SR_seq_rt, SR_seq_bk, SR_seq_ct, SR_seq_exc, SR_seq_bad, sNx_e, sBk_e, sCt_e, sBad_e, sRetN_e, sSet_e, sSetK_e, fz1_d, fz1_o, fz1_n, toD_l, toD_d, toD_f, live_l, live_d, sSetO_e, sSetOK_n, sSetOK_d, sSetOK_o, sDrop_e, sDropK_e, sRet_e, sRetK_e, sIf_e, sIfK_t, sIfK_f, sFor_e, sForK_e, turn_e, turnK_s, gN_e, gT_e, gT_l, gsCons_e, gsK_s, gsNil_e, sPut_e, sPutK1_e, sPutK2_e, sPutK3_e, sPutK4_e, apP_e, apPK_e, apPL_e, sUnp_e, sUnpK_e, sUnpL_e, unpV_d, sUnpM_e, sAug_e, sAugJ_e, sAugK_e, sAugL_e, sAugM_e, clB_0, clB_l, clB_d, clB_f, frz_d, frz_n, frz_o, frzK_e, frzs_nil, frzs_c, frzsK_e, frzsL_e, view_d, view_o, viewK_e, view_n, views_nil, views_c, viewsK_e, viewsL_e, eVar_e, eVarK_d, eVarK_o, eC_e, apR_d, apR_o, ap2_e, ap2V_e, eBin_e, eBinK_e, eBinL_e, tBin_e, tBinK_e, tBinL_e, bl2_e, bl2V_e, blR_e, eUn_e, un1_e, un1V_e, tVal_e, tru_e, truV_e, truW_e, truth_n, truth_b, truth_i, truth_t, truth_l, tNt_e, tNtK_e, tAn_e, tAnK_t, tAnK_f, tO_e, tOK_t, tOK_f, tY_e, eAnd_e, eAndK_t, eAndK_f, eOr_e, eOrK_f, eOrK_t, eNot_e, eNotK_e, eIf_e, eIfK_t, eIfK_f, aNil_e, aCons_e, aConsK_e, aConsL_e, eAp_e, ap_e, apV_e, g1_e, g2_e, eMt_e, eMtK_e, eMtV_e, eMtT_e, eMtL_e, apM_e, apMV_e, m1_e, m0_e, tyD_s, tyD_l, eMt0_e, eMt0K_e, eMt0V_e, eMt0T_e, eMu_e, eMuK_e, eMuV_e, eMuT_e, eMuL_e, tyO_l, tyO_d, apU_e, apUK_e, apUL_e, apUM_e, u1_e, u0_e, eMu0_e, eMu0K_e, eMu0V_e, eMu0T_e, eTup_e, eLst_e, mkT_e, mkL_e, mkTK_0, mkLK_0, mkTK_1, mkLK_1, mkTK_2, mkLK_2, mkTK_3, mkLK_3, mkTK_4, mkLK_4, mkTK_5, mkLK_5, mkTK_6, mkLK_6, mkTK_7, mkLK_7, mkTK_8, mkLK_8, oNone_e, oSome_e, oSomeK_e, eSl_e, eSlK_e, eSlL_e, eSlM_e, apS_e, apSV_e, iSeq_e, iSeqK_e, iSeqV_e, iSeqL_e, items_l, items_t, items_s, iRange_e, gAdd_ii, gSub_ii, gNeg_i, gAbs_i, gInt_i, gLt_ii, gLt_ss, gLe_ii, gLe_ss, gGt_ii, gGt_ss, gGe_ii, gGe_ss, gEq_ii, gNe_ii, gEq_ss, gNe_ss, gLen_l, gLen_t, gList_s, gList_l, gList_t, gTuple_l, gTuple_t, gIx_l, gIx_t, optD_e, atI_lit, gSet_l, gSetLK_e, List.getElem?_cons_zero, List.getElem?_cons_succ, List.getElem?_nil, List.set_cons_zero, List.set_cons_succ, List.length_cons, List.length_nil, List.map_cons, List.map_nil, List.cons_append, List.nil_append, Nat.zero_add, Nat.add_zero, Nat.reduceAdd, Nat.reduceSub, Nat.sub_self, Nat.reduceLT, Nat.reduceLeDiff, Int.reduceLT, Int.reduceLE, Int.reduceNeg, Int.reduceEq, decide_true, decide_false, ixN_lit, List.set_nil, List.replicate, Int.reduceAdd, Int.reduceSub, reduceCtorEq, Bool.not_true, Bool.not_false, List.take_succ_cons, List.take_zero, List.take_nil, retS, cutR, cutX, clB_ao, $[$ts:term],*])
local macro_rules | `(tactic| nomatch "e") => `(tactic| simp only [R_bind_ok, R_bind_exc, R_bind_bad, R_toB_ok, R_toB_exc, R_toB_bad, R_toA_ok, R_toA_exc, R_toA_bad, RA_bind_ok, RA_bind_exc, RA_bind_bad, RA_toR_ok, RA_toR_exc, RA_toR_bad, RA_toI_ok, RA_toI_exc, RA_toI_bad, RB_toR_ok, RB_toR_exc, RB_toR_bad, RB_bind_ok, RB_bind_exc, RB_bind_bad, R_toI_ok, R_toI_exc, R_toI_bad, RO_toR_ok, RO_toR_exc, RO_toR_bad, R_toS_ok, R_toS_exc, R_toS_bad, RB_toS_ok, RB_toS_exc, RB_toS_bad, RI_toS_ok, RI_toS_exc, RI_toS_bad, sSeq_e, SR_seq_nx, SR_seq_rt, SR_seq_bk, SR_seq_ct, SR_seq_exc, SR_seq_bad, sNx_e, sBk_e, sCt_e, sBad_e, sRetN_e, sSet_e, sSetK_e, fz1_d, fz1_o, fz1_n, toD_l, toD_d, toD_f, live_l, live_d, sSetO_e, sSetOK_n, sSetOK_d, sSetOK_o, sDrop_e, sDropK_e, sRet_e, sRetK_e, sIf_e, sIfK_t, sIfK_f, sFor_e, sForK_e, turn_e, turnK_s, gN_e, gT_e, gT_l, gsCons_e, gsK_s, gsNil_e, sPut_e, sPutK1_e, sPutK2_e, sPutK3_e, sPutK4_e, apP_e, apPK_e, apPL_e, sUnp_e, sUnpK_e, sUnpL_e, unpV_d, sUnpM_e, sAug_e, sAugJ_e, sAugK_e, sAugL_e, sAugM_e, clB_0, clB_l, clB_d, clB_f, frz_d, frz_n, frz_o, frzK_e, frzs_nil, frzs_c, frzsK_e, frzsL_e, view_d, view_o, viewK_e, view_n, views_nil, views_c, viewsK_e, viewsL_e, eVar_e, eVarK_d, eVarK_o, eC_e, apR_d, apR_o, ap2_e, ap2V_e, eBin_e, eBinK_e, eBinL_e, tBin_e, tBinK_e, tBinL_e, bl2_e, bl2V_e, blR_e, eUn_e, un1_e, un1V_e, tVal_e, tru_e, truV_e, truW_e, truth_n, truth_b, truth_i, truth_t, truth_l, tNt_e, tNtK_e, tAn_e, tAnK_t, tAnK_f, tO_e, tOK_t, tOK_f, tY_e, eAnd_e, eAndK_t, eAndK_f, eOr_e, eOrK_f, eOrK_t, eNot_e, eNotK_e, eIf_e, eIfK_t, eIfK_f, aNil_e, aCons_e, aConsK_e, aConsL_e, eAp_e, ap_e, apV_e, g1_e, g2_e, eMt_e, eMtK_e, eMtV_e, eMtT_e, eMtL_e, apM_e, apMV_e, m1_e, m0_e, tyD_s, tyD_l, eMt0_e, eMt0K_e, eMt0V_e, eMt0T_e, eMu_e, eMuK_e, eMuV_e, eMuT_e, eMuL_e, tyO_l, tyO_d, apU_e, apUK_e, apUL_e, apUM_e, u1_e, u0_e, eMu0_e, eMu0K_e, eMu0V_e, eMu0T_e, eTup_e, eLst_e, mkT_e, mkL_e, mkTK_0, mkLK_0, mkTK_1, mkLK_1, mkTK_2, mkLK_2, mkTK_3, mkLK_3, mkTK_4, mkLK_4, mkTK_5, mkLK_5, mkTK_6, mkLK_6, mkTK_7, mkLK_7, mkTK_8, mkLK_8, oNone_e, oSome_e, oSomeK_e, eSl_e, eSlK_e, eSlL_e, eSlM_e, apS_e, apSV_e, iSeq_e, iSeqK_e, iSeqV_e, iSeqL_e, items_l, items_t, items_s, iRange_e, gAdd_ii, gSub_ii, gNeg_i, gAbs_i, gInt_i, gLt_ii, gLt_ss, gLe_ii, gLe_ss, gGt_ii, gGt_ss, gGe_ii, gGe_ss, gEq_ii, gNe_ii, gEq_ss, gNe_ss, gLen_l, gLen_t, gList_s, gList_l, gList_t, gTuple_l, gTuple_t, gIx_l, gIx_t, optD_e, atI_lit, gSet_l, gSetLK_e, List.getElem?_cons_zero, List.getElem?_cons_succ, List.getElem?_nil, List.set_cons_zero, List.set_cons_succ, List.length_cons, List.length_nil, List.map_cons, List.map_nil, List.cons_append, List.nil_append, Nat.zero_add, Nat.add_zero, Nat.reduceAdd, Nat.reduceSub, Nat.sub_self, Nat.reduceLT, Nat.reduceLeDiff, Int.reduceLT, Int.reduceLE, Int.reduceNeg, Int.reduceEq, decide_true, decide_false, ixN_lit, List.set_nil, List.replicate, Int.reduceAdd, Int.reduceSub, reduceCtorEq, Bool.not_true, Bool.not_false, List.take_succ_cons, List.take_zero, List.take_nil, retS, cutR, cutX, clB_ao])

/-! ### sums of forms, plain forms -/
def b_plus : AE → SS → SR :=
(sSeq (sIf (tNt (tVal (eBin gIx (eVar 1) (eC (.int 1))))) (sRet (eTup (aCons (eBin gAdd (eBin gIx (eVar 0) (eC (.int 0))) (eBin gIx (eVar 1) (eC (.int 0)))) (aCons (eBin gIx (eVar 0) (eC (.int 1))) aNil))))
sNx)
(sRet (eCall 2 m_form (aCons (eBin gAdd (eBin gIx (eVar 0) (eC (.int 0))) (eBin gIx (eVar 1) (eC (.int 0)))) (aCons (eBin gAdd (eBin gIx (eVar 0) (eC (.int 1))) (eBin gIx (eVar 1) (eC (.int 1)))) aNil)))))
def m_plus : List AV → SS → R := runF 2 b_plus
def k_ZERO : D := (.tup [(.int (0)), (.tup [])])
def b_times : AE → SS → SR :=
(sSeq (sIf (tBin gEq (eVar 0) (eC (.int 0))) (sRet (eC k_ZERO))
sNx)
(sRet (eTup (aCons (eBin gMul (eVar 0) (eBin gIx (eVar 1) (eC (.int 0)))) (aCons (eAp (g1 gTuple) (aCons (eLc (([("name", 2), ("coefficient", 3)] : List (Str × Nat)).map (·.2)) (iSeq (eBin gIx (eVar 1) (eC (.int 1)))) (gT (gsCons (gN 2) (gsCons (gN 3) gsNil))) tY (eTup (aCons (eVar 2) (aCons (eBin gMul (eVar 0) (eVar 3)) aNil)))) aNil)) aNil)))))
def m_times : List AV → SS → R := runF 4 b_times
def b_minus : AE → SS → SR :=
(sRet (eCall 2 m_plus (aCons (eVar 0) (aCons (eCall 2 m_times (aCons (eUn gNeg (eC (.int 1))) (aCons (eVar 1) aNil))) aNil))))
def m_minus : List AV → SS → R := runF 2 b_minus
def b_law_sum : AE → SS → SR :=
(sSeq (sSet 1 (eC (.int 0)))
(sSeq (sSetO 2 (eLst aNil))
(sSeq (sFor (iSeq (eVar 0)) (gT (gsCons (gN 3) (gsCons (gN 4) gsNil)))
(sSeq (sSet 1 (eBin gAdd (eVar 1) (eBin gMul (eVar 3) (eBin gIx (eVar 4) (eC (.int 0))))))
(sFor (iSeq (eBin gIx (eVar 4) (eC (.int 1)))) (gT (gsCons (gN 5) (gsCons (gN 6) gsNil)))
(sDrop (eMu "list" (u1 gAppend) (eVar 2) (aCons (eTup (aCons (eVar 5) (aCons (eBin gMul (eVar 3) (eVar 6)) aNil))) aNil))))))
(sRet (eCall 2 m_form (aCons (eVar 1) (aCons (eVar 2) aNil)))))))
def m_law_sum : List AV → SS → R := runF 7 b_law_sum
def b_law_same (m_law_same : List AV → SS → R) : AE → SS → SR :=
(sSeq (sIf (tVal (eAp (g2 gIsi) (aCons (eVar 1) (aCons (eC (.ty "tuple")) aNil)))) (sSeq (sIf (tO (tNt (tVal (eAp (g2 gIsi) (aCons (eVar 0) (aCons (eC (.ty "tuple")) aNil))))) (tBin gNe (eAp (g1 gLen) (aCons (eVar 0) aNil)) (eAp (g1 gLen) (aCons (eVar 1) aNil)))) (sRet (eC (.bl false)))
sNx)
(sRet (eAp (g1 gAll) (aCons (eLc (([("k", 2)] : List (Str × Nat)).map (·.2)) (iRange (aCons (eAp (g1 gLen) (aCons (eVar 1) aNil)) aNil)) (gN 2) tY (eCall 2 m_law_same (aCons (eBin gIx (eVar 0) (eVar 2)) (aCons (eBin gIx (eVar 1) (eVar 2)) aNil)))) aNil))))
sNx)
(sSeq (sIf (tVal (eAp (g2 gIsi) (aCons (eVar 1) (aCons (eC (.ty "str")) aNil)))) (sRet (eAnd (eAp (g2 gIsi) (aCons (eVar 0) (aCons (eC (.ty "str")) aNil))) (eBin gEq (eVar 0) (eVar 1))))
sNx)
(sRet (eAnd (eAp (g2 gIsi) (aCons (eVar 0) (aCons (eC (.ty "int")) aNil))) (eAnd (eNot (eAp (g2 gIsi) (aCons (eVar 0) (aCons (eC (.ty "bool")) aNil)))) (eBin gEq (eVar 0) (eVar 1)))))))
def m_law_sameN : Nat → List AV → SS → R
  | 0 => fun _ _ => .bad
  | n + 1 => runF 3 (b_law_same (m_law_sameN n))
theorem gMul_n {i j : Int} (h : i.natAbs < 10 ^ 1000) (h2 : j.natAbs < 10 ^ 200) : gMul (.int i) (.int j) = some (.dt (.int (i * j))) := by
  refine gMul_ii ?_
  have a := mulOk_big (n := i.natAbs) (m := j.natAbs) (k := 1000) h (Nat.lt_of_lt_of_le h2 (by decide)) (by decide)
  unfold mulOk at a ⊢
  unfold Builtin.Int.intBits at a ⊢
  rw [Int.natAbs_natCast, Int.natAbs_natCast] at a
  have e : ∀ x : Int, ((x.natAbs : Int) == 0) = (x == 0) := fun x => by
    rw [Bool.eq_iff_iff, beq_iff_eq, beq_iff_eq]; omega
  rw [e, e] at a
  exact a
theorem times_ok {k c : Int} {ps : List (Str × Int)} (hl : ps.length ≤ 1000000) (hk : k.natAbs < 10 ^ 200) (hc : c.natAbs < 10 ^ 200) (hp : ∀ p ∈ ps, p.2.natAbs < 10 ^ 200) :
    m_times [.dat (.int k), .dat (fD c ps)] [] = .ok (.dat (if k = 0 then fD 0 [] else fD (k * c) (ps.map fun p => (p.1, k * p.2)))) [] := by
  unfold m_times b_times runF
  have hB : ∀ x : Nat, x < 10 ^ 200 → x < 10 ^ 1000 := fun x h => Nat.lt_of_lt_of_le h (Nat.pow_le_pow_right (by decide) (by decide))
  by_cases h0 : k = 0
  · have kz : k_ZERO = fD 0 [] := rfl
    nomatch "e", h0, kz, if_pos
  · have gm := gMul_n (hB _ hk) hc
    have lc := lcF_map (g := gT (gsCons (gN 2) (gsCons (gN 3) gsNil))) (e := eTup (aCons (eVar 2) (aCons (eBin gMul (eVar 0) (eVar 3)) aNil))) (ρ0 := [some (.dat (.int k)), some (.dat (fD c ps)), none, none]) (S := []) ps pD (fun p => pD (p.1, k * p.2)) (fun p => [some (.dat (.int k)), some (.dat (fD c ps)), some (.dat (.str p.1)), some (.dat (.int p.2))])
      (fun p _ => rfl) (fun p h => by
        have gm2 := gMul_n (hB _ hk) (hp p h)
        nomatch "e", gm2, pD)
    have hm : (ps.map fun p => pD (p.1, k * p.2)) = (ps.map fun p => (p.1, k * p.2)).map pD := by rw [List.map_map]; rfl
    rw [hm] at lc
    have hlen : ((ps.map fun p => (p.1, k * p.2)).map pD).length ≤ 16777216 := by rw [List.length_map, List.length_map]; omega
    have i1 : gIx (fD c ps) (.int 1) = some (.dt (.tup (ps.map pD))) := rfl
    have i0 : gIx (fD c ps) (.int 0) = some (.dt (.int c)) := rfl
    nomatch "e", h0, i1, i0, gm, eLc_e, eLcI_e, wipeA_nil, wipeA_c, lc, eLcJ_e hlen, if_neg
    rfl
theorem gAdd_tt {ds es : List D} (h : ds.length + es.length ≤ 16777216) : gAdd (.tup ds) (.tup es) = some (.dt (.tup (ds ++ es))) := by
  dsimp only [gAdd]
  rw [ble_of (show ds.length + es.length ≤ line from h)]
theorem plus_ok {c d : Int} {ps qs : List (Str × Int)} (h : (ps ++ qs).length ≤ 1000000) (hk : (keysOf (ps ++ qs)).length < 64) : m_plus [.dat (fD c ps), .dat (fD d qs)] [] = .ok (.dat (if qs = [] then fD (c + d) ps else fD (c + d) (nf (ps ++ qs)))) [] := by
  unfold m_plus b_plus runF
  have a1 : gIx (fD c ps) (.int 1) = some (.dt (.tup (ps.map pD))) := rfl
  have a0 : gIx (fD c ps) (.int 0) = some (.dt (.int c)) := rfl
  have b1 : gIx (fD d qs) (.int 1) = some (.dt (.tup (qs.map pD))) := rfl
  have b0 : gIx (fD d qs) (.int 0) = some (.dt (.int d)) := rfl
  have ga := gAdd_tt (ds := ps.map pD) (es := qs.map pD) (by rw [List.length_map, List.length_map]; rw [List.length_append] at h; omega)
  rw [← List.map_append] at ga
  have fo := form_ok (ps := ps ++ qs) h hk (c + d) (src := .tup ((ps ++ qs).map pD)) rfl
  have cf := fun (f : AE → SS → RA) (ρ : AE) (S : SS) => call_d2 (f := f) (ρ := ρ) (S := S) fo
  by_cases hq : qs = []
  · subst hq
    nomatch "e", a1, a0, b1, b0, if_pos, List.isEmpty_nil
    rfl
  · rw [if_neg hq]
    have he : (qs.map pD).isEmpty = false := by
      cases qs with
      | nil => exact absurd rfl hq
      | cons q qs => rfl
    nomatch "e", a1, a0, b1, b0, ga, cf, he
theorem co_bound {B : Nat} : ∀ {ps : List (Str × Int)} (_ : ∀ p ∈ ps, p.2.natAbs ≤ B) (n : Str), (co ps n).natAbs ≤ ps.length * B
  | [], _, n => Nat.zero_le _
  | p :: ps, h, n => by
    have ih := co_bound (ps := ps) (fun q hq => h q (List.mem_cons_of_mem _ hq)) n
    have hp := h p (List.mem_cons_self ..)
    show ((if p.1 = n then p.2 else 0) + co ps n).natAbs ≤ (ps.length + 1) * B
    rw [Nat.succ_mul]
    split <;> omega
theorem nf_mem {ps : List (Str × Int)} {q : Str × Int} (h : q ∈ nf ps) : q.2 = co ps q.1 := by
  obtain ⟨k, _, rfl⟩ := List.mem_map.mp h
  rfl

theorem len_sub {ks : List Str} : ∀ {ns : List Str}, ks.Nodup → (∀ k ∈ ks, k ∈ ns) → ks.length ≤ ns.length := by
  induction ks with
  | nil => intro ns _ _; exact Nat.zero_le _
  | cons k ks ih =>
    intro ns hn h
    rw [List.nodup_cons] at hn
    have hk := h k (List.mem_cons_self ..)
    have := ih (ns := ns.erase k) hn.2 fun x hx => (List.mem_erase_of_ne (fun e : x = k => hn.1 (by rw [← e]; exact hx))).mpr (h x (List.mem_cons_of_mem _ hx))
    rw [List.length_erase_of_mem hk] at this
    have hp := List.length_pos_of_mem hk
    rw [List.length_cons]; omega
theorem keys_in {ps : List (Str × Int)} {ns : List Str} (h : ∀ p ∈ ps, p.1 ∈ ns) : (keysOf ps).length ≤ ns.length :=
  len_sub (keysOf_nodup ps) fun k hk => by
    obtain ⟨p, hp, rfl⟩ := List.mem_map.mp (keysOf_mem.mp hk)
    exact h p hp
/-- the names of a plain form, sorted -/
def nfK (ps : List (Str × Int)) : List Str := (sortT (keysOf ps)).filter fun k => !decide (co ps k = 0)
theorem nfK_mem {ps : List (Str × Int)} {k : Str} : k ∈ nfK ps ↔ co ps k ≠ 0 := by
  unfold nfK
  rw [List.mem_filter, (sortT_perm _).mem_iff, keysOf_mem]
  constructor
  · rintro ⟨_, h⟩; simpa using h
  · intro h
    refine ⟨?_, by simpa using h⟩
    by_cases hk : k ∈ ps.map (·.1)
    · exact hk
    · exact absurd (co_not hk) h
theorem nfK_nodup (ps : List (Str × Int)) : (nfK ps).Nodup := ((sortT_perm _).nodup_iff.mpr (keysOf_nodup ps)).sublist List.filter_sublist
theorem nfK_pw (ps : List (Str × Int)) : (nfK ps).Pairwise (fun a b => sle a b = true) := (sortT_pw _).sublist List.filter_sublist
theorem nf_e (ps : List (Str × Int)) : nf ps = (nfK ps).map fun k => (k, co ps k) := rfl
theorem sorted_ext {as bs : List Str} (ha : as.Nodup) (hb : bs.Nodup) (pa : as.Pairwise (fun a b => sle a b = true)) (pb : bs.Pairwise (fun a b => sle a b = true)) (h : ∀ x, x ∈ as ↔ x ∈ bs) : as = bs :=
  List.Perm.eq_of_pairwise (le := fun a b => sle a b = true) (fun a b _ _ h h' => sle_anti a b h h') pa pb ((List.perm_ext_iff_of_nodup ha hb).mpr h)
theorem nf_ext {ps qs : List (Str × Int)} (h : ∀ k, co ps k = co qs k) : nf ps = nf qs := by
  have e : nfK ps = nfK qs := sorted_ext (nfK_nodup ps) (nfK_nodup qs) (nfK_pw ps) (nfK_pw qs) fun x => by rw [nfK_mem, nfK_mem, h]
  rw [nf_e, nf_e, e]
  exact List.map_congr_left fun k _ => by rw [h]
theorem co_map {f : Str → Int} {k : Str} : ∀ {ks : List Str}, ks.Nodup → co (ks.map fun k => (k, f k)) k = if k ∈ ks then f k else 0
  | [], _ => rfl
  | a :: ks, hn => by
    rw [List.nodup_cons] at hn
    show (if a = k then f a else 0) + co (ks.map fun k => (k, f k)) k = _
    rw [co_map hn.2]
    by_cases e : a = k
    · subst e
      rw [if_pos rfl, if_neg hn.1, if_pos (List.mem_cons_self ..), Int.add_zero]
    · rw [if_neg e, Int.zero_add]
      have : k ∈ a :: ks ↔ k ∈ ks := by
        rw [List.mem_cons]; exact ⟨fun z => z.elim (fun e2 => absurd e2.symm e) id, .inr⟩
      simp only [this]
theorem co_nf (ps : List (Str × Int)) (k : Str) : co (nf ps) k = co ps k := by
  rw [nf_e, co_map (nfK_nodup ps)]
  split
  · rfl
  · rename_i h
    rw [nfK_mem, Classical.not_not] at h
    exact h.symm
theorem nf_nf (ps : List (Str × Int)) : nf (nf ps) = nf ps := nf_ext fun k => co_nf ps k
theorem co_mul (k : Int) (ps : List (Str × Int)) (n : Str) : co (ps.map fun p => (p.1, k * p.2)) n = k * co ps n := by
  induction ps with
  | nil => exact (Int.mul_zero k).symm
  | cons p ps ih =>
    show (if p.1 = n then k * p.2 else 0) + co (ps.map fun p => (p.1, k * p.2)) n = k * ((if p.1 = n then p.2 else 0) + co ps n)
    rw [ih, Int.mul_add]
    split
    · rfl
    · rw [Int.mul_zero]
theorem nf_nil : nf [] = [] := List.eq_nil_of_length_eq_zero (Nat.le_zero.mp (nf_len []))
theorem nf_zero {ps : List (Str × Int)} (h : ∀ k, co ps k = 0) : nf ps = [] := (nf_ext (qs := []) h).trans nf_nil
/-- a plain form times a number that is not 0 is plain -/
theorem nf_mul {k : Int} (hk : k ≠ 0) (ps : List (Str × Int)) : nf ((nf ps).map fun p => (p.1, k * p.2)) = (nf ps).map fun p => (p.1, k * p.2) := by
  have hc : ∀ n, co ((nf ps).map fun p => (p.1, k * p.2)) n = k * co ps n := fun n => by rw [co_mul, co_nf]
  have e : nfK ((nf ps).map fun p => (p.1, k * p.2)) = nfK ps := sorted_ext (nfK_nodup _) (nfK_nodup _) (nfK_pw _) (nfK_pw _) fun x => by
    rw [nfK_mem, nfK_mem, hc]
    constructor
    · intro h z; exact h (by rw [z, Int.mul_zero])
    · intro h z
      rcases Int.mul_eq_zero.mp z with z | z
      · exact hk z
      · exact h z
  rw [nf_e, e]
  conv => rhs; rw [nf_e, List.map_map]
  refine List.map_congr_left fun n _ => ?_
  show (n, _) = (n, k * co ps n)
  rw [hc]
theorem nf_len2 (ps : List (Str × Int)) : (nf ps).length ≤ ps.length := Nat.le_trans (nf_len _) (keysOf_len _)
theorem nf_names {ps : List (Str × Int)} {q : Str × Int} (h : q ∈ nf ps) : q.1 ∈ ps.map (·.1) := by
  rw [nf_e] at h
  obtain ⟨k, hk, rfl⟩ := List.mem_map.mp h
  unfold nfK at hk
  exact keysOf_mem.mp ((sortT_perm _).mem_iff.mp (List.mem_filter.mp hk).1)

/-! _law_same of one and the same datum -/
theorem isT_tt {ds : List D} : gIsi (.tup ds) (.ty "tuple") = some (.dt (.bl true)) := rfl
theorem isT_it {i : Int} : gIsi (.int i) (.ty "tuple") = some (.dt (.bl false)) := rfl
theorem isT_st {i : Str} : gIsi (.str i) (.ty "tuple") = some (.dt (.bl false)) := rfl
theorem isT_ss {i : Str} : gIsi (.str i) (.ty "str") = some (.dt (.bl true)) := rfl
theorem isT_is {i : Int} : gIsi (.int i) (.ty "str") = some (.dt (.bl false)) := rfl
theorem isT_ii {i : Int} : gIsi (.int i) (.ty "int") = some (.dt (.bl true)) := rfl
theorem isT_ib {i : Int} : gIsi (.int i) (.ty "bool") = some (.dt (.bl false)) := rfl
theorem same_int (n : Nat) (i : Int) : m_law_sameN (n + 1) [.dat (.int i), .dat (.int i)] [] = .ok (.dat (.bl true)) [] := by
  show runF 3 (b_law_same (m_law_sameN n)) _ _ = _
  unfold b_law_same runF
  nomatch "e", isT_it, isT_is, isT_ii, isT_ib
theorem same_str (n : Nat) (i : Str) : m_law_sameN (n + 1) [.dat (.str i), .dat (.str i)] [] = .ok (.dat (.bl true)) [] := by
  show runF 3 (b_law_same (m_law_sameN n)) _ _ = _
  unfold b_law_same runF
  nomatch "e", isT_st, isT_ss
theorem all_trues : ∀ n : Nat, gAll (.lst ((List.range n).map fun _ => D.bl true)) = some (.dt (.bl true)) := fun n => by
  have b : ∀ l : List Nat, blsD (l.map fun _ => D.bl true) = some (l.map fun _ => true) := fun l => by
    induction l with
    | nil => rfl
    | cons a l ih => rw [List.map_cons, List.map_cons, blsD, ih]
  dsimp only [gAll]
  rw [b]
  dsimp only
  have : ∀ l : List Nat, (l.map fun _ => true).all id = true := fun l => by
    induction l with
    | nil => rfl
    | cons a l ih => rw [List.map_cons, List.all_cons, ih]; rfl
  rw [this]
theorem same_tup {n : Nat} {ds : List D} (hl : ds.length ≤ 1000000) (h : ∀ d ∈ ds, m_law_sameN n [.dat d, .dat d] [] = .ok (.dat (.bl true)) []) : m_law_sameN (n + 1) [.dat (.tup ds), .dat (.tup ds)] [] = .ok (.dat (.bl true)) [] := by
  show runF 3 (b_law_same (m_law_sameN n)) _ _ = _
  unfold b_law_same runF
  have rg := iRg_1 (j := (ds.length : Nat)) (S := []) (by omega) (by omega)
  rw [Int.toNat_natCast] at rg
  have lc := lcF_map (g := gN 2) (e := eCall 2 (m_law_sameN n) (aCons (eBin gIx (eVar 0) (eVar 2)) (aCons (eBin gIx (eVar 1) (eVar 2)) aNil))) (ρ0 := [some (.dat (.tup ds)), some (.dat (.tup ds)), none]) (S := []) (List.range ds.length) (fun k => .int (0 + ((k : Nat) : Int) * 1)) (fun _ => .bl true) (fun k => [some (.dat (.tup ds)), some (.dat (.tup ds)), some (.dat (.int (0 + ((k : Nat) : Int) * 1)))])
    (fun k _ => rfl) (fun k hk => by
      have hk := List.mem_range.mp hk
      have e : (0 : Int) + ((k : Nat) : Int) * 1 = (k : Nat) := by omega
      have ha : atI ds (0 + ((k : Nat) : Int) * 1) = some ds[k] := by rw [e]; exact atI_nat (List.getElem?_eq_getElem hk)
      exact call_d2 (h _ (List.getElem_mem hk)) (by nomatch "e", ha))
  have lc : lcF (gN 2) tY (eCall 2 (m_law_sameN n) (aCons (eBin gIx (eVar 0) (eVar 2)) (aCons (eBin gIx (eVar 1) (eVar 2)) aNil))) [some (.dat (.tup ds)), some (.dat (.tup ds)), none] (rangeD 0 1 ds.length) [] = some ((List.range ds.length).map fun _ => D.bl true, []) := lc
  have hlen : ((List.range ds.length).map fun _ => D.bl true).length ≤ 16777216 := by rw [List.length_map, List.length_range]; omega
  nomatch "e", isT_tt, rg, eLc_e, eLcI_e, wipeA_nil, wipeA_c, lc, eLcJ_e hlen, all_trues
theorem same_form {n : Nat} {c : Int} {ps : List (Str × Int)} (hl : ps.length ≤ 1000000) : m_law_sameN (n + 4) [.dat (fD c ps), .dat (fD c ps)] [] = .ok (.dat (.bl true)) [] := by
  refine same_tup (Nat.le_of_ble_eq_true rfl) fun d hd => ?_
  rcases List.mem_cons.mp hd with rfl | hd
  · exact same_int _ _
  · rw [List.mem_singleton.mp hd]
    refine same_tup (by rw [List.length_map]; exact hl) fun d hd => ?_
    obtain ⟨p, _, rfl⟩ := List.mem_map.mp hd
    refine same_tup (Nat.le_of_ble_eq_true rfl) fun d hd => ?_
    rcases List.mem_cons.mp hd with rfl | hd
    · exact same_str _ _
    · rw [List.mem_singleton.mp hd]
      exact same_int _ _
end Ew

set_option Elab.async false
set_option linter.all false
set_option maxRecDepth 100000
set_option maxHeartbeats 8000000
namespace Ew
open PySem PySem.Spec PyProof.Rows L2
local macro_rules | `(tactic| nomatch "e", $ts,*) => `(tactic| simp only [R_bind_ok, R_bind_exc, R_bind_bad, R_toB_ok, R_toB_exc, R_toB_bad, R_toA_ok, R_toA_exc, R_toA_bad, RA_bind_ok, RA_bind_exc, RA_bind_bad, RA_toR_ok, RA_toR_exc, RA_toR_bad, RA_toI_ok, RA_toI_exc, RA_toI_bad, RB_toR_ok, RB_toR_exc, RB_toR_bad, RB_bind_ok, RB_bind_exc, RB_bind_bad, R_toI_ok, R_toI_exc, R_toI_bad, RO_toR_ok, RO_toR_exc, RO_toR_bad, R_toS_ok, R_toS_exc, R_toS_bad, RB_toS_ok, RB_toS_exc, RB_toS_bad, RI_toS_ok, RI_toS_exc, RI_toS_bad, sSeq_e, SR_seq_nx, SR_seq_rt, SR_seq_bk, SR_seq_ct, SR_seq_exc, SR_seq_bad, sNx_e, sBk_e, sCt_e, sBad_e, sRetN_e, sSet_e, sSetK_e, fz1_d, fz1_o, fz1_n, toD_l, toD_d, toD_f, live_l, live_d, sSetO_e, sSetOK_n, sSetOK_d, sSetOK_o, sDrop_e, sDropK_e, sRet_e, sRetK_e, sIf_e, sIfK_t, sIfK_f, sFor_e, sForK_e, turn_e, turnK_s, gN_e, gT_e, gT_l, gsCons_e, gsK_s, gsNil_e, sPut_e, sPutK1_e, sPutK2_e, sPutK3_e, sPutK4_e, apP_e, apPK_e, apPL_e, sUnp_e, sUnpK_e, sUnpL_e, unpV_d, sUnpM_e, sAug_e, sAugJ_e, sAugK_e, sAugL_e, sAugM_e, clB_0, clB_l, clB_d, clB_f, frz_d, frz_n, frz_o, frzK_e, frzs_nil, frzs_c, frzsK_e, frzsL_e, view_d, view_o, viewK_e, view_n, views_nil, views_c, viewsK_e, viewsL_e, eVar_e, eVarK_d, eVarK_o, eC_e, apR_d, apR_o, ap2_e, ap2V_e, eBin_e, eBinK_e, eBinL_e, tBin_e, tBinK_e, tBinL_e, bl2_e, bl2V_e, blR_e, eUn_e, un1_e, un1V_e, tVal_e, tru_e, truV_e, truW_e, truth_n, truth_b, truth_i, truth_t, truth_l, tNt_e, tNtK_e, tAn_e, tAnK_t, tAnK_f, tO_e, tOK_t, tOK_f, tY_e, eAnd_e, eAndK_t, eAndK_f, eOr_e, eOrK_f, eOrK_t, eNot_e, eNotK_e, eIf_e, eIfK_t, eIfK_f, aNil_e, aCons_e, aConsK_e, aConsL_e, eAp_e, ap_e, apV_e, g1_e, g2_e, eMt_e, eMtK_e, eMtV_e, eMtT_e, eMtL_e, apM_e, apMV_e, m1_e, m0_e, tyD_s, tyD_l, eMt0_e, eMt0K_e, eMt0V_e, eMt0T_e, eMu_e, eMuK_e, eMuV_e, eMuT_e, eMuL_e, tyO_l, tyO_d, apU_e, apUK_e, apUL_e, apUM_e, u1_e, u0_e, eMu0_e, eMu0K_e, eMu0V_e, eMu0T_e, eTup_e, eLst_e, mkT_e, mkL_e, mkTK_0, mkLK_0, mkTK_1, mkLK_1, mkTK_2, mkLK_2, mkTK_3, mkLK_3, mkTK_4, mkLK_4, mkTK_5, mkLK_5, mkTK_6, mkLK_6, mkTK_7, mkLK_7, mkTK_8, mkLK_8, oNone_e, oSome_e, oSomeK_e, eSl_e, eSlK_e, eSlL_e, eSlM_e, apS_e, apSV_e, iSeq_e, iSeqK_e, iSeqV_e, iSeqL_e, items_l, items_t, items_s, iRange_e, gAdd_ii, gSub_ii, gNeg_i, gAbs_i, gInt_i, gLt_ii, gLt_ss, gLe_ii, gLe_ss, gGt_ii, gGt_ss, gGe_ii, gGe_ss, gEq_ii, gNe_ii, gEq_ss, gNe_ss, gLen_l, gLen_t, gList_s, gList_l, gList_t, gTuple_l, gTuple_t, gIx_l, gIx_t, optD_e, atI_lit, gSet_l, gSetLK_e, List.getElem?_cons_zero, List.getElem?_cons_succ, List.getElem?_nil, List.set_cons_zero, List.set_cons_succ, List.length_cons, List.length_nil, List.map_cons, List.map_nil, List.cons_append, List.nil_append, Nat.zero_add, Nat.add_zero, Nat.reduceAdd, Nat.reduceSub, Nat.sub_self, Nat.reduceLT, Nat.reduceLeDiff, Int.reduceLT, Int.reduceLE, Int.reduceNeg, Int.reduceEq, decide_true, decide_false, ixN_lit, List.set_nil, List.replicate, Int.reduceAdd, Int.reduceSub, reduceCtorEq, Bool.not_true, Bool.not_false, List.take_succ_cons, List.take_zero, List.take_nil, retS, cutR, cutX, clB_ao, $[$ts:term],*])
local macro_rules | `(tactic| nomatch "e") => `(tactic| simp only [R_bind_ok, R_bind_exc, R_bind_bad, R_toB_ok, R_toB_exc, R_toB_bad, R_toA_ok, R_toA_exc, R_toA_bad, RA_bind_ok, RA_bind_exc, RA_bind_bad, RA_toR_ok, RA_toR_exc, RA_toR_bad, RA_toI_ok, RA_toI_exc, RA_toI_bad, RB_toR_ok, RB_toR_exc, RB_toR_bad, RB_bind_ok, RB_bind_exc, RB_bind_bad, R_toI_ok, R_toI_exc, R_toI_bad, RO_toR_ok, RO_toR_exc, RO_toR_bad, R_toS_ok, R_toS_exc, R_toS_bad, RB_toS_ok, RB_toS_exc, RB_toS_bad, RI_toS_ok, RI_toS_exc, RI_toS_bad, sSeq_e, SR_seq_nx, SR_seq_rt, SR_seq_bk, SR_seq_ct, SR_seq_exc, SR_seq_bad, sNx_e, sBk_e, sCt_e, sBad_e, sRetN_e, sSet_e, sSetK_e, fz1_d, fz1_o, fz1_n, toD_l, toD_d, toD_f, live_l, live_d, sSetO_e, sSetOK_n, sSetOK_d, sSetOK_o, sDrop_e, sDropK_e, sRet_e, sRetK_e, sIf_e, sIfK_t, sIfK_f, sFor_e, sForK_e, turn_e, turnK_s, gN_e, gT_e, gT_l, gsCons_e, gsK_s, gsNil_e, sPut_e, sPutK1_e, sPutK2_e, sPutK3_e, sPutK4_e, apP_e, apPK_e, apPL_e, sUnp_e, sUnpK_e, sUnpL_e, unpV_d, sUnpM_e, sAug_e, sAugJ_e, sAugK_e, sAugL_e, sAugM_e, clB_0, clB_l, clB_d, clB_f, frz_d, frz_n, frz_o, frzK_e, frzs_nil, frzs_c, frzsK_e, frzsL_e, view_d, view_o, viewK_e, view_n, views_nil, views_c, viewsK_e, viewsL_e, eVar_e, eVarK_d, eVarK_o, eC_e, apR_d, apR_o, ap2_e, ap2V_e, eBin_e, eBinK_e, eBinL_e, tBin_e, tBinK_e, tBinL_e, bl2_e, bl2V_e, blR_e, eUn_e, un1_e, un1V_e, tVal_e, tru_e, truV_e, truW_e, truth_n, truth_b, truth_i, truth_t, truth_l, tNt_e, tNtK_e, tAn_e, tAnK_t, tAnK_f, tO_e, tOK_t, tOK_f, tY_e, eAnd_e, eAndK_t, eAndK_f, eOr_e, eOrK_f, eOrK_t, eNot_e, eNotK_e, eIf_e, eIfK_t, eIfK_f, aNil_e, aCons_e, aConsK_e, aConsL_e, eAp_e, ap_e, apV_e, g1_e, g2_e, eMt_e, eMtK_e, eMtV_e, eMtT_e, eMtL_e, apM_e, apMV_e, m1_e, m0_e, tyD_s, tyD_l, eMt0_e, eMt0K_e, eMt0V_e, eMt0T_e, eMu_e, eMuK_e, eMuV_e, eMuT_e, eMuL_e, tyO_l, tyO_d, apU_e, apUK_e, apUL_e, apUM_e, u1_e, u0_e, eMu0_e, eMu0K_e, eMu0V_e, eMu0T_e, eTup_e, eLst_e, mkT_e, mkL_e, mkTK_0, mkLK_0, mkTK_1, mkLK_1, mkTK_2, mkLK_2, mkTK_3, mkLK_3, mkTK_4, mkLK_4, mkTK_5, mkLK_5, mkTK_6, mkLK_6, mkTK_7, mkLK_7, mkTK_8, mkLK_8, oNone_e, oSome_e, oSomeK_e, eSl_e, eSlK_e, eSlL_e, eSlM_e, apS_e, apSV_e, iSeq_e, iSeqK_e, iSeqV_e, iSeqL_e, items_l, items_t, items_s, iRange_e, gAdd_ii, gSub_ii, gNeg_i, gAbs_i, gInt_i, gLt_ii, gLt_ss, gLe_ii, gLe_ss, gGt_ii, gGt_ss, gGe_ii, gGe_ss, gEq_ii, gNe_ii, gEq_ss, gNe_ss, gLen_l, gLen_t, gList_s, gList_l, gList_t, gTuple_l, gTuple_t, gIx_l, gIx_t, optD_e, atI_lit, gSet_l, gSetLK_e, List.getElem?_cons_zero, List.getElem?_cons_succ, List.getElem?_nil, List.set_cons_zero, List.set_cons_succ, List.length_cons, List.length_nil, List.map_cons, List.map_nil, List.cons_append, List.nil_append, Nat.zero_add, Nat.add_zero, Nat.reduceAdd, Nat.reduceSub, Nat.sub_self, Nat.reduceLT, Nat.reduceLeDiff, Int.reduceLT, Int.reduceLE, Int.reduceNeg, Int.reduceEq, decide_true, decide_false, ixN_lit, List.set_nil, List.replicate, Int.reduceAdd, Int.reduceSub, reduceCtorEq, Bool.not_true, Bool.not_false, List.take_succ_cons, List.take_zero, List.take_nil, retS, cutR, cutX, clB_ao])

/-! ### the sum of forms by a law's own hand -/
theorem form_loop2 {ps : List (Str × Int)} (hl : ps.length ≤ 1000000) (c : D) (src : AV) {n : Nat} {SO : AO → SS} (hS : ∀ o, (SO o)[n]? = some o) (hset : ∀ o o2, (SO o).set n o2 = SO o2) : ∃ x y, forD (turn (gT (gsCons (gN 3) (gsCons (gN 4) gsNil)))
    (sPut gSet (eVar 2) (eVar 3) (eBin gAdd (eGet2 (eVar 2) (eVar 3) (eC (.int 0))) (eVar 4)))) (ps.map pD) [some (.dat c), some src, some (.own n), none, none] (SO (.dct [])) =
    .nx [some (.dat c), some src, some (.own n), x, y] (SO (.dct (dE (keysOf ps) (co ps)))) := by
  have z := forD_inv (body := turn (gT (gsCons (gN 3) (gsCons (gN 4) gsNil))) (sPut gSet (eVar 2) (eVar 3) (eBin gAdd (eGet2 (eVar 2) (eVar 3) (eC (.int 0))) (eVar 4)))) (ps.map pD)
    (fun k ρ S => ∃ x y, ρ = [some (.dat c), some src, some (.own n), x, y] ∧ S = SO (.dct (dE (keysOf (ps.take k)) (co (ps.take k))))) [some (.dat c), some src, some (.own n), none, none] (SO (.dct [])) ⟨none, none, rfl, rfl⟩ (by
    rintro k d ρ S hk ⟨x, y, rfl, rfl⟩
    rw [List.getElem?_map] at hk
    cases hp : ps[k]? with
    | none => rw [hp] at hk; cases hk
    | some p =>
    rw [hp] at hk
    cases hk
    have ht : ps.take (k + 1) = ps.take k ++ [p] := by rw [List.take_add_one, hp]; rfl
    have hlen : (dE (keysOf (ps.take k)) (co (ps.take k))).length < 16777216 := by
      have := keysOf_len (ps.take k)
      rw [List.length_take] at this
      unfold dE
      rw [List.length_map]; omega
    have hget : (dget (dE (keysOf (ps.take k)) (co (ps.take k))) (.inr p.1)).getD (.int 0) = .int (co (ps.take k) p.1) := by
      rw [dget_dE]
      split
      · rfl
      · rename_i h
        rw [co_not (fun z => h (keysOf_mem.mpr z))]; rfl
    have gs := gSet_d (es := dE (keysOf (ps.take k)) (co (ps.take k))) (k := .str p.1) (d := .int (co (ps.take k) p.1 + p.2)) (keyD_s) hlen
    have e : dE (addK (keysOf (ps.take k)) p.1) (fun x => if x = p.1 then co (ps.take k) p.1 + p.2 else co (ps.take k) x) = dE (keysOf (ps.take (k + 1))) (co (ps.take (k + 1))) := by
      rw [ht, keysOf_snoc]
      congr 1
      funext x
      rw [co_app]
      show _ = _ + ((if p.1 = x then p.2 else 0) + 0)
      by_cases h : x = p.1
      · subst h
        rw [if_pos rfl, if_pos rfl, Int.add_zero]
      · rw [if_neg h, if_neg (fun z => h z.symm)]; omega
    rw [dput_dE, e] at gs
    refine ⟨_, _, .inl ?_, some (.dat (.str p.1)), some (.dat (.int p.2)), rfl, rfl⟩
    nomatch "e", pD, eGet2_e, eGetI_e, eGetJ_e, eGetK_e, eGetL_e, eGetM_e keyD_s, hget, gs, hS, hset)
  obtain ⟨ρ', S', e, x, y, rfl, rfl⟩ := z
  rw [List.length_map, List.take_length] at e
  exact ⟨x, y, e⟩
theorem form_own {ps : List (Str × Int)} (hl : ps.length ≤ 1000000) (hk : (keysOf ps).length < 64) (c : Int) : m_form [.dat (.int c), .own 0] [.lst (ps.map pD)] = .ok (.dat (fD c (nf ps))) [.fz (.lst (ps.map pD))] := by
  unfold m_form b_form runF
  obtain ⟨x, y, lp⟩ := form_loop2 hl (.int c) (.own 0) (n := 1) (SO := fun o => [.fz (.lst (ps.map pD)), o]) (fun _ => rfl) (fun _ _ => rfl)
  have lc := lcF_filter (g := gN 3) (t := tBin gNe (eBin gIx (eVar 2) (eVar 3)) (eC (.int 0))) (e := eTup (aCons (eVar 3) (aCons (eBin gIx (eVar 2) (eVar 3)) aNil))) (ρ0 := [some (.dat (.int c)), some (.own 0), some (.own 1), none, y]) (S := [.fz (.lst (ps.map pD)), .dct (dE (keysOf ps) (co ps))])
    (sortT (keysOf ps)) D.str (fun k => pD (k, co ps k)) (fun k => !decide (co ps k = 0)) (fun k => [some (.dat (.int c)), some (.own 0), some (.own 1), some (.dat (.str k)), y]) (fun _ _ => rfl)
    (fun k h => by
      have gx := gIx_d (es := dE (keysOf ps) (co ps)) (k := .str k) (d := .int (co ps k)) keyD_s (by rw [dget_dE, if_pos ((sortT_perm _).mem_iff.mp h)])
      nomatch "e", gx)
    (fun k h _ => by
      have gx := gIx_d (es := dE (keysOf ps) (co ps)) (k := .str k) (d := .int (co ps k)) keyD_s (by rw [dget_dE, if_pos ((sortT_perm _).mem_iff.mp h)])
      nomatch "e", gx, pD)
  have hn : (nf ps).map pD = ((sortT (keysOf ps)).filter fun k => !decide (co ps k = 0)).map fun k => pD (k, co ps k) := by
    unfold nf
    rw [List.map_map]; rfl
  rw [← hn] at lc
  have hlen : ((nf ps).map pD).length ≤ 16777216 := by
    have := nf_len ps
    rw [List.length_map]; omega
  have gs := gSorted_dE (f := co ps) hk
  nomatch "e", eDnew_e, lp, gs, eLc_e, eLcI_e, wipeA_nil, wipeA_c, lc, eLcJ_e hlen, fD

theorem callF_g {F : List AV → SS → R} {as as2 : List AV} {S : SS} {n : Nat} {o o' : AO} {d : D} (hS : S[n]? = some o) (c1 : clO o = true) (c2 : clO o' = true) (h : AV.hs as = [n]) (ha : as.map (fun a => ren [n] (fz1 a)) = as2) (e : F as2 [o] = .ok (.dat d) [o']) : callF F as S = .ok (.dat d) (S.set n o') := by
  unfold callF
  have e3 : (!([] : List Nat).contains n && true) = true := rfl
  rw [h]
  have b1 : clB [o] = true := by show (clO o && true) = true; rw [c1]; rfl
  have b2 : clB [o'] = true := by show (clO o' && true) = true; rw [c2]; rfl
  have b3 : okL [o'] [o] = true := by show (Nat.beq 1 1 && clB [o']) = true; rw [b2]; rfl
  simp only [nodupB, pick, hS, ha, e3, e, b1, b3]
  rfl
theorem pD_e {p : Str × Int} : pD p = .tup [.str p.1, .int p.2] := (rfl)
theorem callF_w {F : List AV → SS → R} {as as2 : List AV} {S : SS} {d : D} (h : AV.hs as = []) (e : F as2 [] = .ok (.dat d) []) (ha : as.map (fun a => ren [] (fz1 a)) = as2) : callF F as S = .ok (.dat d) S := by
  unfold callF
  rw [h]
  simp only [nodupB, pick, ha, e]
  rfl
theorem call_w1 {F : List AV → SS → R} {f : AE → SS → RA} {ρ : AE} {S : SS} {ds : List D} {d : D} (e : F [.dat (.lst ds)] [] = .ok (.dat d) []) (h : f ρ S = .ok [.new (.lst ds)] S) : eCall 1 F f ρ S = .ok (.dat d) S :=
  eCall_e h rfl (callF_w rfl e rfl)
def partD (q : Int × Int × List (Str × Int)) : D := .tup [.int q.1, fD q.2.1 q.2.2]
def sc (qs : List (Int × Int × List (Str × Int))) : Int := (qs.map fun q => q.1 * q.2.1).sum
def sp (qs : List (Int × Int × List (Str × Int))) : List (Str × Int) := qs.flatMap fun q => q.2.2.map fun p => (p.1, q.1 * p.2)
theorem sum_ok {qs : List (Int × Int × List (Str × Int))} (hl : (sp qs).length ≤ 1000000) (hk : (keysOf (sp qs)).length < 64)
    (hb : ∀ q ∈ qs, q.1.natAbs < 10 ^ 200 ∧ q.2.1.natAbs < 10 ^ 200 ∧ ∀ p ∈ q.2.2, p.2.natAbs < 10 ^ 200) : m_law_sum [.dat (.lst (qs.map partD))] [] = .ok (.dat (fD (sc qs) (nf (sp qs)))) [] := by
  unfold m_law_sum b_law_sum runF
  have hB : ∀ x : Nat, x < 10 ^ 200 → x < 10 ^ 1000 := fun x h => Nat.lt_of_lt_of_le h (Nat.pow_le_pow_right (by decide) (by decide))
  obtain ⟨ρ', S', lp, a, b, x, y, rfl, rfl⟩ := forD_inv (body := turn (gT (gsCons (gN 3) (gsCons (gN 4) gsNil)))
(sSeq (sSet 1 (eBin gAdd (eVar 1) (eBin gMul (eVar 3) (eBin gIx (eVar 4) (eC (.int 0))))))
(sFor (iSeq (eBin gIx (eVar 4) (eC (.int 1)))) (gT (gsCons (gN 5) (gsCons (gN 6) gsNil)))
(sDrop (eMu "list" (u1 gAppend) (eVar 2) (aCons (eTup (aCons (eVar 5) (aCons (eBin gMul (eVar 3) (eVar 6)) aNil))) aNil)))))) (qs.map partD)
    (fun k ρ S => ∃ a b x y, ρ = [some (.dat (.lst (qs.map partD))), some (.dat (.int (sc (qs.take k)))), some (.own 0), a, b, x, y] ∧ S = [.lst ((sp (qs.take k)).map pD)]) [some (.dat (.lst (qs.map partD))), some (.dat (.int 0)), some (.own 0), none, none, none, none] [.lst []] ⟨none, none, none, none, rfl, rfl⟩ (by
    rintro k d ρ S hkd ⟨a, b, x, y, rfl, rfl⟩
    rw [List.getElem?_map] at hkd
    cases hq : qs[k]? with
    | none => rw [hq] at hkd; cases hkd
    | some q =>
    rw [hq] at hkd
    cases hkd
    have ht : qs.take (k + 1) = qs.take k ++ [q] := by rw [List.take_add_one, hq]; rfl
    obtain ⟨b1, b2, b3⟩ := hb q (List.mem_of_getElem? hq)
    have hsp : sp (qs.take (k + 1)) = sp (qs.take k) ++ q.2.2.map fun p => (p.1, q.1 * p.2) := by
      unfold sp
      rw [ht, List.flatMap_append]
      simp
    have hsc : sc (qs.take (k + 1)) = sc (qs.take k) + q.1 * q.2.1 := by
      unfold sc
      rw [ht, List.map_append, List.sum_append]
      simp
    have hlen : (sp (qs.take (k + 1))).length ≤ 1000000 := by
      have e : sp qs = sp (qs.take (k + 1)) ++ sp (qs.drop (k + 1)) := by
        unfold sp
        rw [← List.flatMap_append, List.take_append_drop]
      rw [e, List.length_append] at hl
      omega
    rw [hsp, List.length_append, List.length_map] at hlen
    have gm := gMul_n (hB _ b1) b2
    have i1 : gIx (fD q.2.1 q.2.2) (.int 1) = some (.dt (.tup (q.2.2.map pD))) := rfl
    have i0 : gIx (fD q.2.1 q.2.2) (.int 0) = some (.dt (.int q.2.1)) := rfl
    obtain ⟨ρ', S', lp, x2, y2, rfl, rfl⟩ := forD_inv (body := turn (gT (gsCons (gN 5) (gsCons (gN 6) gsNil)))
(sDrop (eMu "list" (u1 gAppend) (eVar 2) (aCons (eTup (aCons (eVar 5) (aCons (eBin gMul (eVar 3) (eVar 6)) aNil))) aNil)))) (q.2.2.map pD)
      (fun j ρ S => ∃ x y, ρ = [some (.dat (.lst (qs.map partD))), some (.dat (.int (sc (qs.take (k + 1))))), some (.own 0), some (.dat (.int q.1)), some (.dat (fD q.2.1 q.2.2)), x, y] ∧ S = [.lst ((sp (qs.take k) ++ (q.2.2.take j).map fun p => (p.1, q.1 * p.2)).map pD)])
      [some (.dat (.lst (qs.map partD))), some (.dat (.int (sc (qs.take (k + 1))))), some (.own 0), some (.dat (.int q.1)), some (.dat (fD q.2.1 q.2.2)), x, y] [.lst ((sp (qs.take k)).map pD)] ⟨x, y, rfl, by simp⟩ (by
      rintro j d ρ S hj ⟨x, y, rfl, rfl⟩
      rw [List.getElem?_map] at hj
      cases hp : q.2.2[j]? with
      | none => rw [hp] at hj; cases hj
      | some p =>
      rw [hp] at hj
      cases hj
      have ht2 : q.2.2.take (j + 1) = q.2.2.take j ++ [p] := by rw [List.take_add_one, hp]; rfl
      have gm2 := gMul_n (hB _ b1) (b3 p (List.mem_of_getElem? hp))
      have hjl := (List.getElem?_eq_some_iff.mp hp).1
      have ga : gAppend (.lst ((sp (qs.take k) ++ (q.2.2.take j).map fun p => (p.1, q.1 * p.2)).map pD)) (.tup [.str p.1, .int (q.1 * p.2)]) = some (.lst ((sp (qs.take k) ++ (q.2.2.take j).map fun p => (p.1, q.1 * p.2)).map pD ++ [.tup [.str p.1, .int (q.1 * p.2)]]), .non) := gAppend_l (by
        rw [List.length_map, List.length_append, List.length_map, List.length_take]
        show _ < 16777216
        omega)
      have e : (sp (qs.take k) ++ (q.2.2.take (j + 1)).map fun p => (p.1, q.1 * p.2)).map pD = (sp (qs.take k) ++ (q.2.2.take j).map fun p => (p.1, q.1 * p.2)).map pD ++ [pD (p.1, q.1 * p.2)] := by
        simp only [ht2, List.map_append, List.append_assoc]
        rfl
      refine ⟨_, _, .inl ?_, some (.dat (.str p.1)), some (.dat (.int p.2)), rfl, rfl⟩
      rw [e]
      generalize (sp (qs.take k) ++ (q.2.2.take j).map fun p => (p.1, q.1 * p.2)).map pD = W at ga
      nomatch "e", pD_e, gm2, ga)
    rw [List.length_map, List.take_length, ← hsp] at lp
    refine ⟨_, _, .inl ?_, some (.dat (.int q.1)), some (.dat (fD q.2.1 q.2.2)), x2, y2, rfl, rfl⟩
    simp only [R_bind_ok, R_bind_exc, R_bind_bad, R_toB_ok, R_toB_exc, R_toB_bad, R_toA_ok, R_toA_exc, R_toA_bad, RA_bind_ok, RA_bind_exc, RA_bind_bad, RA_toR_ok, RA_toR_exc, RA_toR_bad, RA_toI_ok, RA_toI_exc, RA_toI_bad, RB_toR_ok, RB_toR_exc, RB_toR_bad, RB_bind_ok, RB_bind_exc, RB_bind_bad, R_toI_ok, R_toI_exc, R_toI_bad, RO_toR_ok, RO_toR_exc, RO_toR_bad, R_toS_ok, R_toS_exc, R_toS_bad, RB_toS_ok, RB_toS_exc, RB_toS_bad, RI_toS_ok, RI_toS_exc, RI_toS_bad, sSeq_e, SR_seq_nx, SR_seq_rt, SR_seq_bk, SR_seq_ct, SR_seq_exc, SR_seq_bad, sNx_e, sBk_e, sCt_e, sBad_e, sRetN_e, sSet_e, sSetK_e, fz1_d, fz1_o, fz1_n, toD_l, toD_d, toD_f, live_l, live_d, sSetO_e, sSetOK_n, sSetOK_d, sSetOK_o, sDrop_e, sDropK_e, sRet_e, sRetK_e, sIf_e, sIfK_t, sIfK_f, sFor_e, sForK_e, turn_e, turnK_s, gN_e, gT_e, gT_l, gsCons_e, gsK_s, gsNil_e, sPut_e, sPutK1_e, sPutK2_e, sPutK3_e, sPutK4_e, apP_e, apPK_e, apPL_e, sUnp_e, sUnpK_e, sUnpL_e, unpV_d, sUnpM_e, sAug_e, sAugJ_e, sAugK_e, sAugL_e, sAugM_e, clB_0, clB_l, clB_d, clB_f, frz_d, frz_n, frz_o, frzK_e, frzs_nil, frzs_c, frzsK_e, frzsL_e, view_d, view_o, viewK_e, view_n, views_nil, views_c, viewsK_e, viewsL_e, eVar_e, eVarK_d, eVarK_o, eC_e, apR_d, apR_o, ap2_e, ap2V_e, eBin_e, eBinK_e, eBinL_e, tBin_e, tBinK_e, tBinL_e, bl2_e, bl2V_e, blR_e, eUn_e, un1_e, un1V_e, tVal_e, tru_e, truV_e, truW_e, truth_n, truth_b, truth_i, truth_t, truth_l, tNt_e, tNtK_e, tAn_e, tAnK_t, tAnK_f, tO_e, tOK_t, tOK_f, tY_e, eAnd_e, eAndK_t, eAndK_f, eOr_e, eOrK_f, eOrK_t, eNot_e, eNotK_e, eIf_e, eIfK_t, eIfK_f, aNil_e, aCons_e, aConsK_e, aConsL_e, eAp_e, ap_e, apV_e, g1_e, g2_e, eMt_e, eMtK_e, eMtV_e, eMtT_e, eMtL_e, apM_e, apMV_e, m1_e, m0_e, tyD_s, tyD_l, eMt0_e, eMt0K_e, eMt0V_e, eMt0T_e, eMu_e, eMuK_e, eMuV_e, eMuT_e, eMuL_e, tyO_l, tyO_d, apU_e, apUK_e, apUL_e, apUM_e, u1_e, u0_e, eMu0_e, eMu0K_e, eMu0V_e, eMu0T_e, eTup_e, eLst_e, mkT_e, mkL_e, mkTK_0, mkLK_0, mkTK_1, mkLK_1, mkTK_2, mkLK_2, mkTK_3, mkLK_3, mkTK_4, mkLK_4, mkTK_5, mkLK_5, mkTK_6, mkLK_6, mkTK_7, mkLK_7, mkTK_8, mkLK_8, oNone_e, oSome_e, oSomeK_e, eSl_e, eSlK_e, eSlL_e, eSlM_e, apS_e, apSV_e, iSeq_e, iSeqK_e, iSeqV_e, iSeqL_e, items_l, items_t, items_s, iRange_e, gAdd_ii, gSub_ii, gNeg_i, gAbs_i, gInt_i, gLt_ii, gLt_ss, gLe_ii, gLe_ss, gGt_ii, gGt_ss, gGe_ii, gGe_ss, gEq_ii, gNe_ii, gEq_ss, gNe_ss, gLen_l, gLen_t, gList_s, gList_l, gList_t, gTuple_l, gTuple_t, gIx_l, gIx_t, optD_e, atI_lit, gSet_l, gSetLK_e, List.getElem?_cons_zero, List.getElem?_cons_succ, List.getElem?_nil, List.set_cons_zero, List.set_cons_succ, List.length_cons, List.length_nil, List.map_cons, List.map_nil, List.cons_append, List.nil_append, Nat.zero_add, Nat.add_zero, Nat.reduceAdd, Nat.reduceSub, Nat.sub_self, Nat.reduceLT, Nat.reduceLeDiff, Int.reduceLT, Int.reduceLE, Int.reduceNeg, Int.reduceEq, decide_true, decide_false, ixN_lit, List.set_nil, List.replicate, Int.reduceAdd, Int.reduceSub, reduceCtorEq, Bool.not_true, Bool.not_false, List.take_succ_cons, List.take_zero, List.take_nil, retS, cutR, cutX, clB_ao, partD, i1, i0, gm, ← hsc, lp])
  rw [List.length_map, List.take_length] at lp
  have fo := form_own (ps := sp qs) hl hk (sc qs)
  have cf := fun (f : AE → SS → RA) (ρ : AE) (h : f ρ [.lst ((sp qs).map pD)] = .ok [.dat (.int (sc qs)), .own 0] [.lst ((sp qs).map pD)]) => (eCall_e (n := 2) h rfl (callF_g (n := 0) rfl rfl rfl rfl rfl fo) : eCall 2 m_form f ρ [.lst ((sp qs).map pD)] = .ok (.dat (fD (sc qs) (nf (sp qs)))) ([.lst ((sp qs).map pD)].set 0 (.fz (.lst ((sp qs).map pD)))))
  nomatch "e", lp, cf
end Ew

set_option Elab.async false
set_option linter.all false
set_option maxRecDepth 100000
set_option maxHeartbeats 4000000
namespace Ew
open PySem PySem.Spec PyProof.Rows L2

/-! ### dict comprehensions -/
def dcF (g : D → AE → Option AE) (t : AE → SS → RB) (ek ev : AE → SS → R) (ρ0 : AE) : List D → List (Key × D) → SS → Option (List (Key × D) × SS)
  | [], acc, S => some (acc, S)
  | d :: ds, acc, S => match g d ρ0 with
    | some ρ => (match t ρ S with
      | .ok true S1 => (match ek ρ S1 with
        | .ok (.dat kd) S2 => (match keyD kd, Nat.blt acc.length line with
          | some k, true => (match ev ρ S2 with
            | .ok a S3 => (match frz a S3 with
              | some (x, S4) => dcF g t ek ev ρ0 ds (dput acc k x) S4
              | none => none)
            | _ => none)
          | _, _ => none)
        | _ => none)
      | .ok false S1 => dcF g t ek ev ρ0 ds acc S1
      | _ => none)
    | none => none
def eDc (vs : List Nat) (it : AE → SS → RI) (g : D → AE → Option AE) (t : AE → SS → RB) (ek ev : AE → SS → R) : AE → SS → R := fun ρ S => match it ρ S with
  | .ok ds S1 => (match dcF g t ek ev (wipeA ρ vs) ds [] S1 with
    | some (es, S2) => .ok (.new (.dct es)) S2
    | none => .bad)
  | .exc x S1 => .exc x S1
  | .bad => .bad
theorem grow_okK {K : PySem.W.Frag} {m1 m : Mem} {H1 H : Hp} {S : SS} {Dl : Addr} {acc : List (Key × V)} {u : HO} (h1 : H1 Dl = none) (s : Step m1 H1 m H) (w : Wd K m H S) (hL : Dl ∉ m.L) (hP : ¬ m.P Dl) (hD : H Dl = some (.dK acc)) {acc' : List (Key × V)} :
    Step m1 H1 m (upd H Dl (.dK acc')) ∧ Wd K m (upd H Dl (.dK acc')) S ∧ Stay K m.P H m.P (upd H Dl (.dK acc')) := by
  have st : Stay K m.P H m.P (upd H Dl (.dK acc')) := ⟨fun b o e i => by
      rw [upd_ne fun z => ?_]
      · exact e
      · subst z; rw [hD] at e; cases e; exact i, fun b o c e => by
      have ne : b ≠ Dl := fun z => by
        subst z
        exact hP c
      rw [upd_ne ne]; exact e, fun _ c => c⟩
  refine ⟨⟨s.ext, fun b o e c => ?_, s.phi, s.fr, fun b o e => ?_⟩, ⟨w.len, w.nd, fun n p o e1 e2 => (w.obj n p o e1 e2).mono st (Grow.refl m) ?_, w.sep, fun p c => ?_⟩, st⟩
  · rw [upd_ne (ne_of_none e h1)]; exact s.keep b o e c
  · rw [upd_ne (ne_of_none e h1)]; exact s.trk b o e
  · have ne : p ≠ Dl := fun z => by
      subst z
      exact hL (List.mem_of_getElem? e1)
    rw [upd_ne ne]
  · obtain ⟨o, e⟩ := w.phi p c
    have ne : p ≠ Dl := fun z => by
      subst z
      exact hP c
    exact ⟨o, by rw [upd_ne ne]; exact e⟩
section
variable {X : Cx} {W : WX}
theorem dc_ok {iter : Expr} {tg : Expr} {it : AE → SS → RI} {is : List Nat} {g : D → AE → Option AE} {t : AE → SS → RB} {ek ev : AE → SS → R} {vs : List Nat} (hi : ∀ i, i ∈ is → i ∈ vs) (ρ : AE) (S : SS) (σ : L2.St) (H : Hp) (Q : VK)
    (q : tR (kx X W) ρ S (eDc vs it g t ek ev ρ S) σ H Q) : tDc (tRI (kx X W) ρ S (it ρ S)) (tGu X.K is g) (tTu ⟨X.K, X.mg, W0⟩ t) (tEu ⟨X.K, X.mg, W0⟩ ek) (tEu ⟨X.K, X.mg, W0⟩ ev) vs σ H Q := by
  obtain ⟨m, w, en, q⟩ := q
  refine ⟨m, w, en, ?_⟩
  unfold eDc at q
  cases hit : it ρ S with
  | bad => rw [hit] at q; exact q.elim
  | exc x S1 => rw [hit] at q; exact q
  | ok ds S1 =>
    rw [hit] at q
    dsimp only at q
    intro J m1 H1 s1 w1 wk Dl hD
    cases hl : dcF g t ek ev (wipeA ρ vs) ds [] S1 with
    | none => rw [hl] at q; exact q.elim
    | some z =>
      obtain ⟨xs, S2⟩ := z
      rw [hl] at q
      dsimp only at q
      · have hn := w1.new hD
        refine ⟨fun i mm H' => mm = ds.length - i ∧ i ≤ ds.length ∧ ∃ m' S' acc accD, Step m1 H1 m' H' ∧ Wd X.K m' H' S' ∧ Dl ∉ m'.L ∧ ¬ m'.P Dl ∧ H' Dl = some (.dK acc) ∧ RepK X.K m'.P H' acc accD ∧ dcF g t ek ev (wipeA ρ vs) (ds.drop i) accD S' = some (xs, S2),
          ⟨ds.length, rfl, Nat.zero_le _, m1, S1, [], [], step_upd hD, w1.step (step_upd hD) (fun p hp => by
            obtain ⟨u, hu, _⟩ := w1.there hp
            rw [upd_ne (ne_of_none hu hD)]), hn.1, hn.2, upd_same, .nil, hl⟩, ?_⟩
        rintro i mm H' ⟨rfl, hile, m', S', acc, accD, s', w', hL, hP, hacc, racc, hlc⟩
        obtain ⟨go, stop, yl⟩ := wk m' H' s'
        by_cases hlt : i < ds.length
        · refine .inr ⟨go i hlt, fun H2 => ∃ m' S' acc accD, Step m1 H1 m' H2 ∧ Wd X.K m' H2 S' ∧ Dl ∉ m'.L ∧ ¬ m'.P Dl ∧ H2 Dl = some (.dK acc) ∧ RepK X.K m'.P H2 acc accD ∧ dcF g t ek ev (wipeA ρ vs) (ds.drop (i + 1)) accD S' = some (xs, S2),
            fun H2 h2 => ⟨ds.length - (i + 1), by omega, rfl, hlt, h2⟩, fun x H2 hy => ?_⟩
          obtain ⟨hst, d, hd, hr⟩ := yl i x H2 hlt hy
          have st := step_tup (m := m') hst
          have w2 := wd_tup w' hst
          have ed : ds.drop i = d :: ds.drop (i + 1) := by
            rw [List.drop_eq_getElem_cons hlt]
            congr 1
            rw [List.getElem?_eq_getElem hlt] at hd
            exact Option.some.inj hd
          rw [ed] at hlc
          unfold dcF at hlc
          split at hlc
          · rename_i ρ2 eg
            have en2 : EnvR X.K m' H2 (L2.wipe σ vs) (wipeA ρ vs) := ((en.mono s1).mono (s'.trans st)).wipe vs
            refine ⟨d, _, ρ2, eg, m', S', w2, en2, hr, fun σ3 en3 off => ⟨wipe_off off hi, ρ2, S', m', w2, en3, ?_⟩⟩
            have hD2 : H2 Dl = some (.dK acc) := st.keep Dl _ hacc (.inl hL)
            have r2 := RepK.mono st.stay racc
            split at hlc
            · rename_i S3 et
              rw [et]
              intro m3 H3 s3 w3
              refine iteT ⟨ρ2, S3, m3, w3, en3.mono s3, ?_⟩
              have L3 : Dl ∉ m3.L := fun z => by
                obtain ⟨ps, el, fr⟩ := s3.ext
                rw [el] at z
                rcases List.mem_append.mp z with z | z
                · exact hL z
                · rw [fr _ z] at hD2; cases hD2
              have P3 : ¬ m3.P Dl := fun z => by
                rcases s3.fr _ z with z | z | z
                · exact hP z
                · exact hL z
                · rw [z] at hD2; cases hD2
              have hD3 : H3 Dl = some (.dK acc) := s3.keep Dl _ hD2 (.inl hL)
              split at hlc
              · rename_i kd S4 ek1
                rw [ek1]
                split at hlc
                · rename_i k hkd hbl
                  intro y m4 H4 s4 w4 a4 f4
                  have L4 : Dl ∉ m4.L := fun z => by
                    obtain ⟨ps, el, fr⟩ := s4.ext
                    rw [el] at z
                    rcases List.mem_append.mp z with z | z
                    · exact L3 z
                    · rw [fr _ z] at hD3; cases hD3
                  have P4 : ¬ m4.P Dl := fun z => by
                    rcases s4.fr _ z with z | z | z
                    · exact P3 z
                    · exact L3 z
                    · rw [z] at hD3; cases hD3
                  have hD4 : H4 Dl = some (.dK acc) := s4.keep Dl _ hD3 (.inl L3)
                  have hky := key_rep (Rep.v (show Rep X.K m4.P H4 y kd from a4)) hkd
                  refine ⟨ρ2, S4, m4, w4, (en3.mono s3).mono s4, ?_⟩
                  split at hlc
                  · rename_i a S5 ev1
                    rw [ev1]
                    split at hlc
                    · rename_i x' S6 ef
                      intro z m5 H5 s5 w5 a5 f5
                      obtain ⟨P', gr, s6, w6, r6⟩ := frz_ok s5 w5 a5.q f5 ef
                      have L5 : Dl ∉ m5.L := fun z => by
                        obtain ⟨ps, el, fr⟩ := s5.ext
                        rw [el] at z
                        rcases List.mem_append.mp z with z | z
                        · exact L4 z
                        · rw [fr _ z] at hD4; cases hD4
                      have P5 : ¬ P' Dl := fun z => by
                        rcases s6.fr _ z with z | z | z
                        · exact P4 z
                        · exact L4 z
                        · rw [z] at hD4; cases hD4
                      have hD5 : H5 Dl = some (.dK acc) := s5.keep Dl _ hD4 (.inl L4)
                      have s16 := (((s'.trans st).trans s3).trans s4).trans s6
                      have r5 : RepK X.K P' H5 acc accD := RepK.mono s6.stay (RepK.mono s4.stay (RepK.mono s3.stay r2))
                      refine ⟨acc, k, hky, hD5, ?_, ?_⟩
                      · rw [r5.length]
                        exact line_lt (blt_ok hbl)
                      · obtain ⟨t1, t2, t3⟩ := grow_okK (K := X.K) (u := .lst []) (acc' := putK acc k z) hD s16 w6 L5 P5 hD5
                        refine ⟨⟨m5.L, P'⟩, S6, putK acc k z, dput accD k x', t1, t2, L5, P5, upd_same, RepK.mono t3 (r5.put r6), hlc⟩
                    · cases hlc
                  · cases hlc
                · cases hlc
              · cases hlc
            · rename_i S3 et
              rw [et]
              intro m3 H3 s3 w3
              have L3 : Dl ∉ m3.L := fun z => by
                obtain ⟨ps, el, fr⟩ := s3.ext
                rw [el] at z
                rcases List.mem_append.mp z with z | z
                · exact hL z
                · rw [fr _ z] at hD2; cases hD2
              have P3 : ¬ m3.P Dl := fun z => by
                rcases s3.fr _ z with z | z | z
                · exact hP z
                · exact hL z
                · rw [z] at hD2; cases hD2
              exact iteF ⟨m3, S3, acc, accD, (s'.trans st).trans s3, w3, L3, P3, s3.keep Dl _ hD2 (.inl hL), RepK.mono s3.stay r2, hlc⟩
            · cases hlc
          · cases hlc
        · have hi2 : i = ds.length := by omega
          subst hi2
          rw [List.drop_length] at hlc
          cases hlc
          exact .inl ⟨stop, q _ m' H' (s1.trans s') w' ⟨Dl, rfl, hL, hP, rfl, acc, hacc, racc⟩ (fun p ep => by cases ep; exact s1.none hD)⟩
theorem je_dc {kx vx tg iter : Expr} {ifs : List Expr} {scope : Scope} {own : List (Str × Nat)} {pos : Pos} {it : AE → SS → RI} {is : List Nat} {g : D → AE → Option AE} {t : AE → SS → RB} {ek ev : AE → SS → R} (hc : X.calm = true) (hN : X.N.Nodup) (ji : JI X W tg iter it) (ok : BlkOk X.N X.env.scope scope own) (hin : ∀ i, i ∈ is → i ∈ own.map (·.2))
    (jg : Blk X scope fun Y => JG Y tg is g) (jt : Blk X scope fun Y => JTs Y W0 ifs t) (jk : Blk X scope fun Y => JE Y W0 kx ek) (je : Blk X scope fun Y => JE Y W0 vx ev) (hs : ∀ x, foldedSetIterable iter X.env x = pure x := by intro _; rfl) : JE X W (.DictComp kx vx [⟨tg, iter, ifs, 0⟩] scope pos) (eDc (own.map (·.2)) it g t ek ev) := fun ρ S =>
  PE.imp (pe_dc hc hN (ji ρ S) ok (fun s H C cl fp => pg_u (jg s H C cl fp)) (fun s H C cl fp => pts_u (jt s H C cl fp)) (fun s H C cl fp => pe_u (jk s H C cl fp)) (fun s H C cl fp => pe_u (je s H C cl fp)) hs) fun σ H Q q => dc_ok (iter := iter) (tg := tg) hin ρ S σ H Q q
/-- x = {k: v for ..}: the block's value goes to the name while the block still stands -/
theorem ps_setDc {i : Nat} {y : Str} {py : Pos} {kx vx tg iter : Expr} {ifs : List Expr} {sco : Scope} {own : List (Str × Nat)} {pos spos : Pos} {wi : TI} {g : TG} {tt : TT} {tk tv : TE} (cal : X.calm = true) (nd : X.N.Nodup) (hy : X.N[i]? = some y) (loc : X.env.scope.names.lookup y = some .local)
    (sw : swapsWith (.DictComp kx vx [⟨tg, iter, ifs, 0⟩] sco pos) (some (.Name y py)) spos.line X.env = pure true) (pi : PI X tg iter wi) (bok : BlkOk X.N X.env.scope sco own)
    (pg : Blk X sco fun Y => PG Y tg g) (pt : Blk X sco fun Y => PTs Y ifs tt) (pk : Blk X sco fun Y => PE Y kx tk) (pv : Blk X sco fun Y => PE Y vx tv) (fs : ∀ x, foldedSetIterable iter X.env x = pure x) :
    PS X (.Assign [.Name y py] (.DictComp kx vx [⟨tg, iter, ifs, 0⟩] sco pos) spos) (tAsg (tDc wi g tt tk tv (own.map (·.2))) (gName i)) := ⟨fun pins s σ H En I t => by
  rw [exec_Assign_Name_used _ _ _ _ sw]
  refine wpAny_bind (wpAny_standAt ?_); refine wpAny_bind ?_
  have t2 : tDc wi g tt tk tv (own.map (·.2)) σ H (fun u Hu => gName i u σ Hu En.nx) := t
  have core := dc_core (pos := pos) (use := some (assign (.Name y py) X.env)) (pos' := firstIterPos [⟨tg, iter, ifs, 0⟩] pos) (Qf := fun _ s' => SP X pins En .next s') cal nd I pi bok pg pt pk pv fs t2 fun D C s' m H' I' q ns fp => by
    obtain ⟨u0, u1, u2, u3, u4, u5⟩ := fp
    show wpAny _ _ (assign (.Name y py) X.env (.ref D)) _ _ _
    exact wpAny_assign_Name (store_ok2 (v := V.ref D) I' nd hy (.inl loc) rfl (fun s2 I2 ⟨a, sb, ha⟩ =>
      ⟨m, ns.sameBut sb (ha.elim (fun z => by rw [z]; exact u1) fun z e => u4 y a z e.symm), fun h3 sb3 =>
        ⟨_, H', I2.turned (t' := s2.toks) (fun b o hb e => (sb3.2 b hb).trans e) u0 u1 u3 u4 u5, q⟩⟩) (.inr loc))
  show wpAny _ X.A (do let _ ← comprehension (.DictComp kx vx [⟨tg, iter, ifs, 0⟩] sco pos) sco X.env (firstIterPos [⟨tg, iter, ifs, 0⟩] pos) newDict false (eval iter X.env) (some (assign (.Name y py) X.env))) _ _ s
  exact wpAny_bind (thn core fun _ s' hq => wpAny_pure (wpAny_pure hq))⟩
theorem sw_trueD {kx vx : Expr} {gs : List Comprehension} {sco : Scope} {pos py : Pos} {y : Str} {l : Nat} {env : Env} (kf : env.scope.kind = .function) (ly : env.scope.names.lookup y = some .local) (le : (py.line == pos.line) = true)
    (an : (sco.names.any fun (n, k) => n == y && (k == .local || k == .cell)) = false) : swapsWith (.DictComp kx vx gs sco pos) (some (.Name y py)) l env = pure true := by
  have k1 : env.kindOf y = some .local := ly
  have k2 : env.blockKind = .function := by (unfold Env.blockKind; rw [kf]); rfl
  unfold swapsWith
  simp only [k2, k1, an, le, Expr.pos]; rfl
theorem js_setDc {i : Nat} {y : Str} {py : Pos} {kx vx tg iter : Expr} {ifs : List Expr} {scope : Scope} {own : List (Str × Nat)} {pos spos : Pos} {it : AE → SS → RI} {is : List Nat} {g : D → AE → Option AE} {t : AE → SS → RB} {ek ev : AE → SS → R} (hc : X.calm = true) (hN : X.N.Nodup) (ji : JI X W tg iter it) (ok : BlkOk X.N X.env.scope scope own) (hin : ∀ i, i ∈ is → i ∈ own.map (·.2))
    (jg : Blk X scope fun Y => JG Y tg is g) (jt : Blk X scope fun Y => JTs Y W0 ifs t) (jk : Blk X scope fun Y => JE Y W0 kx ek) (je : Blk X scope fun Y => JE Y W0 vx ev)
    (hsw : swapsWith (.DictComp kx vx [⟨tg, iter, ifs, 0⟩] scope pos) (some (.Name y py)) spos.line X.env = pure true) (hy : X.N[i]? = some y := by rfl) (hyl : X.env.scope.names.lookup y = some .local := by rfl) (hs : ∀ x, foldedSetIterable iter X.env x = pure x := by intro _; rfl) :
    JS X W (.Assign [.Name y py] (.DictComp kx vx [⟨tg, iter, ifs, 0⟩] scope pos) spos) (sSet i (eDc (own.map (·.2)) it g t ek ev)) := fun ρ S =>
  PS.imp (ps_setDc hc hN hy hyl hsw (ji ρ S) ok (fun s H C cl fp => pg_u (jg s H C cl fp)) (fun s H C cl fp => pts_u (jt s H C cl fp)) (fun s H C cl fp => pe_u (jk s H C cl fp)) (fun s H C cl fp => pe_u (je s H C cl fp)) hs) fun D σ H ⟨m, w, en, q⟩ => dc_ok (iter := iter) (tg := tg) hin ρ S σ H _ ⟨m, w, en, R.toS_ok en q fun a S1 v m1 H1 s1 w1 a1 f1 q => by
    obtain ⟨P', g, s2, w2, a2⟩ := fz1_ok s1 w1 a1 f1
    exact q _ _ _ s2 w2 ((en.mono s2).set a2)⟩
/-- tuple(reversed(x)) -/
def gTupRev : D → Option RD
  | .lst ds => some (.dt (.tup ds.reverse))
  | _ => none
def rTR (K : PySem.W.Frag) : V → Hp → VK → Prop := fun v H1 Q => ∃ (a : Addr) (xs : List V), v = .ref a ∧ SqL K H1 a xs ∧ ∀ q, H1 q = none → Q (.ref q) (upd H1 q (.tup xs.reverse))
theorem uv_tr {K : PySem.W.Frag} : UnV K (rTR K) gTupRev := by
  intro P H x d z Q h g q
  cases d <;> try (cases g; done)
  obtain ⟨a, xs, rfl, h1, r1⟩ := h
  cases g
  exact ⟨a, xs, rfl, .of h1, fun p hp => q _ _ (new_tup hp r1.rev)⟩
theorem je_tupRev {e : Expr} {f : AE → SS → R} {p p2 pos pos2 : Pos} (hc : X.calm = true) (hm : X.mg "tuple" = none) (hm2 : X.mg "reversed" = none) (je : JE X W e f) (hg : Gl X "tuple" := by rfl) (hg2 : Gl X "reversed" := by rfl)
    (hs : starEach [e] X.env = (false, eval e X.env) :: starEach [] X.env := by rfl)
    (hs2 : starEach [.Call (.Name "reversed" p2) [e] [] pos2] X.env = (false, eval (.Call (.Name "reversed" p2) [e] [] pos2) X.env) :: starEach [] X.env := by rfl) :
    JE X W (.Call (.Name "tuple" p) [.Call (.Name "reversed" p2) [e] [] pos2] [] pos) (eUn gTupRev f) := fun ρ S =>
  PE.imp (RT.pe_tupRev hc hg hm hg2 hm2 (je ρ S) hs hs2) fun σ H Q q => un_of uv_tr ρ S σ H Q q
/-- x += n, x -= n -/
def hAdd : D → D → Option D
  | .int i, .int j => some (.int (i + j))
  | .str s, .str t => (match Nat.ble (s.length + t.length) line with
    | true => some (.str (s ++ t))
    | false => none)
  | _, _ => none
def hSub : D → D → Option D
  | .int i, .int j => some (.int (i - j))
  | _, _ => none
def ipAddA : TIp := fun x y H Q => ipI (fun i j => i + j) x y H Q ∨ ∃ i j, x = .str i ∧ y = .str j ∧ i.length + j.length ≤ sizeLine ∧ Q (.str (i ++ j)) H
theorem ip_addA : PIp X .Add ipAddA := by
  intro pins s σ H x y v u Q I r1 r2 h
  rcases h with h | h
  · exact ip_add pins s σ H x y v u Q I r1 r2 h
  · exact iop_add_str pins s σ H x y v u Q I r1 r2 h
theorem ip_subA : PIp X .Sub (ipI fun i j => i - j) := ip_sub
theorem iv_add {K : PySem.W.Frag} : IpV K ipAddA hAdd := by
  intro P H x y d e z Q hx hy g q
  cases d <;> cases e <;> try (cases g; done)
  · cases r_int (Rep.v hx); cases r_int hy; cases g
    exact .inl ⟨_, _, rfl, rfl, q _ (.int _)⟩
  · rename_i a b
    cases r_str (Rep.v hx); cases r_str hy
    dsimp only [hAdd] at g
    cases hb : Nat.ble (a.length + b.length) line with
    | false => rw [hb] at g; cases g
    | true =>
      rw [hb] at g
      cases g
      exact .inr ⟨_, _, rfl, rfl, by rw [sizeLine_eq]; exact ble_ok hb, q _ (.str _)⟩
theorem iv_sub {K : PySem.W.Frag} : IpV K (ipI fun i j => i - j) hSub := by
  intro P H x y d e z Q hx hy g q
  cases d <;> cases e <;> try (cases g; done)
  cases r_int (Rep.v hx); cases r_int hy; cases g
  exact ⟨_, _, rfl, rfl, q _ (.int _)⟩
end
end Ew

set_option Elab.async false
set_option linter.all false
set_option maxRecDepth 100000
set_option maxHeartbeats 8000000
namespace Ew
open PySem PySem.Spec PyProof.Rows L2
local macro_rules | `(tactic| nomatch "e", $ts,*) => `(tactic| simp only [R_bind_ok, R_bind_exc, R_bind_bad, R_toB_ok, R_toB_exc, R_toB_bad, R_toA_ok, R_toA_exc, R_toA_bad, RA_bind_ok, RA_bind_exc, RA_bind_bad, RA_toR_ok, RA_toR_exc, RA_toR_bad, RA_toI_ok, RA_toI_exc, RA_toI_bad, RB_toR_ok, RB_toR_exc, RB_toR_bad, RB_bind_ok, RB_bind_exc, RB_bind_bad, R_toI_ok, R_toI_exc, R_toI_bad, RO_toR_ok, RO_toR_exc, RO_toR_bad, R_toS_ok, R_toS_exc, R_toS_bad, RB_toS_ok, RB_toS_exc, RB_toS_bad, RI_toS_ok, RI_toS_exc, RI_toS_bad, sSeq_e, SR_seq_nx, SR_seq_rt, SR_seq_bk, SR_seq_ct, SR_seq_exc, SR_seq_bad, sNx_e, sBk_e, sCt_e, sBad_e, sRetN_e, sSet_e, sSetK_e, fz1_d, fz1_o, fz1_n, toD_l, toD_d, toD_f, live_l, live_d, sSetO_e, sSetOK_n, sSetOK_d, sSetOK_o, sDrop_e, sDropK_e, sRet_e, sRetK_e, sIf_e, sIfK_t, sIfK_f, sFor_e, sForK_e, turn_e, turnK_s, gN_e, gT_e, gT_l, gsCons_e, gsK_s, gsNil_e, sPut_e, sPutK1_e, sPutK2_e, sPutK3_e, sPutK4_e, apP_e, apPK_e, apPL_e, sUnp_e, sUnpK_e, sUnpL_e, unpV_d, sUnpM_e, sAug_e, sAugJ_e, sAugK_e, sAugL_e, sAugM_e, clB_0, clB_l, clB_d, clB_f, frz_d, frz_n, frz_o, frzK_e, frzs_nil, frzs_c, frzsK_e, frzsL_e, view_d, view_o, viewK_e, view_n, views_nil, views_c, viewsK_e, viewsL_e, eVar_e, eVarK_d, eVarK_o, eC_e, apR_d, apR_o, ap2_e, ap2V_e, eBin_e, eBinK_e, eBinL_e, tBin_e, tBinK_e, tBinL_e, bl2_e, bl2V_e, blR_e, eUn_e, un1_e, un1V_e, tVal_e, tru_e, truV_e, truW_e, truth_n, truth_b, truth_i, truth_t, truth_l, tNt_e, tNtK_e, tAn_e, tAnK_t, tAnK_f, tO_e, tOK_t, tOK_f, tY_e, eAnd_e, eAndK_t, eAndK_f, eOr_e, eOrK_f, eOrK_t, eNot_e, eNotK_e, eIf_e, eIfK_t, eIfK_f, aNil_e, aCons_e, aConsK_e, aConsL_e, eAp_e, ap_e, apV_e, g1_e, g2_e, eMt_e, eMtK_e, eMtV_e, eMtT_e, eMtL_e, apM_e, apMV_e, m1_e, m0_e, tyD_s, tyD_l, eMt0_e, eMt0K_e, eMt0V_e, eMt0T_e, eMu_e, eMuK_e, eMuV_e, eMuT_e, eMuL_e, tyO_l, tyO_d, apU_e, apUK_e, apUL_e, apUM_e, u1_e, u0_e, eMu0_e, eMu0K_e, eMu0V_e, eMu0T_e, eTup_e, eLst_e, mkT_e, mkL_e, mkTK_0, mkLK_0, mkTK_1, mkLK_1, mkTK_2, mkLK_2, mkTK_3, mkLK_3, mkTK_4, mkLK_4, mkTK_5, mkLK_5, mkTK_6, mkLK_6, mkTK_7, mkLK_7, mkTK_8, mkLK_8, oNone_e, oSome_e, oSomeK_e, eSl_e, eSlK_e, eSlL_e, eSlM_e, apS_e, apSV_e, iSeq_e, iSeqK_e, iSeqV_e, iSeqL_e, items_l, items_t, items_s, iRange_e, gAdd_ii, gSub_ii, gNeg_i, gAbs_i, gInt_i, gLt_ii, gLt_ss, gLe_ii, gLe_ss, gGt_ii, gGt_ss, gGe_ii, gGe_ss, gEq_ii, gNe_ii, gEq_ss, gNe_ss, gLen_l, gLen_t, gList_s, gList_l, gList_t, gTuple_l, gTuple_t, gIx_l, gIx_t, optD_e, atI_lit, gSet_l, gSetLK_e, List.getElem?_cons_zero, List.getElem?_cons_succ, List.getElem?_nil, List.set_cons_zero, List.set_cons_succ, List.length_cons, List.length_nil, List.map_cons, List.map_nil, List.cons_append, List.nil_append, Nat.zero_add, Nat.add_zero, Nat.reduceAdd, Nat.reduceSub, Nat.sub_self, Nat.reduceLT, Nat.reduceLeDiff, Int.reduceLT, Int.reduceLE, Int.reduceNeg, Int.reduceEq, decide_true, decide_false, ixN_lit, List.set_nil, List.replicate, Int.reduceAdd, Int.reduceSub, reduceCtorEq, Bool.not_true, Bool.not_false, List.take_succ_cons, List.take_zero, List.take_nil, retS, cutR, cutX, clB_ao, $[$ts:term],*])
local macro_rules | `(tactic| nomatch "e") => `(tactic| simp only [R_bind_ok, R_bind_exc, R_bind_bad, R_toB_ok, R_toB_exc, R_toB_bad, R_toA_ok, R_toA_exc, R_toA_bad, RA_bind_ok, RA_bind_exc, RA_bind_bad, RA_toR_ok, RA_toR_exc, RA_toR_bad, RA_toI_ok, RA_toI_exc, RA_toI_bad, RB_toR_ok, RB_toR_exc, RB_toR_bad, RB_bind_ok, RB_bind_exc, RB_bind_bad, R_toI_ok, R_toI_exc, R_toI_bad, RO_toR_ok, RO_toR_exc, RO_toR_bad, R_toS_ok, R_toS_exc, R_toS_bad, RB_toS_ok, RB_toS_exc, RB_toS_bad, RI_toS_ok, RI_toS_exc, RI_toS_bad, sSeq_e, SR_seq_nx, SR_seq_rt, SR_seq_bk, SR_seq_ct, SR_seq_exc, SR_seq_bad, sNx_e, sBk_e, sCt_e, sBad_e, sRetN_e, sSet_e, sSetK_e, fz1_d, fz1_o, fz1_n, toD_l, toD_d, toD_f, live_l, live_d, sSetO_e, sSetOK_n, sSetOK_d, sSetOK_o, sDrop_e, sDropK_e, sRet_e, sRetK_e, sIf_e, sIfK_t, sIfK_f, sFor_e, sForK_e, turn_e, turnK_s, gN_e, gT_e, gT_l, gsCons_e, gsK_s, gsNil_e, sPut_e, sPutK1_e, sPutK2_e, sPutK3_e, sPutK4_e, apP_e, apPK_e, apPL_e, sUnp_e, sUnpK_e, sUnpL_e, unpV_d, sUnpM_e, sAug_e, sAugJ_e, sAugK_e, sAugL_e, sAugM_e, clB_0, clB_l, clB_d, clB_f, frz_d, frz_n, frz_o, frzK_e, frzs_nil, frzs_c, frzsK_e, frzsL_e, view_d, view_o, viewK_e, view_n, views_nil, views_c, viewsK_e, viewsL_e, eVar_e, eVarK_d, eVarK_o, eC_e, apR_d, apR_o, ap2_e, ap2V_e, eBin_e, eBinK_e, eBinL_e, tBin_e, tBinK_e, tBinL_e, bl2_e, bl2V_e, blR_e, eUn_e, un1_e, un1V_e, tVal_e, tru_e, truV_e, truW_e, truth_n, truth_b, truth_i, truth_t, truth_l, tNt_e, tNtK_e, tAn_e, tAnK_t, tAnK_f, tO_e, tOK_t, tOK_f, tY_e, eAnd_e, eAndK_t, eAndK_f, eOr_e, eOrK_f, eOrK_t, eNot_e, eNotK_e, eIf_e, eIfK_t, eIfK_f, aNil_e, aCons_e, aConsK_e, aConsL_e, eAp_e, ap_e, apV_e, g1_e, g2_e, eMt_e, eMtK_e, eMtV_e, eMtT_e, eMtL_e, apM_e, apMV_e, m1_e, m0_e, tyD_s, tyD_l, eMt0_e, eMt0K_e, eMt0V_e, eMt0T_e, eMu_e, eMuK_e, eMuV_e, eMuT_e, eMuL_e, tyO_l, tyO_d, apU_e, apUK_e, apUL_e, apUM_e, u1_e, u0_e, eMu0_e, eMu0K_e, eMu0V_e, eMu0T_e, eTup_e, eLst_e, mkT_e, mkL_e, mkTK_0, mkLK_0, mkTK_1, mkLK_1, mkTK_2, mkLK_2, mkTK_3, mkLK_3, mkTK_4, mkLK_4, mkTK_5, mkLK_5, mkTK_6, mkLK_6, mkTK_7, mkLK_7, mkTK_8, mkLK_8, oNone_e, oSome_e, oSomeK_e, eSl_e, eSlK_e, eSlL_e, eSlM_e, apS_e, apSV_e, iSeq_e, iSeqK_e, iSeqV_e, iSeqL_e, items_l, items_t, items_s, iRange_e, gAdd_ii, gSub_ii, gNeg_i, gAbs_i, gInt_i, gLt_ii, gLt_ss, gLe_ii, gLe_ss, gGt_ii, gGt_ss, gGe_ii, gGe_ss, gEq_ii, gNe_ii, gEq_ss, gNe_ss, gLen_l, gLen_t, gList_s, gList_l, gList_t, gTuple_l, gTuple_t, gIx_l, gIx_t, optD_e, atI_lit, gSet_l, gSetLK_e, List.getElem?_cons_zero, List.getElem?_cons_succ, List.getElem?_nil, List.set_cons_zero, List.set_cons_succ, List.length_cons, List.length_nil, List.map_cons, List.map_nil, List.cons_append, List.nil_append, Nat.zero_add, Nat.add_zero, Nat.reduceAdd, Nat.reduceSub, Nat.sub_self, Nat.reduceLT, Nat.reduceLeDiff, Int.reduceLT, Int.reduceLE, Int.reduceNeg, Int.reduceEq, decide_true, decide_false, ixN_lit, List.set_nil, List.replicate, Int.reduceAdd, Int.reduceSub, reduceCtorEq, Bool.not_true, Bool.not_false, List.take_succ_cons, List.take_zero, List.take_nil, retS, cutR, cutX, clB_ao])

/-! ### images and values of forms -/
def b_law_var : AE → SS → SR :=
(sRet (eTup (aCons (eC (.int 0)) (aCons (eTup (aCons (eTup (aCons (eVar 0) (aCons (eC (.int 1)) aNil))) aNil)) aNil))))
def m_law_var : List AV → SS → R := runF 1 b_law_var
def b_image : AE → SS → SR :=
(sSeq (sSet 2 (eDc (([("name", 5), ("g", 7)] : List (Str × Nat)).map (·.2)) (iSeq (eVar 1)) (gT (gsCons (gN 5) (gsCons (gN 7) gsNil))) tY (eVar 5) (eVar 7)))
(sSeq (sSet 3 (eBin gIx (eVar 0) (eC (.int 0))))
(sSeq (sSetO 4 (eLst aNil))
(sSeq (sFor (iSeq (eBin gIx (eVar 0) (eC (.int 1)))) (gT (gsCons (gN 5) (gsCons (gN 6) gsNil)))
(sIf (tBin (gInX false) (eVar 5) (eVar 2)) (sSeq (sSet 7 (eBin gIx (eVar 2) (eVar 5)))
(sSeq (sAug 3 hAdd (eBin gMul (eVar 6) (eBin gIx (eVar 7) (eC (.int 0)))))
(sDrop (eMu "list" (u1 gExtend) (eVar 4) (aCons (eLc (([("other", 8), ("factor", 9)] : List (Str × Nat)).map (·.2)) (iSeq (eBin gIx (eVar 7) (eC (.int 1)))) (gT (gsCons (gN 8) (gsCons (gN 9) gsNil))) tY (eTup (aCons (eVar 8) (aCons (eBin gMul (eVar 6) (eVar 9)) aNil)))) aNil)))))
(sDrop (eMu "list" (u1 gAppend) (eVar 4) (aCons (eTup (aCons (eVar 5) (aCons (eVar 6) aNil))) aNil)))))
(sRet (eCall 2 m_form (aCons (eVar 3) (aCons (eVar 4) aNil))))))))
def m_image : List AV → SS → R := runF 10 b_image
def b_value : AE → SS → SR :=
(sSeq (sSet 2 (eDc (([("name", 3), ("number", 4)] : List (Str × Nat)).map (·.2)) (iSeq (eVar 1)) (gT (gsCons (gN 3) (gsCons (gN 4) gsNil))) tY (eVar 3) (eVar 4)))
(sRet (eBin gAdd (eBin gIx (eVar 0) (eC (.int 0))) (eAp (g1 gSum) (aCons (eLc (([("name", 3), ("coefficient", 5)] : List (Str × Nat)).map (·.2)) (iSeq (eBin gIx (eVar 0) (eC (.int 1)))) (gT (gsCons (gN 3) (gsCons (gN 5) gsNil))) tY (eBin gMul (eVar 5) (eBin gIx (eVar 2) (eVar 3)))) aNil)))))
def m_value : List AV → SS → R := runF 6 b_value
def b_law_at : AE → SS → SR :=
(sSeq (sSet 3 (eBin gMul (eVar 1) (eBin gIx (eVar 0) (eC (.int 0)))))
(sSeq (sFor (iSeq (eBin gIx (eVar 0) (eC (.int 1)))) (gT (gsCons (gN 4) (gsCons (gN 5) gsNil)))
(sSet 3 (eBin gAdd (eVar 3) (eBin gMul (eVar 5) (eBin gIx (eVar 2) (eVar 4))))))
(sRet (eVar 3))))
def m_law_at : List AV → SS → R := runF 6 b_law_at
def b_law_put : AE → SS → SR :=
(sSeq (sSetO 2 (eLst (aCons (eTup (aCons (eC (.int 1)) (aCons (eTup (aCons (eBin gIx (eVar 0) (eC (.int 0))) (aCons (eTup aNil) aNil))) aNil))) aNil)))
(sSeq (sFor (iSeq (eBin gIx (eVar 0) (eC (.int 1)))) (gT (gsCons (gN 3) (gsCons (gN 4) gsNil)))
(sDrop (eMu "list" (u1 gAppend) (eVar 2) (aCons (eTup (aCons (eVar 4) (aCons (eGet2 (eVar 1) (eVar 3) (eCall 1 m_law_var (aCons (eVar 3) aNil))) aNil))) aNil))))
(sRet (eCall 1 m_law_sum (aCons (eVar 2) aNil)))))
def m_law_put : List AV → SS → R := runF 5 b_law_put
/-! dicts by their lookups -/
theorem dget_app {es fs : List (Key × D)} {k : Key} : dget (es ++ fs) k = match dget es k with | some d => some d | none => dget fs k := by
  induction es with
  | nil => rfl
  | cons e es ih =>
    show (if e.1 = k then some e.2 else dget (es ++ fs) k) = (match (if e.1 = k then some e.2 else dget es k) with | some d => some d | none => dget fs k)
    by_cases h : e.1 = k
    · rw [if_pos h, if_pos h]
    · rw [if_neg h, if_neg h, ih]
theorem dget_any {es : List (Key × D)} {k : Key} : (es.any fun e => decide (e.1 = k)) = (dget es k).isSome := by
  induction es with
  | nil => rfl
  | cons e es ih =>
    show (decide (e.1 = k) || es.any _) = (if e.1 = k then some e.2 else dget es k).isSome
    rw [ih]
    by_cases h : e.1 = k
    · rw [if_pos h, decide_eq_true h]; rfl
    · rw [if_neg h, decide_eq_false h]; rfl
theorem dget_repl {es : List (Key × D)} {k k2 : Key} {d : D} : dget (es.map fun e => if e.1 = k then (e.1, d) else e) k2 = if k2 = k then (dget es k).map fun _ => d else dget es k2 := by
  induction es with
  | nil => by_cases h : k2 = k <;> simp [dget, h]
  | cons e es ih =>
    rw [List.map_cons]
    show (if (if e.1 = k then (e.1, d) else e).1 = k2 then some (if e.1 = k then (e.1, d) else e).2 else dget (es.map fun e => if e.1 = k then (e.1, d) else e) k2) = if k2 = k then (if e.1 = k then some e.2 else dget es k).map (fun _ => d) else (if e.1 = k2 then some e.2 else dget es k2)
    rw [ih]
    by_cases h : e.1 = k
    · rw [if_pos h, if_pos h]
      by_cases h2 : k2 = k
      · rw [if_pos (h.trans h2.symm), if_pos h2]; rfl
      · rw [if_neg (fun z : e.1 = k2 => h2 (z.symm.trans h)), if_neg h2, if_neg h2, if_neg (fun z : e.1 = k2 => h2 (z.symm.trans h))]
    · rw [if_neg h, if_neg h]
      by_cases h2 : k2 = k
      · rw [if_pos h2, if_pos h2, if_neg (fun z : e.1 = k2 => h (z.trans h2))]
      · rw [if_neg h2, if_neg h2]
theorem dget_dput {es : List (Key × D)} {k k2 : Key} {d : D} : dget (dput es k d) k2 = if k2 = k then some d else dget es k2 := by
  unfold dput
  rw [dget_any]
  split
  · rename_i h
    rw [dget_repl]
    by_cases h2 : k2 = k
    · rw [if_pos h2, if_pos h2]
      cases hg : dget es k with
      | none => rw [hg] at h; cases h
      | some _ => rfl
    · rw [if_neg h2, if_neg h2]
  · rename_i h
    rw [dget_app]
    by_cases h2 : k2 = k
    · subst h2
      cases hg : dget es k2 with
      | none => show (if k2 = k2 then some d else none) = _; rw [if_pos rfl]
      | some _ => rw [hg] at h; exact absurd rfl h
    · rw [if_neg h2]
      cases hg : dget es k2 with
      | none => show (if k = k2 then some d else none) = _; rw [if_neg (fun z => h2 z.symm)]
      | some _ => rfl
theorem dput_len {es : List (Key × D)} {k : Key} {d : D} : (dput es k d).length ≤ es.length + 1 := by
  unfold dput
  split
  · rw [List.length_map]; omega
  · rw [List.length_append]; exact Nat.le_refl _
/-- a dict filled from pairs -/
def fill (ps : List (Str × D)) (es : List (Key × D)) : List (Key × D) := ps.foldl (fun es p => dput es (.inr p.1) p.2) es
theorem fill_len (ps : List (Str × D)) : ∀ es, (fill ps es).length ≤ es.length + ps.length := by
  induction ps with
  | nil => intro es; exact Nat.le_refl _
  | cons p ps ih =>
    intro es
    have a := ih (dput es (.inr p.1) p.2)
    have b := dput_len (es := es) (k := .inr p.1) (d := p.2)
    show (fill ps (dput es (.inr p.1) p.2)).length ≤ _
    rw [List.length_cons]; omega
/-- the last pair of a name -/
def look : List (Str × D) → Str → Option D
  | [], _ => none
  | p :: ps, n => match look ps n with
    | some d => some d
    | none => if p.1 = n then some p.2 else none
theorem dget_fill (ps : List (Str × D)) : ∀ (es : List (Key × D)) (n : Str), dget (fill ps es) (.inr n) = match look ps n with | some d => some d | none => dget es (.inr n) := by
  induction ps with
  | nil => intro es n; rfl
  | cons p ps ih =>
    intro es n
    show dget (fill ps (dput es (.inr p.1) p.2)) (.inr n) = _
    rw [ih, dget_dput]
    show _ = match (match look ps n with | some d => some d | none => if p.1 = n then some p.2 else none) with | some d => some d | none => dget es (.inr n)
    cases look ps n with
    | some d => rfl
    | none =>
      dsimp only
      by_cases h : n = p.1
      · rw [if_pos (by rw [h]), if_pos h.symm]
      · rw [if_neg (fun z => h (Sum.inr.inj z)), if_neg (fun z => h z.symm)]
def pN (p : Str × D) : D := .tup [.str p.1, p.2]
theorem pN_e {p : Str × D} : pN p = .tup [.str p.1, p.2] := (rfl)
theorem dcF_fill {g : D → AE → Option AE} {ek ev : AE → SS → R} {ρ0 : AE} {S : SS} (r : Str × D → AE) : ∀ (ps : List (Str × D)) (es : List (Key × D)), es.length + ps.length ≤ 1000000 → (∀ p ∈ ps, g (pN p) ρ0 = some (r p)) → (∀ p ∈ ps, ek (r p) S = .ok (.dat (.str p.1)) S) → (∀ p ∈ ps, ev (r p) S = .ok (.dat p.2) S) →
    dcF g tY ek ev ρ0 (ps.map pN) es S = some (fill ps es, S)
  | [], es, _, _, _, _ => by rw [List.map_nil, dcF]; rfl
  | p :: ps, es, hl, hg, hk, hv => by
    rw [List.length_cons] at hl
    have b := dput_len (es := es) (k := .inr p.1) (d := p.2)
    have ih := dcF_fill (g := g) (ek := ek) (ev := ev) (ρ0 := ρ0) (S := S) r ps (dput es (.inr p.1) p.2) (by omega) (fun q h => hg q (List.mem_cons_of_mem _ h)) (fun q h => hk q (List.mem_cons_of_mem _ h)) (fun q h => hv q (List.mem_cons_of_mem _ h))
    rw [List.map_cons, dcF, hg p (List.mem_cons_self ..)]
    dsimp only [tY]
    rw [hk p (List.mem_cons_self ..)]
    dsimp only
    rw [keyD_s, blt_of (show es.length < line by show _ < 16777216; omega)]
    dsimp only
    rw [hv p (List.mem_cons_self ..)]
    dsimp only
    rw [frz_d]
    dsimp only
    exact ih
def eDcJ : Option (List (Key × D) × SS) → R := fun v => match v with
    | some (es, S2) => .ok (.new (.dct es)) S2
    | none => .bad
def eDcI (vs : List Nat) (g : D → AE → Option AE) (t : AE → SS → RB) (ek ev : AE → SS → R) (ρ : AE) : RI → R := fun r => match r with
  | .ok ds S1 => eDcJ (dcF g t ek ev (wipeA ρ vs) ds [] S1)
  | .exc x S1 => .exc x S1
  | .bad => .bad
theorem eDc_e {vs : List Nat} {it : AE → SS → RI} {g : D → AE → Option AE} {t : AE → SS → RB} {ek ev : AE → SS → R} {ρ : AE} {S : SS} : eDc vs it g t ek ev ρ S = eDcI vs g t ek ev ρ (it ρ S) := (rfl)
theorem eDcI_e {vs : List Nat} {g : D → AE → Option AE} {t : AE → SS → RB} {ek ev : AE → SS → R} {ρ : AE} {S : SS} {ds : List D} : eDcI vs g t ek ev ρ (.ok ds S) = eDcJ (dcF g t ek ev (wipeA ρ vs) ds [] S) := (rfl)
theorem eDcJ_e {es : List (Key × D)} {S : SS} : eDcJ (some (es, S)) = .ok (.new (.dct es)) S := (rfl)
theorem gIn_d {es : List (Key × D)} {n : Str} : gInX false (.str n) (.dct es) = some (.dt (.bl (dget es (.inr n)).isSome)) := (rfl)
/-- the linear sum of pairs -/
def ev (w : Str → Int) (ps : List (Str × Int)) : Int := (ps.map fun p => p.2 * w p.1).sum
theorem ev_app (w : Str → Int) (ps qs : List (Str × Int)) : ev w (ps ++ qs) = ev w ps + ev w qs := by
  unfold ev; rw [List.map_append, List.sum_append]
/-- value(f, pairs) -/
theorem value_ok {c : Int} {ps : List (Str × Int)} {pts : List (Str × Int)} {w : Str → Int} (hl : ps.length ≤ 1000000) (hp : pts.length ≤ 1000000) (hw : ∀ p ∈ ps, look (pts.map fun q => (q.1, D.int q.2)) p.1 = some (.int (w p.1)))
    (hb : ∀ p ∈ ps, p.2.natAbs < 10 ^ 200) (hb2 : ∀ p ∈ ps, (w p.1).natAbs < 10 ^ 200) : m_value [.dat (fD c ps), .dat (.tup (pts.map pD))] [] = .ok (.dat (.int (c + ev w ps))) [] := by
  unfold m_value b_value runF
  have hB : ∀ x : Nat, x < 10 ^ 200 → x < 10 ^ 1000 := fun x h => Nat.lt_of_lt_of_le h (Nat.pow_le_pow_right (by decide) (by decide))
  have em : pts.map pD = (pts.map fun q => (q.1, D.int q.2)).map pN := by rw [List.map_map]; rfl
  generalize hq : (pts.map fun q => (q.1, D.int q.2)) = qs at em hw
  have hql : qs.length = pts.length := by rw [← hq, List.length_map]
  rw [em]
  have dc := dcF_fill (g := gT (gsCons (gN 3) (gsCons (gN 4) gsNil))) (ek := eVar 3) (ev := eVar 4) (ρ0 := [some (.dat (fD c ps)), some (.dat (.tup (qs.map pN))), none, none, none, none]) (S := []) (fun p => [some (.dat (fD c ps)), some (.dat (.tup (qs.map pN))), none, some (.dat (.str p.1)), some (.dat p.2), none]) qs [] (by rw [hql]; show 0 + _ ≤ _; omega)
    (fun p _ => rfl) (fun p _ => by nomatch "e") (fun p _ => by nomatch "e")
  have lc := lcF_map (g := gT (gsCons (gN 3) (gsCons (gN 5) gsNil))) (e := eBin gMul (eVar 5) (eBin gIx (eVar 2) (eVar 3))) (ρ0 := [some (.dat (fD c ps)), some (.dat (.tup (qs.map pN))), some (.dat (.dct (fill qs []))), none, none, none]) (S := []) ps pD (fun p => .int (p.2 * w p.1)) (fun p => [some (.dat (fD c ps)), some (.dat (.tup (qs.map pN))), some (.dat (.dct (fill qs []))), some (.dat (.str p.1)), none, some (.dat (.int p.2))])
    (fun p _ => rfl) (fun p h => by
      have gx := gIx_d (es := fill qs []) (k := .str p.1) (d := .int (w p.1)) keyD_s (by rw [dget_fill, hw p h])
      have gm := gMul_n (hB _ (hb p h)) (hb2 p h)
      nomatch "e", gx, gm)
  have i1 : gIx (fD c ps) (.int 1) = some (.dt (.tup (ps.map pD))) := rfl
  have i0 : gIx (fD c ps) (.int 0) = some (.dt (.int c)) := rfl
  have gs : gSum (.lst (ps.map fun p => D.int (p.2 * w p.1))) = some (.dt (.int (ev w ps))) := by
    dsimp only [gSum]
    have z : intsD (ps.map fun p => D.int (p.2 * w p.1)) = some (ps.map fun p => p.2 * w p.1) := by
      clear lc i1 i0 hb hb2 hw hl dc
      induction ps with
      | nil => rfl
      | cons a as ih => rw [List.map_cons, List.map_cons, intsD, ih]
    rw [z]; rfl
  have hlen : (ps.map fun p => D.int (p.2 * w p.1)).length ≤ 16777216 := by rw [List.length_map]; omega
  nomatch "e", eDc_e, eDcI_e, eDcJ_e, dc, i1, i0, eLc_e, eLcI_e, wipeA_nil, wipeA_c, lc, eLcJ_e hlen, gs
/-- _law_at(f, den, table) -/
theorem at_ok {c : Int} {ps : List (Str × Int)} {es : List (Key × D)} {w : Str → Int} (hl : ps.length ≤ 1000000) (hw : ∀ p ∈ ps, dget es (.inr p.1) = some (.int (w p.1)))
    (hb : ∀ p ∈ ps, p.2.natAbs < 10 ^ 200) (hb2 : ∀ p ∈ ps, (w p.1).natAbs < 10 ^ 200) : m_law_at [.dat (fD c ps), .dat (.int 1), .own 0] [.dct es] = .ok (.dat (.int (c + ev w ps))) [.dct es] := by
  unfold m_law_at b_law_at runF
  have hB : ∀ x : Nat, x < 10 ^ 200 → x < 10 ^ 1000 := fun x h => Nat.lt_of_lt_of_le h (Nat.pow_le_pow_right (by decide) (by decide))
  obtain ⟨ρ', S', lp, x, y, rfl, rfl⟩ := forD_inv (body := turn (gT (gsCons (gN 4) (gsCons (gN 5) gsNil))) (sSet 3 (eBin gAdd (eVar 3) (eBin gMul (eVar 5) (eBin gIx (eVar 2) (eVar 4)))))) (ps.map pD)
    (fun k ρ S => ∃ x y, ρ = [some (.dat (fD c ps)), some (.dat (.int 1)), some (.own 0), some (.dat (.int (c + ev w (ps.take k)))), x, y] ∧ S = [.dct es]) [some (.dat (fD c ps)), some (.dat (.int 1)), some (.own 0), some (.dat (.int c)), none, none] [.dct es]
    ⟨none, none, by
      have z : ev w (ps.take 0) = 0 := rfl
      rw [z, Int.add_zero], rfl⟩ (by
    rintro k d ρ S hk ⟨x, y, rfl, rfl⟩
    rw [List.getElem?_map] at hk
    cases hp : ps[k]? with
    | none => rw [hp] at hk; cases hk
    | some p =>
    rw [hp] at hk
    cases hk
    have hm := List.mem_of_getElem? hp
    have ht : ps.take (k + 1) = ps.take k ++ [p] := by rw [List.take_add_one, hp]; rfl
    have gx := gIx_d (es := es) (k := .str p.1) (d := .int (w p.1)) keyD_s (hw p hm)
    have gm := gMul_n (hB _ (hb p hm)) (hb2 p hm)
    have e : c + ev w (ps.take (k + 1)) = c + ev w (ps.take k) + p.2 * w p.1 := by
      rw [ht, ev_app]
      have z : ev w [p] = p.2 * w p.1 := by show p.2 * w p.1 + 0 = _; omega
      rw [z]; omega
    refine ⟨_, _, .inl ?_, some (.dat (.str p.1)), some (.dat (.int p.2)), rfl, rfl⟩
    rw [e]
    nomatch "e", pD_e, gx, gm)
  rw [List.length_map, List.take_length] at lp
  have i1 : gIx (fD c ps) (.int 1) = some (.dt (.tup (ps.map pD))) := rfl
  have i0 : gIx (fD c ps) (.int 0) = some (.dt (.int c)) := rfl
  nomatch "e", i0, i1, gMul_c', Int.one_mul, lp
/-- the form that stands for a name -/
def frm (tb : List (Str × Int × List (Str × Int))) : Str → Int × List (Str × Int)
  | n => match tb with
    | [] => (0, [(n, 1)])
    | p :: tb => match look (tb.map fun q => (q.1, fD q.2.1 q.2.2)) n with
      | some _ => frm tb n
      | none => if p.1 = n then p.2 else (0, [(n, 1)])
def tbD (tb : List (Str × Int × List (Str × Int))) : List (Str × D) := tb.map fun q => (q.1, fD q.2.1 q.2.2)
theorem look_frm : ∀ {tb : List (Str × Int × List (Str × Int))} {n : Str}, match look (tbD tb) n with
    | some d => d = fD (frm tb n).1 (frm tb n).2
    | none => frm tb n = (0, [(n, 1)])
  | [], n => rfl
  | p :: tb, n => by
    have ih := look_frm (tb := tb) (n := n)
    have e1 : look (tbD (p :: tb)) n = match look (tbD tb) n with | some d => some d | none => if p.1 = n then some (fD p.2.1 p.2.2) else none := rfl
    have e2 : frm (p :: tb) n = match look (tbD tb) n with | some _ => frm tb n | none => if p.1 = n then p.2 else (0, [(n, 1)]) := by
      rw [frm]; rfl
    rw [e1, e2]
    cases h : look (tbD tb) n with
    | some d => rw [h] at ih; exact ih
    | none =>
      dsimp only
      by_cases hp : p.1 = n
      · rw [if_pos hp, if_pos hp]
      · rw [if_neg hp, if_neg hp]
def prt (tb : List (Str × Int × List (Str × Int))) (ps : List (Str × Int)) : List (Int × Int × List (Str × Int)) := ps.map fun p => (p.2, frm tb p.1)
theorem sc_app (a b : List (Int × Int × List (Str × Int))) : sc (a ++ b) = sc a + sc b := by
  unfold sc; rw [List.map_append, List.sum_append]
theorem sp_app (a b : List (Int × Int × List (Str × Int))) : sp (a ++ b) = sp a ++ sp b := by
  unfold sp; rw [List.flatMap_append]
theorem sp_one (q : Int × Int × List (Str × Int)) : sp [q] = q.2.2.map fun p => (p.1, q.1 * p.2) := by
  unfold sp; simp
theorem sc_one (q : Int × Int × List (Str × Int)) : sc [q] = q.1 * q.2.1 := by
  show q.1 * q.2.1 + 0 = _; omega
theorem gExtend_l {ds es : List D} (h : ds.length + es.length ≤ 16777216) : gExtend (.lst ds) (.lst es) = some (.lst (ds ++ es), .non) := by
  dsimp only [gExtend]
  rw [ble_of (show ds.length + es.length ≤ line from h)]
/-- image(f, pairs) -/
theorem image_okS {src : D} {tb : List (Str × Int × List (Str × Int))} {c : Int} {ps : List (Str × Int)} (htb : tb.length ≤ 1000000) (hl : (sp (prt tb ps)).length ≤ 1000000) (hk : (keysOf (sp (prt tb ps))).length < 64)
    (hb : ∀ p ∈ ps, p.2.natAbs < 10 ^ 200) (hg : ∀ n, (frm tb n).1.natAbs < 10 ^ 200 ∧ ∀ p ∈ (frm tb n).2, p.2.natAbs < 10 ^ 200)
    (hi : itemsD src = some ((tbD tb).map pN)) : m_image [.dat (fD c ps), .dat src] [] = .ok (.dat (fD (c + sc (prt tb ps)) (nf (sp (prt tb ps))))) [] := by
  unfold m_image b_image runF
  have hB : ∀ x : Nat, x < 10 ^ 200 → x < 10 ^ 1000 := fun x h => Nat.lt_of_lt_of_le h (Nat.pow_le_pow_right (by decide) (by decide))
  have hql : (tbD tb).length = tb.length := by unfold tbD; rw [List.length_map]
  have dc := dcF_fill (g := gT (gsCons (gN 5) (gsCons (gN 7) gsNil))) (ek := eVar 5) (ev := eVar 7) (ρ0 := [some (.dat (fD c ps)), some (.dat src), none, none, none, none, none, none, none, none]) (S := []) (fun p => [some (.dat (fD c ps)), some (.dat src), none, none, none, some (.dat (.str p.1)), none, some (.dat p.2), none, none]) (tbD tb) [] (by rw [hql]; show 0 + _ ≤ _; omega)
    (fun p _ => rfl) (fun p _ => by nomatch "e") (fun p _ => by nomatch "e")
  obtain ⟨ρ', S', lp, u, v, g, x, y, rfl, rfl⟩ := forD_inv (body := turn (gT (gsCons (gN 5) (gsCons (gN 6) gsNil)))
(sIf (tBin (gInX false) (eVar 5) (eVar 2)) (sSeq (sSet 7 (eBin gIx (eVar 2) (eVar 5)))
(sSeq (sAug 3 hAdd (eBin gMul (eVar 6) (eBin gIx (eVar 7) (eC (.int 0)))))
(sDrop (eMu "list" (u1 gExtend) (eVar 4) (aCons (eLc [8, 9] (iSeq (eBin gIx (eVar 7) (eC (.int 1)))) (gT (gsCons (gN 8) (gsCons (gN 9) gsNil))) tY (eTup (aCons (eVar 8) (aCons (eBin gMul (eVar 6) (eVar 9)) aNil)))) aNil)))))
(sDrop (eMu "list" (u1 gAppend) (eVar 4) (aCons (eTup (aCons (eVar 5) (aCons (eVar 6) aNil))) aNil))))) (ps.map pD)
    (fun k ρ S => ∃ u v g x y, ρ = [some (.dat (fD c ps)), some (.dat src), some (.dat (.dct (fill (tbD tb) []))), some (.dat (.int (c + sc (prt tb (ps.take k))))), some (.own 0), u, v, g, x, y] ∧ S = [.lst ((sp (prt tb (ps.take k))).map pD)])
    [some (.dat (fD c ps)), some (.dat src), some (.dat (.dct (fill (tbD tb) []))), some (.dat (.int c)), some (.own 0), none, none, none, none, none] [.lst []]
    ⟨none, none, none, none, none, by
      have z : sc (prt tb (ps.take 0)) = 0 := rfl
      rw [z, Int.add_zero], rfl⟩ (by
    rintro k d ρ S hkd ⟨u, v, g, x, y, rfl, rfl⟩
    rw [List.getElem?_map] at hkd
    cases hp : ps[k]? with
    | none => rw [hp] at hkd; cases hkd
    | some p =>
    rw [hp] at hkd
    cases hkd
    have hm := List.mem_of_getElem? hp
    have ht : prt tb (ps.take (k + 1)) = prt tb (ps.take k) ++ [(p.2, frm tb p.1)] := by
      unfold prt
      rw [List.take_add_one, hp, List.map_append]; rfl
    have hsp : sp (prt tb (ps.take (k + 1))) = sp (prt tb (ps.take k)) ++ (frm tb p.1).2.map fun q => (q.1, p.2 * q.2) := by rw [ht, sp_app, sp_one]
    have hsc : c + sc (prt tb (ps.take (k + 1))) = c + sc (prt tb (ps.take k)) + p.2 * (frm tb p.1).1 := by
      rw [ht, sc_app, sc_one]
      show c + (sc (prt tb (ps.take k)) + p.2 * (frm tb p.1).1) = _
      omega
    have hlen : (sp (prt tb (ps.take (k + 1)))).length ≤ 1000000 := by
      have e : sp (prt tb ps) = sp (prt tb (ps.take (k + 1))) ++ sp (prt tb (ps.drop (k + 1))) := by
        rw [← sp_app]
        unfold prt
        rw [← List.map_append, List.take_append_drop]
      rw [e, List.length_append] at hl
      omega
    rw [hsp, List.length_append, List.length_map] at hlen
    have lf := look_frm (tb := tb) (n := p.1)
    have hd := dget_fill (tbD tb) [] p.1
    cases hlk : look (tbD tb) p.1 with
    | some d =>
      rw [hlk] at lf hd
      have lf : d = fD (frm tb p.1).1 (frm tb p.1).2 := lf
      subst lf
      have hd : dget (fill (tbD tb) []) (.inr p.1) = some (fD (frm tb p.1).1 (frm tb p.1).2) := hd
      obtain ⟨b1, b2⟩ := hg p.1
      generalize frm tb p.1 = F at *
      have gi := gIn_d (es := fill (tbD tb) []) (n := p.1)
      rw [hd] at gi
      have gi : gInX false (.str p.1) (.dct (fill (tbD tb) [])) = some (.dt (.bl true)) := gi
      have gx := gIx_d (es := fill (tbD tb) []) (k := .str p.1) keyD_s hd
      have i1 : gIx (fD F.1 F.2) (.int 1) = some (.dt (.tup (F.2.map pD))) := rfl
      have i0 : gIx (fD F.1 F.2) (.int 0) = some (.dt (.int F.1)) := rfl
      have gm := gMul_n (hB _ (hb p hm)) b1
      have ha : hAdd (.int (c + sc (prt tb (ps.take k)))) (.int (p.2 * F.1)) = some (.int (c + sc (prt tb (ps.take k)) + p.2 * F.1)) := rfl
      rw [← hsc] at ha
      generalize c + sc (prt tb (ps.take k)) = C at *
      generalize c + sc (prt tb (ps.take (k + 1))) = C1 at *
      have lc := lcF_map (g := gT (gsCons (gN 8) (gsCons (gN 9) gsNil))) (e := eTup (aCons (eVar 8) (aCons (eBin gMul (eVar 6) (eVar 9)) aNil))) (ρ0 := [some (.dat (fD c ps)), some (.dat src), some (.dat (.dct (fill (tbD tb) []))), some (.dat (.int C1)), some (.own 0), some (.dat (.str p.1)), some (.dat (.int p.2)), some (.dat (fD F.1 F.2)), none, none]) (S := [.lst ((sp (prt tb (ps.take k))).map pD)]) F.2 pD (fun q => pD (q.1, p.2 * q.2))
        (fun q => [some (.dat (fD c ps)), some (.dat src), some (.dat (.dct (fill (tbD tb) []))), some (.dat (.int C1)), some (.own 0), some (.dat (.str p.1)), some (.dat (.int p.2)), some (.dat (fD F.1 F.2)), some (.dat (.str q.1)), some (.dat (.int q.2))])
        (fun q _ => rfl) (fun q hq => by
          have gm2 := gMul_n (hB _ (hb p hm)) (b2 q hq)
          nomatch "e", gm2, pD_e)
      have em : (F.2.map fun q => pD (q.1, p.2 * q.2)) = (F.2.map fun q => (q.1, p.2 * q.2)).map pD := by rw [List.map_map]; rfl
      rw [em] at lc
      have hl2 : ((F.2.map fun q => (q.1, p.2 * q.2)).map pD).length ≤ 16777216 := by rw [List.length_map, List.length_map]; omega
      have ge := gExtend_l (ds := (sp (prt tb (ps.take k))).map pD) (es := (F.2.map fun q => (q.1, p.2 * q.2)).map pD) (by rw [List.length_map, List.length_map, List.length_map]; omega)
      rw [← List.map_append, ← hsp] at ge
      refine ⟨_, _, .inl ?_, some (.dat (.str p.1)), some (.dat (.int p.2)), some (.dat (fD F.1 F.2)), x, y, rfl, rfl⟩
      nomatch "e", pD_e, gi, gx, i0, gm, ha, eLc_e, eLcI_e, wipeA_nil, wipeA_c, i1, lc, eLcJ_e hl2, ge
    | none =>
      rw [hlk] at lf hd
      have lf : frm tb p.1 = (0, [(p.1, 1)]) := lf
      have hd : dget (fill (tbD tb) []) (.inr p.1) = none := hd
      have gi := gIn_d (es := fill (tbD tb) []) (n := p.1)
      rw [hd] at gi
      have gi : gInX false (.str p.1) (.dct (fill (tbD tb) [])) = some (.dt (.bl false)) := gi
      rw [lf] at hsp hsc hlen
      have e0 : c + sc (prt tb (ps.take (k + 1))) = c + sc (prt tb (ps.take k)) := by rw [hsc]; show _ + p.2 * 0 = _; omega
      have e1 : sp (prt tb (ps.take (k + 1))) = sp (prt tb (ps.take k)) ++ [(p.1, p.2)] := by
        rw [hsp]
        show _ ++ [(p.1, p.2 * 1)] = _
        rw [Int.mul_one]
      have ga : gAppend (.lst ((sp (prt tb (ps.take k))).map pD)) (.tup [.str p.1, .int p.2]) = some (.lst ((sp (prt tb (ps.take (k + 1)))).map pD), .non) := by
        rw [gAppend_l (by rw [List.length_map]; show _ < 16777216; omega), e1, List.map_append]; rfl
      refine ⟨_, _, .inl ?_, some (.dat (.str p.1)), some (.dat (.int p.2)), g, x, y, rfl, rfl⟩
      rw [e0]
      generalize (sp (prt tb (ps.take (k + 1)))).map pD = W2 at *
      nomatch "e", pD_e, gi, ga)
  rw [List.length_map, List.take_length] at lp
  have fo := form_own (ps := sp (prt tb ps)) hl hk (c + sc (prt tb ps))
  have cf := fun (f : AE → SS → RA) (ρ : AE) (h : f ρ [.lst ((sp (prt tb ps)).map pD)] = .ok [.dat (.int (c + sc (prt tb ps))), .own 0] [.lst ((sp (prt tb ps)).map pD)]) => (eCall_e (n := 2) h rfl (callF_g (n := 0) rfl rfl rfl rfl rfl fo) : eCall 2 m_form f ρ [.lst ((sp (prt tb ps)).map pD)] = .ok (.dat (fD (c + sc (prt tb ps)) (nf (sp (prt tb ps))))) ([.lst ((sp (prt tb ps)).map pD)].set 0 (.fz (.lst ((sp (prt tb ps)).map pD)))))
  have i1 : gIx (fD c ps) (.int 1) = some (.dt (.tup (ps.map pD))) := rfl
  have i0 : gIx (fD c ps) (.int 0) = some (.dt (.int c)) := rfl
  nomatch "e", eDc_e, eDcI_e, eDcJ_e, wipeA_nil, wipeA_c, dc, i0, i1, lp, cf, hi
theorem image_ok {tb : List (Str × Int × List (Str × Int))} {c : Int} {ps : List (Str × Int)} (htb : tb.length ≤ 1000000) (hl : (sp (prt tb ps)).length ≤ 1000000) (hk : (keysOf (sp (prt tb ps))).length < 64)
    (hb : ∀ p ∈ ps, p.2.natAbs < 10 ^ 200) (hg : ∀ n, (frm tb n).1.natAbs < 10 ^ 200 ∧ ∀ p ∈ (frm tb n).2, p.2.natAbs < 10 ^ 200) :
    m_image [.dat (fD c ps), .dat (.tup ((tbD tb).map pN))] [] = .ok (.dat (fD (c + sc (prt tb ps)) (nf (sp (prt tb ps))))) [] := image_okS htb hl hk hb hg rfl
/-- _law_var(name) -/
theorem var_ok (n : Str) : m_law_var [.dat (.str n)] [] = .ok (.dat (fD 0 [(n, 1)])) [] := by
  unfold m_law_var b_law_var runF
  nomatch "e"
  rfl
theorem sum_own {qs : List (Int × Int × List (Str × Int))} (hl : (sp qs).length ≤ 1000000) (hk : (keysOf (sp qs)).length < 64)
    (hb : ∀ q ∈ qs, q.1.natAbs < 10 ^ 200 ∧ q.2.1.natAbs < 10 ^ 200 ∧ ∀ p ∈ q.2.2, p.2.natAbs < 10 ^ 200) : m_law_sum [.own 0] [.lst (qs.map partD)] = .ok (.dat (fD (sc qs) (nf (sp qs)))) [.fz (.lst (qs.map partD))] := by
  unfold m_law_sum b_law_sum runF
  have hB : ∀ x : Nat, x < 10 ^ 200 → x < 10 ^ 1000 := fun x h => Nat.lt_of_lt_of_le h (Nat.pow_le_pow_right (by decide) (by decide))
  obtain ⟨ρ', S', lp, a, b, x, y, rfl, rfl⟩ := forD_inv (body := turn (gT (gsCons (gN 3) (gsCons (gN 4) gsNil)))
(sSeq (sSet 1 (eBin gAdd (eVar 1) (eBin gMul (eVar 3) (eBin gIx (eVar 4) (eC (.int 0))))))
(sFor (iSeq (eBin gIx (eVar 4) (eC (.int 1)))) (gT (gsCons (gN 5) (gsCons (gN 6) gsNil)))
(sDrop (eMu "list" (u1 gAppend) (eVar 2) (aCons (eTup (aCons (eVar 5) (aCons (eBin gMul (eVar 3) (eVar 6)) aNil))) aNil)))))) (qs.map partD)
    (fun k ρ S => ∃ a b x y, ρ = [some (.own 0), some (.dat (.int (sc (qs.take k)))), some (.own 1), a, b, x, y] ∧ S = [.fz (.lst (qs.map partD)), .lst ((sp (qs.take k)).map pD)]) [some (.own 0), some (.dat (.int 0)), some (.own 1), none, none, none, none] [.fz (.lst (qs.map partD)), .lst []] ⟨none, none, none, none, rfl, rfl⟩ (by
    rintro k d ρ S hkd ⟨a, b, x, y, rfl, rfl⟩
    rw [List.getElem?_map] at hkd
    cases hq : qs[k]? with
    | none => rw [hq] at hkd; cases hkd
    | some q =>
    rw [hq] at hkd
    cases hkd
    have ht : qs.take (k + 1) = qs.take k ++ [q] := by rw [List.take_add_one, hq]; rfl
    obtain ⟨b1, b2, b3⟩ := hb q (List.mem_of_getElem? hq)
    have hsp : sp (qs.take (k + 1)) = sp (qs.take k) ++ q.2.2.map fun p => (p.1, q.1 * p.2) := by
      unfold sp
      rw [ht, List.flatMap_append]
      simp
    have hsc : sc (qs.take (k + 1)) = sc (qs.take k) + q.1 * q.2.1 := by
      unfold sc
      rw [ht, List.map_append, List.sum_append]
      simp
    have hlen : (sp (qs.take (k + 1))).length ≤ 1000000 := by
      have e : sp qs = sp (qs.take (k + 1)) ++ sp (qs.drop (k + 1)) := by
        unfold sp
        rw [← List.flatMap_append, List.take_append_drop]
      rw [e, List.length_append] at hl
      omega
    rw [hsp, List.length_append, List.length_map] at hlen
    have gm := gMul_n (hB _ b1) b2
    have i1 : gIx (fD q.2.1 q.2.2) (.int 1) = some (.dt (.tup (q.2.2.map pD))) := rfl
    have i0 : gIx (fD q.2.1 q.2.2) (.int 0) = some (.dt (.int q.2.1)) := rfl
    obtain ⟨ρ', S', lp, x2, y2, rfl, rfl⟩ := forD_inv (body := turn (gT (gsCons (gN 5) (gsCons (gN 6) gsNil)))
(sDrop (eMu "list" (u1 gAppend) (eVar 2) (aCons (eTup (aCons (eVar 5) (aCons (eBin gMul (eVar 3) (eVar 6)) aNil))) aNil)))) (q.2.2.map pD)
      (fun j ρ S => ∃ x y, ρ = [some (.own 0), some (.dat (.int (sc (qs.take (k + 1))))), some (.own 1), some (.dat (.int q.1)), some (.dat (fD q.2.1 q.2.2)), x, y] ∧ S = [.fz (.lst (qs.map partD)), .lst ((sp (qs.take k) ++ (q.2.2.take j).map fun p => (p.1, q.1 * p.2)).map pD)])
      [some (.own 0), some (.dat (.int (sc (qs.take (k + 1))))), some (.own 1), some (.dat (.int q.1)), some (.dat (fD q.2.1 q.2.2)), x, y] [.fz (.lst (qs.map partD)), .lst ((sp (qs.take k)).map pD)] ⟨x, y, rfl, by simp⟩ (by
      rintro j d ρ S hj ⟨x, y, rfl, rfl⟩
      rw [List.getElem?_map] at hj
      cases hp : q.2.2[j]? with
      | none => rw [hp] at hj; cases hj
      | some p =>
      rw [hp] at hj
      cases hj
      have ht2 : q.2.2.take (j + 1) = q.2.2.take j ++ [p] := by rw [List.take_add_one, hp]; rfl
      have gm2 := gMul_n (hB _ b1) (b3 p (List.mem_of_getElem? hp))
      have hjl := (List.getElem?_eq_some_iff.mp hp).1
      have ga : gAppend (.lst ((sp (qs.take k) ++ (q.2.2.take j).map fun p => (p.1, q.1 * p.2)).map pD)) (.tup [.str p.1, .int (q.1 * p.2)]) = some (.lst ((sp (qs.take k) ++ (q.2.2.take j).map fun p => (p.1, q.1 * p.2)).map pD ++ [.tup [.str p.1, .int (q.1 * p.2)]]), .non) := gAppend_l (by
        rw [List.length_map, List.length_append, List.length_map, List.length_take]
        show _ < 16777216
        omega)
      have e : (sp (qs.take k) ++ (q.2.2.take (j + 1)).map fun p => (p.1, q.1 * p.2)).map pD = (sp (qs.take k) ++ (q.2.2.take j).map fun p => (p.1, q.1 * p.2)).map pD ++ [pD (p.1, q.1 * p.2)] := by
        simp only [ht2, List.map_append, List.append_assoc]
        rfl
      refine ⟨_, _, .inl ?_, some (.dat (.str p.1)), some (.dat (.int p.2)), rfl, rfl⟩
      rw [e]
      generalize (sp (qs.take k) ++ (q.2.2.take j).map fun p => (p.1, q.1 * p.2)).map pD = W at ga
      nomatch "e", pD_e, gm2, ga)
    rw [List.length_map, List.take_length, ← hsp] at lp
    refine ⟨_, _, .inl ?_, some (.dat (.int q.1)), some (.dat (fD q.2.1 q.2.2)), x2, y2, rfl, rfl⟩
    simp only [R_bind_ok, R_bind_exc, R_bind_bad, R_toB_ok, R_toB_exc, R_toB_bad, R_toA_ok, R_toA_exc, R_toA_bad, RA_bind_ok, RA_bind_exc, RA_bind_bad, RA_toR_ok, RA_toR_exc, RA_toR_bad, RA_toI_ok, RA_toI_exc, RA_toI_bad, RB_toR_ok, RB_toR_exc, RB_toR_bad, RB_bind_ok, RB_bind_exc, RB_bind_bad, R_toI_ok, R_toI_exc, R_toI_bad, RO_toR_ok, RO_toR_exc, RO_toR_bad, R_toS_ok, R_toS_exc, R_toS_bad, RB_toS_ok, RB_toS_exc, RB_toS_bad, RI_toS_ok, RI_toS_exc, RI_toS_bad, sSeq_e, SR_seq_nx, SR_seq_rt, SR_seq_bk, SR_seq_ct, SR_seq_exc, SR_seq_bad, sNx_e, sBk_e, sCt_e, sBad_e, sRetN_e, sSet_e, sSetK_e, fz1_d, fz1_o, fz1_n, toD_l, toD_d, toD_f, live_l, live_d, sSetO_e, sSetOK_n, sSetOK_d, sSetOK_o, sDrop_e, sDropK_e, sRet_e, sRetK_e, sIf_e, sIfK_t, sIfK_f, sFor_e, sForK_e, turn_e, turnK_s, gN_e, gT_e, gT_l, gsCons_e, gsK_s, gsNil_e, sPut_e, sPutK1_e, sPutK2_e, sPutK3_e, sPutK4_e, apP_e, apPK_e, apPL_e, sUnp_e, sUnpK_e, sUnpL_e, unpV_d, sUnpM_e, sAug_e, sAugJ_e, sAugK_e, sAugL_e, sAugM_e, clB_0, clB_l, clB_d, clB_f, frz_d, frz_n, frz_o, frzK_e, frzs_nil, frzs_c, frzsK_e, frzsL_e, view_d, view_o, viewK_e, view_n, views_nil, views_c, viewsK_e, viewsL_e, eVar_e, eVarK_d, eVarK_o, eC_e, apR_d, apR_o, ap2_e, ap2V_e, eBin_e, eBinK_e, eBinL_e, tBin_e, tBinK_e, tBinL_e, bl2_e, bl2V_e, blR_e, eUn_e, un1_e, un1V_e, tVal_e, tru_e, truV_e, truW_e, truth_n, truth_b, truth_i, truth_t, truth_l, tNt_e, tNtK_e, tAn_e, tAnK_t, tAnK_f, tO_e, tOK_t, tOK_f, tY_e, eAnd_e, eAndK_t, eAndK_f, eOr_e, eOrK_f, eOrK_t, eNot_e, eNotK_e, eIf_e, eIfK_t, eIfK_f, aNil_e, aCons_e, aConsK_e, aConsL_e, eAp_e, ap_e, apV_e, g1_e, g2_e, eMt_e, eMtK_e, eMtV_e, eMtT_e, eMtL_e, apM_e, apMV_e, m1_e, m0_e, tyD_s, tyD_l, eMt0_e, eMt0K_e, eMt0V_e, eMt0T_e, eMu_e, eMuK_e, eMuV_e, eMuT_e, eMuL_e, tyO_l, tyO_d, apU_e, apUK_e, apUL_e, apUM_e, u1_e, u0_e, eMu0_e, eMu0K_e, eMu0V_e, eMu0T_e, eTup_e, eLst_e, mkT_e, mkL_e, mkTK_0, mkLK_0, mkTK_1, mkLK_1, mkTK_2, mkLK_2, mkTK_3, mkLK_3, mkTK_4, mkLK_4, mkTK_5, mkLK_5, mkTK_6, mkLK_6, mkTK_7, mkLK_7, mkTK_8, mkLK_8, oNone_e, oSome_e, oSomeK_e, eSl_e, eSlK_e, eSlL_e, eSlM_e, apS_e, apSV_e, iSeq_e, iSeqK_e, iSeqV_e, iSeqL_e, items_l, items_t, items_s, iRange_e, gAdd_ii, gSub_ii, gNeg_i, gAbs_i, gInt_i, gLt_ii, gLt_ss, gLe_ii, gLe_ss, gGt_ii, gGt_ss, gGe_ii, gGe_ss, gEq_ii, gNe_ii, gEq_ss, gNe_ss, gLen_l, gLen_t, gList_s, gList_l, gList_t, gTuple_l, gTuple_t, gIx_l, gIx_t, optD_e, atI_lit, gSet_l, gSetLK_e, List.getElem?_cons_zero, List.getElem?_cons_succ, List.getElem?_nil, List.set_cons_zero, List.set_cons_succ, List.length_cons, List.length_nil, List.map_cons, List.map_nil, List.cons_append, List.nil_append, Nat.zero_add, Nat.add_zero, Nat.reduceAdd, Nat.reduceSub, Nat.sub_self, Nat.reduceLT, Nat.reduceLeDiff, Int.reduceLT, Int.reduceLE, Int.reduceNeg, Int.reduceEq, decide_true, decide_false, ixN_lit, List.set_nil, List.replicate, Int.reduceAdd, Int.reduceSub, reduceCtorEq, Bool.not_true, Bool.not_false, List.take_succ_cons, List.take_zero, List.take_nil, retS, cutR, cutX, clB_ao, partD, i1, i0, gm, ← hsc, lp])
  rw [List.length_map, List.take_length] at lp
  have fo := form_own (ps := sp qs) hl hk (sc qs)
  have cf := fun (f : AE → SS → RA) (ρ : AE) (h : f ρ [.fz (.lst (qs.map partD)), .lst ((sp qs).map pD)] = .ok [.dat (.int (sc qs)), .own 1] [.fz (.lst (qs.map partD)), .lst ((sp qs).map pD)]) => (eCall_e (n := 2) h rfl (callF_g (n := 1) rfl rfl rfl rfl rfl fo) : eCall 2 m_form f ρ [.fz (.lst (qs.map partD)), .lst ((sp qs).map pD)] = .ok (.dat (fD (sc qs) (nf (sp qs)))) ([.fz (.lst (qs.map partD)), .lst ((sp qs).map pD)].set 1 (.fz (.lst ((sp qs).map pD)))))
  nomatch "e", lp, cf
/-- _law_put(f, table) -/
theorem put_ok {tb : List (Str × Int × List (Str × Int))} {c : Int} {ps : List (Str × Int)} (hp : ps.length ≤ 1000000) (hl : (sp (prt tb ps)).length ≤ 1000000) (hk : (keysOf (sp (prt tb ps))).length < 64)
    (hc : c.natAbs < 10 ^ 200) (hb : ∀ p ∈ ps, p.2.natAbs < 10 ^ 200) (hg : ∀ n, (frm tb n).1.natAbs < 10 ^ 200 ∧ ∀ p ∈ (frm tb n).2, p.2.natAbs < 10 ^ 200) :
    m_law_put [.dat (fD c ps), .own 0] [.dct (fill (tbD tb) [])] = .ok (.dat (fD (c + sc (prt tb ps)) (nf (sp (prt tb ps))))) [.dct (fill (tbD tb) [])] := by
  unfold m_law_put b_law_put runF
  obtain ⟨ρ', S', lp, x, y, rfl, rfl⟩ := forD_inv (body := turn (gT (gsCons (gN 3) (gsCons (gN 4) gsNil)))
(sDrop (eMu "list" (u1 gAppend) (eVar 2) (aCons (eTup (aCons (eVar 4) (aCons (eGet2 (eVar 1) (eVar 3) (eCall 1 m_law_var (aCons (eVar 3) aNil))) aNil))) aNil)))) (ps.map pD)
    (fun k ρ S => ∃ x y, ρ = [some (.dat (fD c ps)), some (.own 0), some (.own 1), x, y] ∧ S = [.dct (fill (tbD tb) []), .lst (partD (1, c, []) :: (prt tb (ps.take k)).map partD)])
    [some (.dat (fD c ps)), some (.own 0), some (.own 1), none, none] [.dct (fill (tbD tb) []), .lst [partD (1, c, [])]] ⟨none, none, rfl, rfl⟩ (by
    rintro k d ρ S hkd ⟨x, y, rfl, rfl⟩
    rw [List.getElem?_map] at hkd
    cases hpk : ps[k]? with
    | none => rw [hpk] at hkd; cases hkd
    | some p =>
    rw [hpk] at hkd
    cases hkd
    have hkl := (List.getElem?_eq_some_iff.mp hpk).1
    have ht : prt tb (ps.take (k + 1)) = prt tb (ps.take k) ++ [(p.2, frm tb p.1)] := by
      unfold prt
      rw [List.take_add_one, hpk, List.map_append]; rfl
    have lf := look_frm (tb := tb) (n := p.1)
    have hd := dget_fill (tbD tb) [] p.1
    have hgt : (dget (fill (tbD tb) []) (.inr p.1)).getD (fD 0 [(p.1, 1)]) = fD (frm tb p.1).1 (frm tb p.1).2 := by
      rw [hd]
      cases hlk : look (tbD tb) p.1 with
      | some d => rw [hlk] at lf; exact lf
      | none =>
        rw [hlk] at lf
        have lf : frm tb p.1 = (0, [(p.1, 1)]) := lf
        rw [lf]; rfl
    have ga : gAppend (.lst (partD (1, c, []) :: (prt tb (ps.take k)).map partD)) (.tup [.int p.2, fD (frm tb p.1).1 (frm tb p.1).2]) = some (.lst (partD (1, c, []) :: (prt tb (ps.take (k + 1))).map partD), .non) := by
      rw [gAppend_l (by
        have z : (prt tb (ps.take k)).length ≤ k := by unfold prt; rw [List.length_map, List.length_take]; omega
        rw [List.length_cons, List.length_map]; show _ < 16777216; omega), ht, List.map_append]
      rfl
    have vo := var_ok p.1
    have cv := fun (f : AE → SS → RA) (ρ : AE) (S : SS) => call_d1 (f := f) (ρ := ρ) (S := S) vo
    generalize partD (1, c, []) :: (prt tb (ps.take k)).map partD = W1 at *
    generalize partD (1, c, []) :: (prt tb (ps.take (k + 1))).map partD = W2 at *
    refine ⟨_, _, .inl ?_, some (.dat (.str p.1)), some (.dat (.int p.2)), rfl, rfl⟩
    nomatch "e", pD_e, cv, eGet2_e, eGetI_e, eGetJ_e, eGetK_e, eGetL_e, eGetM_e keyD_s, hgt, ga)
  rw [List.length_map, List.take_length] at lp
  have i1 : gIx (fD c ps) (.int 1) = some (.dt (.tup (ps.map pD))) := rfl
  have i0 : gIx (fD c ps) (.int 0) = some (.dt (.int c)) := rfl
  have es : sp ((1, c, []) :: prt tb ps) = sp (prt tb ps) := by
    show sp ([(1, c, [])] ++ prt tb ps) = _
    rw [sp_app, sp_one]; rfl
  have ec : sc ((1, c, []) :: prt tb ps) = c + sc (prt tb ps) := by
    show sc ([(1, c, [])] ++ prt tb ps) = _
    rw [sc_app, sc_one]
    show 1 * c + _ = _
    omega
  have su := sum_own (qs := (1, c, []) :: prt tb ps) (by rw [es]; exact hl) (by rw [es]; exact hk) (by
    intro q hq
    rcases List.mem_cons.mp hq with rfl | hq
    · exact ⟨by show (1 : Int).natAbs < 10 ^ 200; decide, hc, fun p h => by cases h⟩
    · obtain ⟨p, hp, rfl⟩ := List.mem_map.mp hq
      exact ⟨hb p hp, hg p.1⟩)
  rw [es, ec] at su
  have pe : partD (1, c, []) = .tup [.int 1, .tup [.int c, .tup []]] := rfl
  have su : m_law_sum [.own 0] [.lst (partD (1, c, []) :: (prt tb ps).map partD)] = .ok (.dat (fD (c + sc (prt tb ps)) (nf (sp (prt tb ps))))) [.fz (.lst (partD (1, c, []) :: (prt tb ps).map partD))] := su
  rw [pe] at su lp
  generalize D.tup [.int 1, .tup [.int c, .tup []]] :: (prt tb ps).map partD = W at *
  have cs := fun (f : AE → SS → RA) (ρ : AE) (h : f ρ [.dct (fill (tbD tb) []), .lst W] = .ok [.own 1] [.dct (fill (tbD tb) []), .lst W]) => (eCall_e (n := 1) h rfl (callF_g (n := 1) rfl rfl rfl rfl rfl su) : eCall 1 m_law_sum f ρ [.dct (fill (tbD tb) []), .lst W] = .ok (.dat (fD (c + sc (prt tb ps)) (nf (sp (prt tb ps))))) ([.dct (fill (tbD tb) []), .lst W].set 1 (.fz (.lst W))))
  nomatch "e", i0, i1, lp, cs
end Ew

set_option Elab.async false
set_option linter.all false
set_option maxRecDepth 100000
set_option maxHeartbeats 8000000
namespace Ew
open PySem PySem.Spec PyProof.Rows L2
local macro_rules | `(tactic| nomatch "e", $ts,*) => `(tactic| simp only [R_bind_ok, R_bind_exc, R_bind_bad, R_toB_ok, R_toB_exc, R_toB_bad, R_toA_ok, R_toA_exc, R_toA_bad, RA_bind_ok, RA_bind_exc, RA_bind_bad, RA_toR_ok, RA_toR_exc, RA_toR_bad, RA_toI_ok, RA_toI_exc, RA_toI_bad, RB_toR_ok, RB_toR_exc, RB_toR_bad, RB_bind_ok, RB_bind_exc, RB_bind_bad, R_toI_ok, R_toI_exc, R_toI_bad, RO_toR_ok, RO_toR_exc, RO_toR_bad, R_toS_ok, R_toS_exc, R_toS_bad, RB_toS_ok, RB_toS_exc, RB_toS_bad, RI_toS_ok, RI_toS_exc, RI_toS_bad, sSeq_e, SR_seq_nx, SR_seq_rt, SR_seq_bk, SR_seq_ct, SR_seq_exc, SR_seq_bad, sNx_e, sBk_e, sCt_e, sBad_e, sRetN_e, sSet_e, sSetK_e, fz1_d, fz1_o, fz1_n, toD_l, toD_d, toD_f, live_l, live_d, sSetO_e, sSetOK_n, sSetOK_d, sSetOK_o, sDrop_e, sDropK_e, sRet_e, sRetK_e, sIf_e, sIfK_t, sIfK_f, sFor_e, sForK_e, turn_e, turnK_s, gN_e, gT_e, gT_l, gsCons_e, gsK_s, gsNil_e, sPut_e, sPutK1_e, sPutK2_e, sPutK3_e, sPutK4_e, apP_e, apPK_e, apPL_e, sUnp_e, sUnpK_e, sUnpL_e, unpV_d, sUnpM_e, sAug_e, sAugJ_e, sAugK_e, sAugL_e, sAugM_e, clB_0, clB_l, clB_d, clB_f, frz_d, frz_n, frz_o, frzK_e, frzs_nil, frzs_c, frzsK_e, frzsL_e, view_d, view_o, viewK_e, view_n, views_nil, views_c, viewsK_e, viewsL_e, eVar_e, eVarK_d, eVarK_o, eC_e, apR_d, apR_o, ap2_e, ap2V_e, eBin_e, eBinK_e, eBinL_e, tBin_e, tBinK_e, tBinL_e, bl2_e, bl2V_e, blR_e, eUn_e, un1_e, un1V_e, tVal_e, tru_e, truV_e, truW_e, truth_n, truth_b, truth_i, truth_t, truth_l, tNt_e, tNtK_e, tAn_e, tAnK_t, tAnK_f, tO_e, tOK_t, tOK_f, tY_e, eAnd_e, eAndK_t, eAndK_f, eOr_e, eOrK_f, eOrK_t, eNot_e, eNotK_e, eIf_e, eIfK_t, eIfK_f, aNil_e, aCons_e, aConsK_e, aConsL_e, eAp_e, ap_e, apV_e, g1_e, g2_e, eMt_e, eMtK_e, eMtV_e, eMtT_e, eMtL_e, apM_e, apMV_e, m1_e, m0_e, tyD_s, tyD_l, eMt0_e, eMt0K_e, eMt0V_e, eMt0T_e, eMu_e, eMuK_e, eMuV_e, eMuT_e, eMuL_e, tyO_l, tyO_d, apU_e, apUK_e, apUL_e, apUM_e, u1_e, u0_e, eMu0_e, eMu0K_e, eMu0V_e, eMu0T_e, eTup_e, eLst_e, mkT_e, mkL_e, mkTK_0, mkLK_0, mkTK_1, mkLK_1, mkTK_2, mkLK_2, mkTK_3, mkLK_3, mkTK_4, mkLK_4, mkTK_5, mkLK_5, mkTK_6, mkLK_6, mkTK_7, mkLK_7, mkTK_8, mkLK_8, oNone_e, oSome_e, oSomeK_e, eSl_e, eSlK_e, eSlL_e, eSlM_e, apS_e, apSV_e, iSeq_e, iSeqK_e, iSeqV_e, iSeqL_e, items_l, items_t, items_s, iRange_e, gAdd_ii, gSub_ii, gNeg_i, gAbs_i, gInt_i, gLt_ii, gLt_ss, gLe_ii, gLe_ss, gGt_ii, gGt_ss, gGe_ii, gGe_ss, gEq_ii, gNe_ii, gEq_ss, gNe_ss, gLen_l, gLen_t, gList_s, gList_l, gList_t, gTuple_l, gTuple_t, gIx_l, gIx_t, optD_e, atI_lit, gSet_l, gSetLK_e, List.getElem?_cons_zero, List.getElem?_cons_succ, List.getElem?_nil, List.set_cons_zero, List.set_cons_succ, List.length_cons, List.length_nil, List.map_cons, List.map_nil, List.cons_append, List.nil_append, Nat.zero_add, Nat.add_zero, Nat.reduceAdd, Nat.reduceSub, Nat.sub_self, Nat.reduceLT, Nat.reduceLeDiff, Int.reduceLT, Int.reduceLE, Int.reduceNeg, Int.reduceEq, decide_true, decide_false, ixN_lit, List.set_nil, List.replicate, Int.reduceAdd, Int.reduceSub, reduceCtorEq, Bool.not_true, Bool.not_false, List.take_succ_cons, List.take_zero, List.take_nil, retS, cutR, cutX, clB_ao, $[$ts:term],*])
local macro_rules | `(tactic| nomatch "e") => `(tactic| simp only [R_bind_ok, R_bind_exc, R_bind_bad, R_toB_ok, R_toB_exc, R_toB_bad, R_toA_ok, R_toA_exc, R_toA_bad, RA_bind_ok, RA_bind_exc, RA_bind_bad, RA_toR_ok, RA_toR_exc, RA_toR_bad, RA_toI_ok, RA_toI_exc, RA_toI_bad, RB_toR_ok, RB_toR_exc, RB_toR_bad, RB_bind_ok, RB_bind_exc, RB_bind_bad, R_toI_ok, R_toI_exc, R_toI_bad, RO_toR_ok, RO_toR_exc, RO_toR_bad, R_toS_ok, R_toS_exc, R_toS_bad, RB_toS_ok, RB_toS_exc, RB_toS_bad, RI_toS_ok, RI_toS_exc, RI_toS_bad, sSeq_e, SR_seq_nx, SR_seq_rt, SR_seq_bk, SR_seq_ct, SR_seq_exc, SR_seq_bad, sNx_e, sBk_e, sCt_e, sBad_e, sRetN_e, sSet_e, sSetK_e, fz1_d, fz1_o, fz1_n, toD_l, toD_d, toD_f, live_l, live_d, sSetO_e, sSetOK_n, sSetOK_d, sSetOK_o, sDrop_e, sDropK_e, sRet_e, sRetK_e, sIf_e, sIfK_t, sIfK_f, sFor_e, sForK_e, turn_e, turnK_s, gN_e, gT_e, gT_l, gsCons_e, gsK_s, gsNil_e, sPut_e, sPutK1_e, sPutK2_e, sPutK3_e, sPutK4_e, apP_e, apPK_e, apPL_e, sUnp_e, sUnpK_e, sUnpL_e, unpV_d, sUnpM_e, sAug_e, sAugJ_e, sAugK_e, sAugL_e, sAugM_e, clB_0, clB_l, clB_d, clB_f, frz_d, frz_n, frz_o, frzK_e, frzs_nil, frzs_c, frzsK_e, frzsL_e, view_d, view_o, viewK_e, view_n, views_nil, views_c, viewsK_e, viewsL_e, eVar_e, eVarK_d, eVarK_o, eC_e, apR_d, apR_o, ap2_e, ap2V_e, eBin_e, eBinK_e, eBinL_e, tBin_e, tBinK_e, tBinL_e, bl2_e, bl2V_e, blR_e, eUn_e, un1_e, un1V_e, tVal_e, tru_e, truV_e, truW_e, truth_n, truth_b, truth_i, truth_t, truth_l, tNt_e, tNtK_e, tAn_e, tAnK_t, tAnK_f, tO_e, tOK_t, tOK_f, tY_e, eAnd_e, eAndK_t, eAndK_f, eOr_e, eOrK_f, eOrK_t, eNot_e, eNotK_e, eIf_e, eIfK_t, eIfK_f, aNil_e, aCons_e, aConsK_e, aConsL_e, eAp_e, ap_e, apV_e, g1_e, g2_e, eMt_e, eMtK_e, eMtV_e, eMtT_e, eMtL_e, apM_e, apMV_e, m1_e, m0_e, tyD_s, tyD_l, eMt0_e, eMt0K_e, eMt0V_e, eMt0T_e, eMu_e, eMuK_e, eMuV_e, eMuT_e, eMuL_e, tyO_l, tyO_d, apU_e, apUK_e, apUL_e, apUM_e, u1_e, u0_e, eMu0_e, eMu0K_e, eMu0V_e, eMu0T_e, eTup_e, eLst_e, mkT_e, mkL_e, mkTK_0, mkLK_0, mkTK_1, mkLK_1, mkTK_2, mkLK_2, mkTK_3, mkLK_3, mkTK_4, mkLK_4, mkTK_5, mkLK_5, mkTK_6, mkLK_6, mkTK_7, mkLK_7, mkTK_8, mkLK_8, oNone_e, oSome_e, oSomeK_e, eSl_e, eSlK_e, eSlL_e, eSlM_e, apS_e, apSV_e, iSeq_e, iSeqK_e, iSeqV_e, iSeqL_e, items_l, items_t, items_s, iRange_e, gAdd_ii, gSub_ii, gNeg_i, gAbs_i, gInt_i, gLt_ii, gLt_ss, gLe_ii, gLe_ss, gGt_ii, gGt_ss, gGe_ii, gGe_ss, gEq_ii, gNe_ii, gEq_ss, gNe_ss, gLen_l, gLen_t, gList_s, gList_l, gList_t, gTuple_l, gTuple_t, gIx_l, gIx_t, optD_e, atI_lit, gSet_l, gSetLK_e, List.getElem?_cons_zero, List.getElem?_cons_succ, List.getElem?_nil, List.set_cons_zero, List.set_cons_succ, List.length_cons, List.length_nil, List.map_cons, List.map_nil, List.cons_append, List.nil_append, Nat.zero_add, Nat.add_zero, Nat.reduceAdd, Nat.reduceSub, Nat.sub_self, Nat.reduceLT, Nat.reduceLeDiff, Int.reduceLT, Int.reduceLE, Int.reduceNeg, Int.reduceEq, decide_true, decide_false, ixN_lit, List.set_nil, List.replicate, Int.reduceAdd, Int.reduceSub, reduceCtorEq, Bool.not_true, Bool.not_false, List.take_succ_cons, List.take_zero, List.take_nil, retS, cutR, cutX, clB_ao])
open TL (numL)

/-! ### pools of names that are all different -/
theorem inF_strs {s : Str} {ns : List Str} : inF (.str s) (ns.map D.str) = decide (s ∈ ns) := by
  unfold inF inV
  rw [List.map_map, List.any_map]
  rw [Bool.eq_iff_iff, List.any_eq_true, decide_eq_true_eq]
  constructor
  · rintro ⟨x, hx, e⟩
    have e : (x == s) = true := e
    rw [← eq_of_beq e]; exact hx
  · intro h
    exact ⟨s, h, show (s == s) = true from beq_self_eq_true s⟩
theorem gNin_ex {s : Str} {ns : List Str} : gInX true (.str s) (.lst (ns.map D.str)) = some (.dt (.bl (!decide (s ∈ ns)))) := by
  dsimp only [gInX]
  rw [flat_strs, inF_strs]
  rfl
/-- a name of one to three signs -/
theorem name_ok5 (st : Sta) : ∃ (a : List Nat) (st' : Sta), m_law_name [.own 0] [st.ao] = .ok (.dat (tx a)) [st'.ao] ∧ a.length ≤ 3 ∧ 0 < a.length := by
  unfold m_law_name b_law_name runF
  have h1 : ("!\"#$&()*+,-./0123456789:;<=>?@ABCDEFGHIJKLMNOPQRSTUVWXYZ[\\]^_`" : Str) = t1 := rfl
  have h2 : ("abcdefghijklmnopqrstuvwxyz{|}~" : Str) = t2 := rfl
  have ga := gAdd_ss (s := t1) (t := t2) (by decide +kernel)
  have gl := gLen_s (s := t1 ++ t2) (by rw [t12_len]; decide)
  rw [t12_len] at gl
  have gl : gLen (.str (t1 ++ t2)) = some (.dt (.int 92)) := gl
  obtain ⟨v, st_v, e_v, h_v⟩ := e_drawN (f := aCons (eVar 0) (aCons (eC (.int 3)) aNil)) (ρ := [some (.own 0), some (.dat (.str (t1 ++ t2))), none]) (S := [st.ao]) (n := 0) (st := st) (k := 3) rfl (by decide) (by decide) (by nomatch "e")
  have rg := iRg_1 (j := 1 + (v : Nat)) (S := [st_v.ao]) (by omega) (by omega)
  have hn : (1 + ((v : Nat) : Int)).toNat = 1 + v := by omega
  rw [hn] at rg
  obtain ⟨xs, S', lc, cs, st2, rfl, hl, rfl⟩ := lcF_inv (g := gN 2) (t := tY) (e := eBin gIx (eVar 1) (eCall 2 m_law_draw (aCons (eVar 0) (aCons (eAp (g1 gLen) (aCons (eVar 1) aNil)) aNil)))) (ρ0 := [some (.own 0), some (.dat (.str (t1 ++ t2))), none])
    (rangeD 0 1 (1 + v)) (fun k xs S => ∃ (cs : List Nat) (st : Sta), xs = cs.map (fun c => tx [c]) ∧ cs.length = k ∧ S = [st.ao]) [] [st_v.ao] ⟨[], st_v, rfl, rfl, rfl⟩ (by
      rintro k d xs S hk ⟨cs, st, rfl, hl, rfl⟩
      obtain ⟨hk, rfl⟩ := rangeD_some hk
      refine ⟨_, rfl, .inr ?_⟩
      obtain ⟨u, st_u, e_u, h_u⟩ := e_drawN (f := aCons (eVar 0) (aCons (eAp (g1 gLen) (aCons (eVar 1) aNil)) aNil)) (ρ := [some (.own 0), some (.dat (.str (t1 ++ t2))), some (.dat (.int (0 + (k : Int) * 1)))]) (S := [st.ao]) (n := 0) (st := st) (k := 92) rfl (by decide) (by decide) (by nomatch "e", gl)
      obtain ⟨c, gx⟩ := gIx_sv (s := t1 ++ t2) (v := u) (by rw [t12_len]; omega) (by rw [t12_len]; decide)
      refine ⟨[st.ao], .dat (tx [c]), [st_u.ao], tx [c], [st_u.ao], rfl, ?_, rfl, cs ++ [c], st_u, by rw [List.map_append]; rfl, by rw [List.length_append, hl]; rfl, rfl⟩
      nomatch "e", e_u, gx)
  rw [rangeD_len] at hl
  have hcs : [] ++ cs.map (fun c => tx [c]) = (cs.map fun c => [c]).map tx := by rw [List.nil_append, List.map_map]; rfl
  have gj := gJoin_t (ss := cs.map fun c => [c]) (by rw [flat_tx]; omega)
  rw [flat_tx, ← hcs, List.nil_append] at gj
  refine ⟨cs, st2, ?_, by omega, by omega⟩
  have hlen : (cs.map fun c => tx [c]).length ≤ 16777216 := by rw [List.length_map]; omega
  nomatch "e", h1, h2, ga, e_v, rg, eLc_e, eLcI_e, wipeA_nil, wipeA_c, lc, eLcJ_e hlen, lit_nil, gj
theorem pool_ok5 (st : Sta) {m : Nat} (hm : m ≤ 10) : ∃ (ns : List Str) (st' : Sta), m_law_pool [.own 0, .dat (.int (m : Nat))] [st.ao] = .ok (.new (.lst (ns.map D.str))) [st'.ao] ∧ ns.length ≤ m ∧ (0 < m → 0 < ns.length) ∧ ns.Nodup ∧ ∀ s ∈ ns, 0 < s.length ∧ s.length ≤ 4 := by
  unfold m_law_pool b_law_pool runF
  obtain ⟨base, st1, e1, hb, hb1⟩ := name_ok5 st
  have c1 := fun (f : AE → SS → RA) (ρ : AE) => call_o1 (f := f) (ρ := ρ) (S := [st.ao]) (n := 0) e1
  have rg := iRg_1 (j := (m : Nat)) (S := [st1.ao, .lst []]) (by omega) (by omega)
  rw [Int.toNat_natCast] at rg
  obtain ⟨ρ', S', lp, st2, ns, x, y, rfl, rfl, hl, h0, hnd, hle⟩ := forD_inv (body := turn (gN 4) (sSeq (sSet 5 (eBin gIx (eLst (aCons (eBin gAdd (eVar 2) (eAp (g1 gStr) (aCons (eVar 4) aNil))) (aCons (eCall 1 m_law_name (aCons (eVar 0) aNil)) (aCons (eBin gAdd (eC (.str "@")) (eVar 2)) (aCons (eVar 2) aNil))))) (eCall 2 m_law_draw (aCons (eVar 0) (aCons (eC (.int 4)) aNil)))))
(sIf (tBin (gInX true) (eVar 5) (eVar 3)) (sDrop (eMu "list" (u1 gAppend) (eVar 3) (aCons (eVar 5) aNil)))
sNx))) (rangeD 0 1 m) (fun k ρ S => ∃ (st : Sta) (ns : List Str) (x y : Option AV), ρ = [some (.own 0), some (.dat (.int (m : Nat))), some (.dat (tx base)), some (.own 1), x, y] ∧ S = [st.ao, .lst (ns.map D.str)] ∧ ns.length ≤ k ∧ (0 < k → 0 < ns.length) ∧ ns.Nodup ∧ ∀ s ∈ ns, 0 < s.length ∧ s.length ≤ 4)
    [some (.own 0), some (.dat (.int (m : Nat))), some (.dat (tx base)), some (.own 1), none, none] [st1.ao, .lst []] ⟨st1, [], none, none, rfl, rfl, Nat.le_refl _, fun h => absurd h (Nat.lt_irrefl _), List.nodup_nil, fun s h => by cases h⟩ (by
    rintro k d ρ S hk ⟨st, ns, x, y, rfl, rfl, hl, _, hnd, hle⟩
    obtain ⟨hk, rfl⟩ := rangeD_some hk
    have e0 : (0 : Int) + (k : Int) * 1 = ((k : Nat) : Int) := by omega
    rw [e0]
    have gs := gStr_n (n := k) (Nat.lt_trans (show k < 1000 by omega) (by decide))
    have hkl : (numL k).length ≤ 1 := TL.numL_len (by decide) (by omega)
    have ga := gAdd_t (a := base) (b := numL k) (by omega)
    have l64 : (("@" : String) : Str) = SX.S [64] := rfl
    have ga2 := gAdd_t (a := [64]) (b := base) (by show 1 + _ ≤ _; omega)
    obtain ⟨nm, st2, e2, hnm, hnm1⟩ := name_ok5 st
    have c2 := fun (f : AE → SS → RA) (ρ : AE) => call_o1 (f := f) (ρ := ρ) (S := [st.ao, .lst (ns.map D.str)]) (n := 0) e2
    obtain ⟨v, st_v, e_v, h_v⟩ := e_drawN (f := aCons (eVar 0) (aCons (eC (.int 4)) aNil)) (ρ := [some (.own 0), some (.dat (.int (m : Nat))), some (.dat (tx base)), some (.own 1), some (.dat (.int (k : Nat))), y]) (S := [st2.ao, .lst (ns.map D.str)]) (n := 0) (st := st2) (k := 4) rfl (by decide) (by decide) (by nomatch "e")
    have l1 : (SX.S (base ++ numL k)).length = base.length + (numL k).length := by rw [SX.S_len, List.length_append]
    have l2 : (SX.S nm).length = nm.length := SX.S_len _
    have l3 : (SX.S (64 :: base)).length = base.length + 1 := by rw [SX.S_len]; rfl
    have l4 : (SX.S base).length = base.length := SX.S_len _
    have hx : ∃ s : Str, atI [tx (base ++ numL k), tx nm, tx (64 :: base), tx base] ((v : Nat) : Int) = some (.str s) ∧ 0 < s.length ∧ s.length ≤ 4 := by
      match v, h_v with
      | 0, _ => exact ⟨_, rfl, by rw [l1]; omega, by rw [l1]; omega⟩
      | 1, _ => exact ⟨_, rfl, by rw [l2]; omega, by rw [l2]; omega⟩
      | 2, _ => exact ⟨_, rfl, by rw [l3]; omega, by rw [l3]; omega⟩
      | 3, _ => exact ⟨_, rfl, by rw [l4]; omega, by rw [l4]; omega⟩
      | v + 4, h => omega
    obtain ⟨s, hx, hs1, hs2⟩ := hx
    have gi := gNin_ex (s := s) (ns := ns)
    have gp := gAppend_l (ds := ns.map D.str) (d := .str s) (by rw [List.length_map]; show _ < 16777216; omega)
    by_cases hin : s ∈ ns
    · refine ⟨_, _, .inl ?_, st_v, ns, some (.dat (.int (k : Nat))), some (.dat (.str s)), rfl, rfl, by omega, fun _ => List.length_pos_of_mem hin, hnd, hle⟩
      nomatch "e", gs, ga, l64, ga2, c2, e_v, hx, gi, hin
    · refine ⟨_, _, .inl ?_, st_v, ns ++ [s], some (.dat (.int (k : Nat))), some (.dat (.str s)), rfl, rfl, by rw [List.length_append]; show _ + 1 ≤ _; omega, fun _ => by rw [List.length_append]; show 0 < _ + 1; omega, ?_, fun t ht => ?_⟩
      · nomatch "e", gs, ga, l64, ga2, c2, e_v, hx, gi, hin, gp, List.map_append
      · rw [List.nodup_append]
        refine ⟨hnd, by simp, fun a ha b hb e => hin ?_⟩
        rw [← List.mem_singleton.mp hb, ← e]; exact ha
      · rcases List.mem_append.mp ht with ht | ht
        · exact hle t ht
        · rw [List.mem_singleton.mp ht]; exact ⟨hs1, hs2⟩)
  rw [rangeD_len] at hl h0
  refine ⟨ns, st2, ?_, hl, h0, hnd, hle⟩
  have hb : Nat.blt 1 1 = false := rfl
  nomatch "e", c1, rg, lp, hb
end Ew

set_option Elab.async false
set_option linter.all false
set_option maxRecDepth 100000
set_option maxHeartbeats 4000000
namespace Ew
open PySem PySem.Spec PyProof.Rows L2

/-! ### zip where each side is a list or a tuple (the flag: true for a list) -/
def Itr (b : Bool) (h : Heap) (it l : Addr) (i : Nat) : Prop := match b with
  | true => h.IsListIter it l i
  | false => h.IsTupleIter it l i
def Sqh (b : Bool) (h : Heap) (l : Addr) (xs : Array Value) : Prop := match b with
  | true => h.IsList l xs
  | false => h.IsTuple l xs
def itrN (b : Bool) : String := match b with | true => "list_iterator" | false => "tuple_iterator"
theorem Itr.ex {b : Bool} {h : Heap} {it l : Addr} {i : Nat} (x : Itr b h it l i) : ∃ o, h.get? it = some o ∧ o.data = .fields #[.ref l, .int i 0] := by
  cases b with
  | true => obtain ⟨o, a, _, c⟩ := x; exact ⟨o, a, c⟩
  | false => obtain ⟨o, a, _, c⟩ := x; exact ⟨o, a, c⟩
theorem Itr.at' {b : Bool} {h h' : Heap} {it l : Addr} {i : Nat} (x : Itr b h it l i) (e : ∀ o, h.get? it = some o → h'.get? it = some o) : Itr b h' it l i := by
  cases b with
  | true => exact Heap.IsListIter.at x e
  | false => exact Heap.IsTupleIter.at x e
theorem Itr.eb {b : Bool} {h h' : Heap} {it l c : Addr} {i : Nat} (x : Itr b h it l i) (e : Heap.ExtBut c h h') (n : it ≠ c) : Itr b h' it l i := x.at' fun o q => e it o n q
theorem Sqh.at' {b : Bool} {h h' : Heap} {l : Addr} {xs : Array Value} (x : Sqh b h l xs) (e : ∀ o, h.get? l = some o → h'.get? l = some o) : Sqh b h' l xs := by
  cases b with
  | true => exact Heap.IsList.at x e
  | false => exact Heap.IsTuple.at x e
theorem Sqh.eb {b : Bool} {h h' : Heap} {l c : Addr} {xs : Array Value} (x : Sqh b h l xs) (e : Heap.ExtBut c h h') (n : l ≠ c) : Sqh b h' l xs := x.at' fun o q => e l o n q
theorem Sqh.lt {b : Bool} {h : Heap} {l : Addr} {xs : Array Value} (x : Sqh b h l xs) : l < h.objs.size := by
  cases b with
  | true => obtain ⟨o, a, _⟩ := x; exact Heap.lt_size a
  | false => obtain ⟨o, a, _⟩ := x; exact Heap.lt_size a
section
variable {prog : Program} {w : World} {A : Around} {E : Value → Shared → Prop} {s : Shared}
theorem nx_item {b : Bool} {it l : Addr} {i : Nat} {items : Array Value} {x : Value} {Q : Value → Shared → Prop} (hit : Itr b s.heap it l i) (hl : Sqh b s.heap l items) (hx : items[i]? = some x)
    (hQ : ∀ h', Itr b h' it l (i + 1) → Heap.SameBut it s.heap h' → Q x { s with heap := h' }) : wpAny (model prog w) A (Builtin.SmallTypes.nextOf (.ref it)) Q E s := by
  cases b with
  | true => exact wpAny_nextOf_list_item hit hl hx hQ
  | false => exact RZ.nextOf_tuple_item hit hl hx hQ
theorem nx_end {b : Bool} {it l : Addr} {i : Nat} {items : Array Value} {Q : Value → Shared → Prop} (hh : A.handled = none) (hit : Itr b s.heap it l i) (hl : Sqh b s.heap l items) (hx : items[i]? = none)
    (hE : ∀ h' e, Heap.ExtBut it s.heap h' → (∃ o, h'.get? e = some o ∧ o.cls = .type "StopIteration") → E (.ref e) { s with heap := h' }) : wpAny (model prog w) A (Builtin.SmallTypes.nextOf (.ref it)) Q E s := by
  cases b with
  | true => exact wpAny_nextOf_list_end hh hit hl hx hE
  | false => exact RZ.nextOf_tuple_end hh hit hl hx hE
/-- what a zip object looks like between two turns -/
structure Zs (b1 b2 : Bool) (h : Heap) (z TI TO i1 i2 l1 l2 : Addr) (k : Nat) : Prop where
  hz : IsZip h z TI TO .none
  hTI : IsPair h TI (.ref i1) (.ref i2)
  hTO : ∃ a b, IsPair h TO a b
  h1 : Itr b1 h i1 l1 k
  h2 : Itr b2 h i2 l2 k
variable {b1 b2 : Bool} {z TI TO i1 i2 l1 l2 : Addr} {k : Nat} {xs ys : Array Value}
theorem zm_item {x y : Value} {Q : Value → Shared → Prop} (D : ZipApart z TI TO i1 i2 l1 l2) (Z : Zs b1 b2 s.heap z TI TO i1 i2 l1 l2 k) (hl1 : Sqh b1 s.heap l1 xs) (hl2 : Sqh b2 s.heap l2 ys) (hx : xs[k]? = some x) (hy : ys[k]? = some y)
    (hQ : ∀ h', IsZip h' z TI TO (rawInt s.heap.objs.size) → IsPair h' TO x y → Itr b1 h' i1 l1 (k + 1) → Itr b2 h' i2 l2 (k + 1) → IsPair h' s.heap.objs.size x y → h'.objs.size = s.heap.objs.size + 1 →
      (∀ c o, c ≠ z → c ≠ TO → c ≠ i1 → c ≠ i2 → s.heap.get? c = some o → h'.get? c = some o) → Q (.ref s.heap.objs.size) { s with heap := h' }) :
    wpAny (model prog w) A (Builtin.«zip.__next__» ⟨[.ref z], []⟩) (fun fin s' => ∃ v, fin = .done (.ret v) ∧ Q v s') E s := by
  obtain ⟨hz, hTI, ⟨a, b, hTO⟩, h1, h2⟩ := Z
  show wpAny _ _ (field (.ref z) 2 >>= _) _ _ _
  refine wpAny_bind (wpAny_field hz rfl (x := .bool false) rfl ?_)
  show wpAny _ _ (field (.ref z) 3 >>= _) _ _ _
  refine wpAny_bind (wpAny_field hz rfl (x := .ref TI) rfl ?_)
  refine wpAny_bind (wpAny_seqItems hTI rfl ?_)
  show wpAny _ _ (Builtin.SmallTypes.ownedTupleIsFree (.ref z) >>= _) _ _ _
  refine wpAny_bind ?_
  unfold Builtin.SmallTypes.ownedTupleIsFree
  refine wpAny_bind (wpAny_field hz rfl (x := .none) rfl (wpAny_pure ?_))
  simp only [if_true]
  refine wpAny_bind (wpAny_rule ?_)
  refine wpAny_bind (wpAny_field hz rfl (x := .ref TO) rfl ?_)
  refine wpAny_bind (wpAny_setField_rec hz (by simp) fun h₁ hz₁ hs₁ => ?_)
  replace hz₁ : IsZip h₁ z TI TO .ellipsis := hz₁
  refine wpAny_bind ?_
  simp only [List.zipIdx_cons, List.zipIdx_nil, List.forIn_cons, List.forIn_nil]
  refine wpAny_bind (wpAny_bind (wpAny_onRaise ?_))
  show wpAny _ _ (Builtin.SmallTypes.nextOf (.ref i1) >>= _) _ _ _
  refine wpAny_bind (nx_item (h1.eb hs₁.extBut D.i1z) (hl1.eb hs₁.extBut D.l1z) hx fun h₂ h1₂ hs₂ => wpAny_pure ?_)
  have hTO₂ : IsPair h₂ TO a b := hs₂.extBut _ _ D.TOi1 (hs₁.extBut _ _ D.TOz hTO)
  refine wpAny_bind (wpAny_seqItems hTO₂ rfl ?_)
  refine wpAny_bind (wpAny_updateSeq_pair hTO₂ fun h₃ hTO₃ hs₃ => ?_)
  replace hTO₃ : IsPair h₃ TO x b := hTO₃
  refine wpAny_bind (wpAny_letGo (wpAny_pure ?_))
  refine wpAny_bind (wpAny_bind (wpAny_onRaise ?_))
  show wpAny _ _ (Builtin.SmallTypes.nextOf (.ref i2) >>= _) _ _ _
  have q2 : Itr b2 h₃ i2 l2 k := ((h2.eb hs₁.extBut D.i2z).eb hs₂.extBut D.i12.symm).eb hs₃.extBut D.TOi2.symm
  have qy : Sqh b2 h₃ l2 ys := ((hl2.eb hs₁.extBut D.l2z).eb hs₂.extBut D.l2i1).eb hs₃.extBut D.l2TO
  refine wpAny_bind (nx_item q2 qy hy fun h₄ h2₄ hs₄ => wpAny_pure ?_)
  have hTO₄ : IsPair h₄ TO x b := hs₄.extBut _ _ D.TOi2 hTO₃
  refine wpAny_bind (wpAny_seqItems hTO₄ rfl ?_)
  refine wpAny_bind (wpAny_updateSeq_pair hTO₄ fun h₅ hTO₅ hs₅ => ?_)
  replace hTO₅ : IsPair h₅ TO x y := hTO₅
  refine wpAny_bind (wpAny_letGo (wpAny_pure (wpAny_pure ?_)))
  refine wpAny_bind (wpAny_seqItems hTO₅ rfl ?_)
  refine wpAny_bind (wpAny_newTuple ?_)
  have hsz : h₅.objs.size = s.heap.objs.size := by rw [hs₅.1, hs₄.1, hs₃.1, hs₂.1, hs₁.1]
  have hz₅ : IsZip h₅ z TI TO .ellipsis := hs₅.extBut _ _ D.TOz.symm (hs₄.extBut _ _ D.i2z.symm (hs₃.extBut _ _ D.TOz.symm (hs₂.extBut _ _ D.i1z.symm hz₁)))
  have hk₅ : ∀ c o, c ≠ z → c ≠ TO → c ≠ i1 → c ≠ i2 → s.heap.get? c = some o → h₅.get? c = some o := fun c o c1 c2 c3 c4 e =>
    hs₅.extBut _ _ c2 (hs₄.extBut _ _ c4 (hs₃.extBut _ _ c2 (hs₂.extBut _ _ c3 (hs₁.extBut _ _ c1 e))))
  have h1₅ : Itr b1 h₅ i1 l1 (k + 1) := ((h1₂.eb hs₃.extBut D.TOi1.symm).eb hs₄.extBut D.i12).eb hs₅.extBut D.TOi1.symm
  have h2₅ : Itr b2 h₅ i2 l2 (k + 1) := h2₄.eb hs₅.extBut D.TOi2.symm
  have hzlt : z < h₅.objs.size := Heap.lt_size hz₅
  show wpAny _ _ (Builtin.SmallTypes.ownedTupleHandOut (.ref z) (.ref h₅.objs.size) >>= _) _ _ _
  refine wpAny_bind ?_
  unfold Builtin.SmallTypes.ownedTupleHandOut
  have hz₆ : IsZip (h₅.push { cls := .type "tuple", data := .seq #[x, y] }) z TI TO .ellipsis := Heap.get?_push_of_some _ hz₅
  refine wpAny_bind (wpAny_setField_rec hz₆ (by simp) fun h₇ hz₇ hs₇ => ?_)
  replace hz₇ : IsZip h₇ z TI TO (rawInt h₅.objs.size) := hz₇
  refine wpAny_setField_rec hz₇ (by simp) fun h₈ hz₈ hs₈ => ?_
  replace hz₈ : IsZip h₈ z TI TO (rawInt h₅.objs.size) := hz₈
  have up : ∀ c o, c ≠ z → h₅.get? c = some o → h₈.get? c = some o := fun c o c1 e => hs₈.extBut _ _ c1 (hs₇.extBut _ _ c1 (Heap.get?_push_of_some _ e))
  have hT₈ : IsPair h₈ h₅.objs.size x y := hs₈.extBut _ _ (Nat.ne_of_gt hzlt) (hs₇.extBut _ _ (Nat.ne_of_gt hzlt) (Heap.get?_push_size _ rfl))
  have hz8 : h₈.objs.size = h₅.objs.size + 1 := by rw [hs₈.1, hs₇.1, Heap.size_push]
  rw [hsz] at hz₈ hT₈ hz8
  refine wpAny_pure ⟨_, rfl, ?_⟩
  show Q (.ref h₅.objs.size) _
  rw [hsz]
  exact hQ h₈ hz₈ (up _ _ D.TOz hTO₅) (h1₅.at' fun o e => up _ o D.i1z e) (h2₅.at' fun o e => up _ o D.i2z e) hT₈ hz8 fun c o c1 c2 c3 c4 e => up c o c1 (hk₅ c o c1 c2 c3 c4 e)
theorem zm_end {Q : Fin → Shared → Prop} (hh : A.handled = none) (D : ZipApart z TI TO i1 i2 l1 l2) (Z : Zs b1 b2 s.heap z TI TO i1 i2 l1 l2 k) (hl1 : Sqh b1 s.heap l1 xs) (hl2 : Sqh b2 s.heap l2 ys) (hend : xs[k]? = none ∨ ys[k]? = none)
    (hE : ∀ h' e, (∀ c o, c ≠ z → c ≠ TO → c ≠ i1 → c ≠ i2 → s.heap.get? c = some o → h'.get? c = some o) → (∃ o, h'.get? e = some o ∧ o.cls = .type "StopIteration") → E (.ref e) { s with heap := h' }) :
    wpAny (model prog w) A (Builtin.«zip.__next__» ⟨[.ref z], []⟩) Q E s := by
  obtain ⟨hz, hTI, ⟨a, b, hTO⟩, h1, h2⟩ := Z
  show wpAny _ _ (field (.ref z) 2 >>= _) _ _ _
  refine wpAny_bind (wpAny_field hz rfl (x := .bool false) rfl ?_)
  show wpAny _ _ (field (.ref z) 3 >>= _) _ _ _
  refine wpAny_bind (wpAny_field hz rfl (x := .ref TI) rfl ?_)
  refine wpAny_bind (wpAny_seqItems hTI rfl ?_)
  show wpAny _ _ (Builtin.SmallTypes.ownedTupleIsFree (.ref z) >>= _) _ _ _
  refine wpAny_bind ?_
  unfold Builtin.SmallTypes.ownedTupleIsFree
  refine wpAny_bind (wpAny_field hz rfl (x := .none) rfl (wpAny_pure ?_))
  simp only [if_true]
  refine wpAny_bind (wpAny_rule ?_)
  refine wpAny_bind (wpAny_field hz rfl (x := .ref TO) rfl ?_)
  refine wpAny_bind (wpAny_setField_rec hz (by simp) fun h₁ hz₁ hs₁ => ?_)
  replace hz₁ : IsZip h₁ z TI TO .ellipsis := hz₁
  refine wpAny_bind ?_
  simp only [List.zipIdx_cons, List.zipIdx_nil, List.forIn_cons, List.forIn_nil]
  refine wpAny_bind (wpAny_bind (wpAny_onRaise ?_))
  show wpAny _ _ (Builtin.SmallTypes.nextOf (.ref i1) >>= _) _ _ _
  have stop : ∀ {h e oe}, IsZip h z TI TO .ellipsis → h.get? e = some oe → oe.cls = .type "StopIteration" → e ≠ z := fun h1 h2 h3 x => by
    subst x; rw [h1] at h2; cases h2; simp at h3
  cases hx : xs[k]? with
  | none =>
    refine wpAny_bind (nx_end hh (h1.eb hs₁.extBut D.i1z) (hl1.eb hs₁.extBut D.l1z) hx fun h₂ e hs₂ he => ?_)
    obtain ⟨oe, hoe, hce⟩ := he
    have hz₂ : IsZip h₂ z TI TO .ellipsis := hs₂ _ _ D.i1z.symm hz₁
    refine wpAny_setField_rec hz₂ (by simp) fun h₃ _ hs₃ => hE h₃ e (fun c o c1 _ c3 _ x => hs₃.extBut _ _ c1 (hs₂ _ _ c3 (hs₁.extBut _ _ c1 x))) ⟨oe, hs₃.extBut _ _ (stop hz₂ hoe hce) hoe, hce⟩
  | some x =>
    have hy : ys[k]? = none := by rcases hend with h | h; rw [hx] at h; cases h; exact h
    refine wpAny_bind (nx_item (h1.eb hs₁.extBut D.i1z) (hl1.eb hs₁.extBut D.l1z) hx fun h₂ h1₂ hs₂ => wpAny_pure ?_)
    have hTO₂ : IsPair h₂ TO a b := hs₂.extBut _ _ D.TOi1 (hs₁.extBut _ _ D.TOz hTO)
    refine wpAny_bind (wpAny_seqItems hTO₂ rfl ?_)
    refine wpAny_bind (wpAny_updateSeq_pair hTO₂ fun h₃ hTO₃ hs₃ => ?_)
    refine wpAny_bind (wpAny_letGo (wpAny_pure ?_))
    refine wpAny_bind (wpAny_bind (wpAny_onRaise ?_))
    show wpAny _ _ (Builtin.SmallTypes.nextOf (.ref i2) >>= _) _ _ _
    have q2 : Itr b2 h₃ i2 l2 k := ((h2.eb hs₁.extBut D.i2z).eb hs₂.extBut D.i12.symm).eb hs₃.extBut D.TOi2.symm
    have qy : Sqh b2 h₃ l2 ys := ((hl2.eb hs₁.extBut D.l2z).eb hs₂.extBut D.l2i1).eb hs₃.extBut D.l2TO
    refine wpAny_bind (nx_end hh q2 qy hy fun h₄ e hs₄ he => ?_)
    obtain ⟨oe, hoe, hce⟩ := he
    have hz₄ : IsZip h₄ z TI TO .ellipsis := hs₄ _ _ D.i2z.symm (hs₃.extBut _ _ D.TOz.symm (hs₂.extBut _ _ D.i1z.symm hz₁))
    refine wpAny_setField_rec hz₄ (by simp) fun h₅ _ hs₅ => hE h₅ e (fun c o c1 c2 c3 c4 x => hs₅.extBut _ _ c1 (hs₄ _ _ c4 (hs₃.extBut _ _ c2 (hs₂.extBut _ _ c3 (hs₁.extBut _ _ c1 x))))) ⟨oe, hs₅.extBut _ _ (stop hz₄ hoe hce) hoe, hce⟩
theorem pyNext_zm_item {x y : Value} {Q : Option Value → Shared → Prop} (D : ZipApart z TI TO i1 i2 l1 l2) (Z : Zs b1 b2 s.heap z TI TO i1 i2 l1 l2 k) (hl1 : Sqh b1 s.heap l1 xs) (hl2 : Sqh b2 s.heap l2 ys) (hx : xs[k]? = some x) (hy : ys[k]? = some y)
    (hQ : ∀ h', IsZip h' z TI TO (rawInt s.heap.objs.size) → IsPair h' TO x y → Itr b1 h' i1 l1 (k + 1) → Itr b2 h' i2 l2 (k + 1) → IsPair h' s.heap.objs.size x y → h'.objs.size = s.heap.objs.size + 1 →
      (∀ c o, c ≠ z → c ≠ TO → c ≠ i1 → c ≠ i2 → s.heap.get? c = some o → h'.get? c = some o) → Q (some (.ref s.heap.objs.size)) { s with heap := h' }) :
    wpAny (model prog w) A (pyNext (.ref z)) Q E s := by
  have hT : s.TypeIs (.ref z) "zip" := ⟨_, Z.hz, rfl⟩
  unfold pyNext
  refine wpAny_bind (wpAny_attempt (wpAny_callSpecial?_slot (name := Str.ofString "__next__") hT F.slot_zip_next (wpAny_call_entry F.slot_zip_next hT F.entry_zip_next ?_ (F.args_zip_next_1 _))))
  exact zm_item D Z hl1 hl2 hx hy fun h' a1 a2 a3 a4 a5 a6 a7 => wpAny_pure (hQ h' a1 a2 a3 a4 a5 a6 a7)
theorem pyNext_zm_end {Q : Option Value → Shared → Prop} (hh : A.handled = none) (D : ZipApart z TI TO i1 i2 l1 l2) (Z : Zs b1 b2 s.heap z TI TO i1 i2 l1 l2 k) (hl1 : Sqh b1 s.heap l1 xs) (hl2 : Sqh b2 s.heap l2 ys) (hend : xs[k]? = none ∨ ys[k]? = none)
    (hQ : ∀ h', (∀ c o, c ≠ z → c ≠ TO → c ≠ i1 → c ≠ i2 → s.heap.get? c = some o → h'.get? c = some o) → Q none { s with heap := h' }) : wpAny (model prog w) A (pyNext (.ref z)) Q E s := by
  have hT : s.TypeIs (.ref z) "zip" := ⟨_, Z.hz, rfl⟩
  unfold pyNext
  refine wpAny_bind (wpAny_attempt (wpAny_callSpecial?_slot (name := Str.ofString "__next__") hT F.slot_zip_next
    (wpAny_call_entry F.slot_zip_next hT F.entry_zip_next (zm_end hh D Z hl1 hl2 hend fun h' e hk he => ?_) (F.args_zip_next_1 _))))
  obtain ⟨o, ho, hc⟩ := he
  refine wpAny_bind (wpAny_isInstance (T := "StopIteration") (b := true) ⟨o, ho, hc⟩ isSubtype_stop ?_)
  exact wpAny_pure (hQ _ hk)
/-! the new object -/
def zh1 (b : Bool) (h : Heap) (l : Addr) : Heap := h.push { cls := .type (itrN b), data := .fields #[.ref l, .int 0 0] }
theorem itr_new {b : Bool} {h : Heap} {l : Addr} : Itr b (zh1 b h l) h.objs.size l 0 := by
  cases b with
  | true => exact ⟨_, Heap.get?_push_size _ rfl, rfl, rfl⟩
  | false => exact ⟨_, Heap.get?_push_size _ rfl, rfl, rfl⟩
theorem iter_new {b : Bool} {l : Addr} {items : Array Value} {Q : Value → Shared → Prop} (hl : Sqh b s.heap l items) (hQ : Q (.ref s.heap.objs.size) { s with heap := zh1 b s.heap l }) : wpAny (model prog w) A (pyIter (.ref l)) Q E s := by
  cases b with
  | true => exact wpAny_pyIter_list hl hQ
  | false => exact wpAny_pyIter_tuple hl hQ
end
abbrev zH2 (b1 b2 : Bool) (h : Heap) (l1 l2 : Addr) : Heap := zh1 b2 (zh1 b1 h l1) l2
abbrev zH3 (b1 b2 : Bool) (h : Heap) (l1 l2 : Addr) : Heap := (zH2 b1 b2 h l1 l2).push { cls := .type "tuple", data := .seq #[.ref h.objs.size, .ref (zh1 b1 h l1).objs.size] }
abbrev zH4 (b1 b2 : Bool) (h : Heap) (l1 l2 : Addr) : Heap := (zH3 b1 b2 h l1 l2).push { cls := .type "tuple", data := .seq #[.none, .none] }
abbrev zH5 (b1 b2 : Bool) (h : Heap) (l1 l2 : Addr) : Heap := (zH4 b1 b2 h l1 l2).push { cls := .type "zip", data := .fields #[.none, .bool false, .bool false, .ref (zH2 b1 b2 h l1 l2).objs.size, .ref (zH3 b1 b2 h l1 l2).objs.size] }
theorem meets_zm (b1 b2 : Bool) (l1 l2 : Addr) (xs ys : Array Value) :
    Meets (Builtin.«zip.__new__» ⟨[.type "zip", .ref l1, .ref l2], []⟩) (fun _ R s => Sqh b1 s.heap l1 xs ∧ Sqh b2 s.heap l2 ys ∧
      R (.ok (.ret (.ref (zH4 b1 b2 s.heap l1 l2).objs.size))) { s with heap := zH5 b1 b2 s.heap l1 l2 }) :=
  .of_wp fun prog w A R s h => by
    obtain ⟨hp, g, d, tk, os⟩ := s; obtain ⟨hl1, hl2, h⟩ := h
    have hsub := sub_zip
    have hL1 : Sqh b1 (Shared.heap ⟨hp, g, d, tk, os⟩) l1 xs := hl1
    have hL2 : Sqh b2 (Shared.heap ⟨zh1 b1 hp l1, g, d, tk, os⟩) l2 ys := hl2.at' fun o q => Heap.get?_push_of_some _ q
    wp_walk using iter_new hL1, iter_new hL2
    exact ⟨_, rfl, h⟩
section
variable {prog : Program} {w : World} {A : Around} {E : Value → Shared → Prop} {s : Shared} {b1 b2 : Bool}
theorem call_zm {l1 l2 : Addr} {xs ys : Array Value} {Q : Value → Shared → Prop} (hl1 : Sqh b1 s.heap l1 xs) (hl2 : Sqh b2 s.heap l2 ys)
    (h : ∀ h', Zs b1 b2 h' (s.heap.objs.size + 4) (s.heap.objs.size + 2) (s.heap.objs.size + 3) s.heap.objs.size (s.heap.objs.size + 1) l1 l2 0 → (∀ c o, s.heap.get? c = some o → h'.get? c = some o) → Q (.ref (s.heap.objs.size + 4)) { s with heap := h' }) :
    wpAny (model prog w) A (call (.type "zip") [.ref l1, .ref l2]) Q E s := by
  refine callType_new F.called_zip (by decide) (F.typeCall_zip_2 _ _) (F.newCall_zip_2 _ _) (fun obj => F.args_object_init_3 obj _ _) F.entry_zip_new (meets_zm b1 b2 l1 l2 xs ys) ⟨hl1, hl2, ?_⟩
  have z1 : (zh1 b1 s.heap l1).objs.size = s.heap.objs.size + 1 := Heap.size_push ..
  have z2 : (zH2 b1 b2 s.heap l1 l2).objs.size = s.heap.objs.size + 2 := (Heap.size_push ..).trans (congrArg (· + 1) z1)
  have z3 : (zH3 b1 b2 s.heap l1 l2).objs.size = s.heap.objs.size + 3 := (Heap.size_push ..).trans (congrArg (· + 1) z2)
  have z4 : (zH4 b1 b2 s.heap l1 l2).objs.size = s.heap.objs.size + 4 := (Heap.size_push ..).trans (congrArg (· + 1) z3)
  have p : ∀ {h : Heap} {o : Obj} {c : Addr} {q : Obj}, h.get? c = some q → (h.push o).get? c = some q := fun e => Heap.get?_push_of_some _ e
  have g5 : (zH5 b1 b2 s.heap l1 l2).get? (zH4 b1 b2 s.heap l1 l2).objs.size = some _ := Heap.get?_push_size _ rfl
  have g4 : (zH5 b1 b2 s.heap l1 l2).get? (zH3 b1 b2 s.heap l1 l2).objs.size = some _ := p (Heap.get?_push_size _ rfl)
  have g3 : (zH5 b1 b2 s.heap l1 l2).get? (zH2 b1 b2 s.heap l1 l2).objs.size = some _ := p (p (Heap.get?_push_size _ rfl))
  have g2 : Itr b2 (zH5 b1 b2 s.heap l1 l2) (zh1 b1 s.heap l1).objs.size l2 0 := (itr_new (b := b2) (h := zh1 b1 s.heap l1) (l := l2)).at' fun o q => p (p (p q))
  have g1 : Itr b1 (zH5 b1 b2 s.heap l1 l2) s.heap.objs.size l1 0 := (itr_new (b := b1) (h := s.heap) (l := l1)).at' fun o q => p (p (p (p q)))
  show _ ∧ _
  rw [z2, z3, z4] at g5
  rw [z1, z2] at g3
  rw [z3] at g4
  rw [z1] at g2
  rw [z4]
  exact ⟨⟨_, g5, rfl⟩, h _ ⟨g5, g3, ⟨_, _, g4⟩, g1, g2⟩ fun c o x => p (p (p (p (p x))))⟩
end

/-- the list or tuple that the tracked heap holds at a -/
def Sqv (b : Bool) (K : PySem.W.Frag) (H : Hp) (a : Addr) (xs : List V) : Prop := match b with
  | true => SqL K H a xs
  | false => SqT K H a xs
theorem Sqv.is {b : Bool} {X : Cx} {pins : List (Addr × Obj)} {σ : L2.St} {H : Hp} {s : Shared} {a : Addr} {xs : List V} (I : Inv X pins σ H s) (h : Sqv b X.K H a xs) : ∃ its : List Value, Vals xs its ∧ Sqh b s.heap a its.toArray := by
  cases b with
  | true => obtain ⟨its, rv, p, _⟩ := I.list h; exact ⟨its, rv, p.isList⟩
  | false => obtain ⟨its, rv, p, _⟩ := I.tuple h; exact ⟨its, rv, p⟩
theorem Sqv.inj {b : Bool} {X : Cx} {pins : List (Addr × Obj)} {σ : L2.St} {H : Hp} {s : Shared} {a : Addr} {xs ys : List V} (I : Inv X pins σ H s) (h : Sqv b X.K H a xs) (h' : Sqv b X.K H a ys) : xs = ys := by
  cases b with
  | true => exact I.list_inj h h'
  | false => exact I.tuple_inj h h'
/-- the lists or tuples at a and b, the items in new pairs -/
def Itm (b1 b2 : Bool) (K : PySem.W.Frag) (a b : Addr) : It :=
  ⟨fun i H => ∃ (xs ys : List V) (x y : V), Sqv b1 K H a xs ∧ Sqv b2 K H b ys ∧ xs[i]? = some x ∧ ys[i]? = some y,
    fun i H v H' => ∃ T x y, v = .ref T ∧ H T = none ∧ H' = upd H T (.tup [x, y]) ∧ (∀ xs, Sqv b1 K H a xs → xs[i]? = some x) ∧ ∀ ys, Sqv b2 K H b ys → ys[i]? = some y,
    fun i H => ∃ xs ys : List V, Sqv b1 K H a xs ∧ Sqv b2 K H b ys ∧ (xs.length ≤ i ∨ ys.length ≤ i)⟩
theorem turn_zm {P : Program} {w : World} {K : PySem.W.Frag} {b1 b2 : Bool} {elts : List Expr} {kk : Nat} {tpos : Pos} {a b z TI TO i1 i2 : Addr} (D : ZipApart z TI TO i1 i2 a b) :
    Turn P w K (.Tuple elts kk tpos) (Itm b1 b2 K a b) [z, TI, TO, i1, i2] z (fun i h => Zs b1 b2 h z TI TO i1 i2 a b i) where
  mem := by simp
  obj := fun i h st c hc => by
    obtain ⟨hz, hTI, ⟨x, y, hTO⟩, h1, h2⟩ := st
    obtain ⟨o1, e1, d1⟩ := h1.ex
    obtain ⟨o2, e2, d2⟩ := h2.ex
    have e' : c = z ∨ c = TI ∨ c = TO ∨ c = i1 ∨ c = i2 := by simpa using hc
    rcases e' with q | q | q | q | q
    · rw [q]; exact ⟨_, hz, fun v q => nomatch q⟩
    · rw [q]; exact ⟨_, hTI, fun v q => nomatch q⟩
    · rw [q]; exact ⟨_, hTO, fun v q => nomatch q⟩
    · rw [q]; exact ⟨o1, e1, fun v q => by rw [d1] at q; cases q⟩
    · rw [q]; exact ⟨o2, e2, fun v q => by rw [d2] at q; cases q⟩
  keep := fun i h h' st k => by
    obtain ⟨hz, hTI, ⟨x, y, hTO⟩, h1, h2⟩ := st
    exact ⟨k z (by simp) _ hz, k TI (by simp) _ hTI, ⟨x, y, k TO (by simp) _ hTO⟩, h1.at' fun o q => k i1 (by simp) o q, h2.at' fun o q => k i2 (by simp) o q⟩
  item := by
    intro X hP hw hK hc i pins s σ H E I hf st hg
    subst hP hw hK
    obtain ⟨xs, ys, x, y, hqx, hqy, hx, hy⟩ := hg
    obtain ⟨its, rv, p⟩ := hqx.is I
    obtain ⟨its2, rv2, p2⟩ := hqy.is I
    obtain ⟨u, hu, ru⟩ := rv.get hx
    obtain ⟨u2, hu2, ru2⟩ := rv2.get hy
    have hzl : z < s.heap.objs.size := Heap.lt_size st.hz
    refine pyNext_zm_item D st p p2 (x := u) (y := u2) (by simpa using hu) (by simpa using hu2) fun h' z' TO' h1' h2' hT hsz hk => ?_
    refine ⟨_, rfl, wpAny_letOwnedTupleGo_zip (s := { s with heap := h' }) z' fun h'' z'' sb => ?_⟩
    have hT2 : h''.get? s.heap.objs.size = some { cls := .type "tuple", data := .seq #[u, u2] } := (sb.2 _ (Nat.ne_of_gt hzl)).trans hT
    have new : ObjOk X.prog X.w (upd H s.heap.objs.size (.tup [x, y])) h'' s.heap.objs.size (.tup [x, y]) :=
      ⟨by show 2 ≤ sizeLine; decide, [u, u2], .cons ru (.cons ru2 .nil), ⟨_, hT2, rfl, _, rfl⟩⟩
    have out : ∀ c o, c ∉ [z, TI, TO, i1, i2] → s.heap.get? c = some o → h''.get? c = some o := fun c o hb q =>
      (sb.2 c (fun q' => hb (by simp [q']))).trans (hk c o (fun q' => hb (by simp [q'])) (fun q' => hb (by simp [q'])) (fun q' => hb (by simp [q'])) (fun q' => hb (by simp [q'])) q)
    have I1 : Inv X pins σ (upd H s.heap.objs.size (.tup [x, y])) { s with heap := h'' } := I.turnedNew (t' := s.toks) (ch := [z, TI, TO, i1, i2]) out hf (Nat.le_refl _) new
    have fresh : ∀ c, c ∈ [z, TI, TO, i1, i2] → c < s.heap.objs.size := fun c hcm => by
      have e' : c = z ∨ c = TI ∨ c = TO ∨ c = i1 ∨ c = i2 := by simpa using hcm
      obtain ⟨hz, hTI, ⟨_, _, hTO⟩, h1, h2⟩ := st
      rcases e' with q | q | q | q | q
      · rw [q]; exact hzl
      · rw [q]; exact Heap.lt_size hTI
      · rw [q]; exact Heap.lt_size hTO
      · rw [q]; obtain ⟨_, e1, _⟩ := h1.ex; exact Heap.lt_size e1
      · rw [q]; obtain ⟨_, e2, _⟩ := h2.ex; exact Heap.lt_size e2
    refine ⟨.ref s.heap.objs.size, _, I1, rfl, ⟨_, x, y, rfl, I.hok.fresh (Nat.le_refl _), rfl, fun l hl => by rw [hl.inj I hqx]; exact hx, fun l hl => by rw [hl.inj I hqy]; exact hy⟩, ⟨z'', ?_, ⟨u, u2, ?_⟩, ?_, ?_⟩, fun c hcm => ?_⟩
    · exact (sb.2 _ D.TIz).trans (hk _ _ D.TIz D.TITO D.TIi1 D.TIi2 st.hTI)
    · exact (sb.2 _ D.TOz).trans TO'
    · exact h1'.at' fun o q => (sb.2 _ D.i1z).trans q
    · exact h2'.at' fun o q => (sb.2 _ D.i2z).trans q
    · rw [upd_ne (Nat.ne_of_lt (fresh c hcm))]
      exact (hf c hcm).1
  done := by
    intro X hP hw hK hc i pins s σ H E I hf st hg
    subst hP hw hK
    obtain ⟨xs, ys, hqx, hqy, hend⟩ := hg
    obtain ⟨its, rv, p⟩ := hqx.is I
    obtain ⟨its2, rv2, p2⟩ := hqy.is I
    have l1 := rv.length
    have l2 := rv2.length
    have he : its.toArray[i]? = none ∨ its2.toArray[i]? = none := by
      rcases hend with q | q
      · exact .inl (by simp; omega)
      · exact .inr (by simp; omega)
    refine pyNext_zm_end (I.ok.hd hc) D st p p2 he fun h' hk => ⟨rfl, I.turnedL (t' := s.toks) (ch := [z, TI, TO, i1, i2]) (fun c o hb q => ?_) hf⟩
    exact hk c o (fun q' => hb (by simp [q'])) (fun q' => hb (by simp [q'])) (fun q' => hb (by simp [q'])) (fun q' => hb (by simp [q'])) q
  self := fun A i s Q E st h => wpAny_pyIter_zip st.hz h
def iZipB (K : PySem.W.Frag) (ta : TA) : TI := fun σ H R => ta σ H fun vs H1 => ∃ (b1 b2 : Bool) (a b : Addr) (xs ys : List V), vs = [.ref a, .ref b] ∧ Sqv b1 K H1 a xs ∧ Sqv b2 K H1 b ys ∧ R (Itm b1 b2 K a b) H1
theorem pi_zm {X : Cx} {e e2 : Expr} {ta : TA} {p pos tpos : Pos} {elts : List Expr} {kk : Nat} (hg : Gl X "zip") (hm : X.mg "zip" = none) (ha : PA X [e, e2] ta)
    (hs : starEach [e, e2] X.env = (false, eval e X.env) :: starEach [e2] X.env := by rfl) (hpl : (backTo pos (starEach [e2] X.env)).any (·.1) = false := by rfl) :
    PI X (.Tuple elts kk tpos) (.Call (.Name "zip" p) [e, e2] [] pos) (iZipB X.K ta) := by
  refine ⟨fun pins s σ H R I h => ?_⟩
  refine Call_ (ld_blt I hg hm PyProof.Rows.boot_zip (PyProof.Rows.callWith_type1 (thn (ha.run pos pins s σ H _ I h) fun us s1 ⟨vs, H1, I1, r1, q1⟩ => ?_) hs hpl))
  obtain ⟨b1, b2, a, b, xs, ys, ex, hqx, hqy, q⟩ := q1
  subst ex
  cases r1 with
  | cons r rr =>
    cases rr with
    | cons r' rr =>
      cases rr
      cases r
      cases r'
      obtain ⟨its, rv, p1⟩ := hqx.is I1
      obtain ⟨its2, rv2, p2⟩ := hqy.is I1
      have fresh : ∀ c, c ∈ [s1.heap.objs.size + 4, s1.heap.objs.size + 2, s1.heap.objs.size + 3, s1.heap.objs.size, s1.heap.objs.size + 1] → FpOk X pins H1 c := fun c hcm => by
        have e' : c = s1.heap.objs.size + 4 ∨ c = s1.heap.objs.size + 2 ∨ c = s1.heap.objs.size + 3 ∨ c = s1.heap.objs.size ∨ c = s1.heap.objs.size + 1 := by simpa using hcm
        have hle : s1.heap.objs.size ≤ c := by rcases e' with z | z | z | z | z <;> (rw [z]; first | exact Nat.le_add_right _ _ | exact Nat.le_refl _)
        exact I1.fpOk hle (I1.hok.fresh hle)
      refine call_zm p1 p2 fun h' hZ hk => wpAny_pyIter_zip hZ.hz ?_
      have I2 : Inv X pins σ H1 { s1 with heap := h' } := I1.kept (t' := s1.toks) hk
      exact ⟨s1.heap.objs.size + 4, [s1.heap.objs.size + 4, s1.heap.objs.size + 2, s1.heap.objs.size + 3, s1.heap.objs.size, s1.heap.objs.size + 1], _, _, H1, rfl, I2, turn_zm (PySem.W.ktu_apart s1.heap.objs.size a b p1.lt p2.lt), hZ, fresh, q⟩
end Ew

set_option Elab.async false
set_option linter.all false
set_option maxRecDepth 100000
set_option maxHeartbeats 4000000
namespace Ew
open PySem PySem.Spec PyProof.Rows L2

/-! ### zip of two lists, of two tuples -/
def zipD (ds es : List D) : List D := (ds.zip es).map fun p => .tup [p.1, p.2]
def iZipK : Option (List D × SS) → RI := fun v => match v with
  | some ([.lst ds, .lst es], S) => .ok (zipD ds es) S
  | some ([.tup ds, .tup es], S) => .ok (zipD ds es) S
  | some ([.lst ds, .tup es], S) => .ok (zipD ds es) S
  | some ([.tup ds, .lst es], S) => .ok (zipD ds es) S
  | _ => .bad
def iZipR : List AV → SS → RI := fun as S => iZipK (frzs as S)
def iZip (f : AE → SS → RA) : AE → SS → RI := fun ρ S => (f ρ S).toI iZipR
section
variable {X : Cx} {W : WX} {K : PySem.W.Frag}
theorem zipD_len {ds es : List D} : (zipD ds es).length = min ds.length es.length := by unfold zipD; rw [List.length_map, List.length_zip]
theorem Sqv.st {b : Bool} {m m' : Mem} {H H' : Hp} {a : Addr} {xs : List V} (ca : b = true → m.P a ∧ H a = some (.lst xs)) (ct : b = false → SqT K H a xs) (s : Step m H m' H') : Sqv b K H' a xs := by
  cases b with
  | true => exact .of (s.keep a _ (ca rfl).2 (.inr (.inl (ca rfl).1)))
  | false => exact (s.stay (K := K)).sqt (ct rfl)
theorem walk_zm {b1 b2 : Bool} {m0 : Mem} {H0 : Hp} {a b : Addr} {xs ys : List V} {ds es : List D} (ca : b1 = true → m0.P a ∧ H0 a = some (.lst xs)) (ct : b1 = false → SqT K H0 a xs) (ra : RepL K m0.P H0 xs ds) (cb : b2 = true → m0.P b ∧ H0 b = some (.lst ys)) (cu : b2 = false → SqT K H0 b ys) (rb : RepL K m0.P H0 ys es) : WalkD K (Itm b1 b2 K a b) (zipD ds es) m0 H0 := fun m H s => by
  have sa : Sqv b1 K H a xs := Sqv.st ca ct s
  have sb : Sqv b2 K H b ys := Sqv.st cb cu s
  have r1 := ra.mono s.stay
  have r2 := rb.mono s.stay
  have l1 := r1.length
  have l2 := r2.length
  rw [zipD_len]
  refine ⟨fun i hi => ⟨xs, ys, xs[i]'(by omega), ys[i]'(by omega), sa, sb, by simp, by simp⟩, ⟨xs, ys, sa, sb, by omega⟩, fun i x H1 hi ⟨T, u, v, e, hT, eH, y1, y2⟩ => ?_⟩
  subst e eH
  obtain ⟨d, h2, h3⟩ := r1.get (y1 xs sa)
  obtain ⟨d2, h4, h5⟩ := r2.get (y2 ys sb)
  have st := (step_upd (m := m) (o := .tup [u, v]) hT).stay (K := K)
  refine ⟨.inr ⟨T, _, hT, rfl⟩, .tup [d, d2], ?_, .tup (.of upd_same) (.cons (Rep.mono st h3) (.cons (Rep.mono st h5) .nil))⟩
  unfold zipD
  rw [List.getElem?_map, (List.getElem?_zip_eq_some (z := (d, d2))).mpr ⟨h2, h4⟩]; rfl
theorem no_ft {p : Prop} (h : false = true) : p := nomatch h
theorem no_tf {p : Prop} (h : true = false) : p := nomatch h
theorem ji_zip2 {e e2 : Expr} {p pos tpos : Pos} {elts : List Expr} {kk : Nat} {f : AE → SS → RA} (hm : X.mg "zip" = none) (ja : JA X W [e, e2] f) (hg : Gl X "zip" := by rfl)
    (hs : starEach [e, e2] X.env = (false, eval e X.env) :: starEach [e2] X.env := by rfl) (hpl : (backTo pos (starEach [e2] X.env)).any (·.1) = false := by rfl) :
    JI X W (.Tuple elts kk tpos) (.Call (.Name "zip" p) [e, e2] [] pos) (iZip f) := fun ρ S => by
  refine PI.imp (pi_zm hg hm (ja ρ S) hs hpl) fun σ H Q ⟨m, w, en, q⟩ => ⟨m, w, en, ?_⟩
  unfold iZip at q
  cases hf : f ρ S with
  | bad => rw [hf] at q; exact q.elim
  | exc x S1 => rw [hf] at q; exact q
  | ok as S1 =>
    rw [hf] at q
    intro vs m1 H1 s1 w1 a1 f1
    dsimp only [RA.toI, iZipR] at q
    cases hz : frzs as S1 with
    | none => rw [hz] at q; exact q.elim
    | some z =>
      obtain ⟨dd, S2⟩ := z
      rw [hz] at q
      obtain ⟨P', g, s2, w2, r⟩ := frzs_ok s1 w1 (L2.Paired.mapP a1 fun _ _ z => z.q) f1 hz
      unfold iZipK at q
      split at q
      · rename_i e
        cases e
        cases r with
        | cons ra rr =>
          cases rr with
          | cons rb rr =>
            cases rr
            cases ra with
            | lst c1 h1 r1 =>
              cases rb with
              | lst c2 h2 r2 => exact ⟨true, true, _, _, _, _, rfl, .of h1, .of h2, q _ _ _ s2 w2 (walk_zm (m0 := ⟨m1.L, P'⟩) (fun _ => ⟨c1, h1⟩) no_tf r1 (fun _ => ⟨c2, h2⟩) no_tf r2)⟩
      · rename_i e
        cases e
        cases r with
        | cons ra rr =>
          cases rr with
          | cons rb rr =>
            cases rr
            cases ra with
            | tup h1 r1 =>
              cases rb with
              | tup h2 r2 => exact ⟨false, false, _, _, _, _, rfl, h1, h2, q _ _ _ s2 w2 (walk_zm (m0 := ⟨m1.L, P'⟩) no_ft (fun _ => h1) r1 no_ft (fun _ => h2) r2)⟩
      · rename_i e
        cases e
        cases r with
        | cons ra rr =>
          cases rr with
          | cons rb rr =>
            cases rr
            cases ra with
            | lst c1 h1 r1 =>
              cases rb with
              | tup h2 r2 => exact ⟨true, false, _, _, _, _, rfl, .of h1, h2, q _ _ _ s2 w2 (walk_zm (m0 := ⟨m1.L, P'⟩) (fun _ => ⟨c1, h1⟩) no_tf r1 no_ft (fun _ => h2) r2)⟩
      · rename_i e
        cases e
        cases r with
        | cons ra rr =>
          cases rr with
          | cons rb rr =>
            cases rr
            cases ra with
            | tup h1 r1 =>
              cases rb with
              | lst c2 h2 r2 => exact ⟨false, true, _, _, _, _, rfl, h1, .of h2, q _ _ _ s2 w2 (walk_zm (m0 := ⟨m1.L, P'⟩) no_ft (fun _ => h1) r1 (fun _ => ⟨c2, h2⟩) no_tf r2)⟩
      · exact q.elim
end
end Ew

set_option Elab.async false
set_option linter.all false
set_option maxRecDepth 100000
set_option maxHeartbeats 4000000
namespace Ew
open PySem PySem.Spec PyProof.Rows L2

/-! ### what is asked of results -/
def NE : Exn → SS → Prop := fun _ _ => False
def Wp0 (E : Exn → SS → Prop) (Q : AV → SS → Prop) : R → Prop
  | .ok a S => Q a S
  | .exc x S => E x S
  | .bad => False
structure Wp (E : Exn → SS → Prop) (Q : AV → SS → Prop) (r : R) : Prop where
  of :: (run : Wp0 E Q r)
def WpB0 (E : Exn → SS → Prop) (Q : Bool → SS → Prop) : RB → Prop
  | .ok a S => Q a S
  | .exc x S => E x S
  | .bad => False
structure WpB (E : Exn → SS → Prop) (Q : Bool → SS → Prop) (r : RB) : Prop where
  of :: (run : WpB0 E Q r)
def WpA0 (E : Exn → SS → Prop) (Q : List AV → SS → Prop) : RA → Prop
  | .ok a S => Q a S
  | .exc x S => E x S
  | .bad => False
structure WpA (E : Exn → SS → Prop) (Q : List AV → SS → Prop) (r : RA) : Prop where
  of :: (run : WpA0 E Q r)
def WpI0 (E : Exn → SS → Prop) (Q : List D → SS → Prop) : RI → Prop
  | .ok a S => Q a S
  | .exc x S => E x S
  | .bad => False
structure WpI (E : Exn → SS → Prop) (Q : List D → SS → Prop) (r : RI) : Prop where
  of :: (run : WpI0 E Q r)
def WpO0 (E : Exn → SS → Prop) (Q : Option Int → SS → Prop) : RO → Prop
  | .ok a S => Q a S
  | .exc x S => E x S
  | .bad => False
structure WpO (E : Exn → SS → Prop) (Q : Option Int → SS → Prop) (r : RO) : Prop where
  of :: (run : WpO0 E Q r)
structure Po where
  nx : AE → SS → Prop
  rt : AV → SS → Prop
  bk : AE → SS → Prop
  ct : AE → SS → Prop
  ex : Exn → AE → SS → Prop
def Ws0 (P : Po) : SR → Prop
  | .nx ρ S => P.nx ρ S
  | .rt a S => P.rt a S
  | .bk ρ S => P.bk ρ S
  | .ct ρ S => P.ct ρ S
  | .exc x ρ S => P.ex x ρ S
  | .bad => False
structure Ws (P : Po) (r : SR) : Prop where
  of :: (run : Ws0 P r)
def wk {α β : Type} (W : β → Prop) (k : α → SS → β) : α → SS → Prop := fun a S => W (k a S)
theorem wk_e {α β : Type} {W : β → Prop} {k : α → SS → β} {a : α} {S : SS} : wk W k a S = W (k a S) := (rfl)
def Po.exq (P : Po) (ρ : AE) : Exn → SS → Prop := fun x S => P.ex x ρ S
theorem exq_e {P : Po} {ρ : AE} {x : Exn} {S : SS} : P.exq ρ x S = P.ex x ρ S := (rfl)
def Po.seq (P : Po) (q : AE → SS → SR) : Po := ⟨fun ρ S => Ws P (q ρ S), P.rt, P.bk, P.ct, P.ex⟩
section
variable {E : Exn → SS → Prop} {Q : AV → SS → Prop} {QB : Bool → SS → Prop} {QA : List AV → SS → Prop} {QI : List D → SS → Prop} {QO : Option Int → SS → Prop} {P : Po} {S : SS} {ρ : AE} {x : Exn}
theorem Wp_ok {a : AV} : Wp E Q (.ok a S) = Q a S := propext ⟨fun h => h.run, fun h => ⟨h⟩⟩
theorem Wp_exc : Wp E Q (.exc x S) = E x S := propext ⟨fun h => h.run, fun h => ⟨h⟩⟩
theorem Wp_bad : Wp E Q .bad = False := propext ⟨fun h => h.run, fun h => ⟨h⟩⟩
theorem WpB_ok {a : Bool} : WpB E QB (.ok a S) = QB a S := propext ⟨fun h => h.run, fun h => ⟨h⟩⟩
theorem WpB_exc : WpB E QB (.exc x S) = E x S := propext ⟨fun h => h.run, fun h => ⟨h⟩⟩
theorem WpB_bad : WpB E QB .bad = False := propext ⟨fun h => h.run, fun h => ⟨h⟩⟩
theorem WpA_ok {a : List AV} : WpA E QA (.ok a S) = QA a S := propext ⟨fun h => h.run, fun h => ⟨h⟩⟩
theorem WpA_exc : WpA E QA (.exc x S) = E x S := propext ⟨fun h => h.run, fun h => ⟨h⟩⟩
theorem WpA_bad : WpA E QA .bad = False := propext ⟨fun h => h.run, fun h => ⟨h⟩⟩
theorem WpI_ok {a : List D} : WpI E QI (.ok a S) = QI a S := propext ⟨fun h => h.run, fun h => ⟨h⟩⟩
theorem WpI_exc : WpI E QI (.exc x S) = E x S := propext ⟨fun h => h.run, fun h => ⟨h⟩⟩
theorem WpI_bad : WpI E QI .bad = False := propext ⟨fun h => h.run, fun h => ⟨h⟩⟩
theorem WpO_ok {a : Option Int} : WpO E QO (.ok a S) = QO a S := propext ⟨fun h => h.run, fun h => ⟨h⟩⟩
theorem WpO_exc : WpO E QO (.exc x S) = E x S := propext ⟨fun h => h.run, fun h => ⟨h⟩⟩
theorem WpO_bad : WpO E QO .bad = False := propext ⟨fun h => h.run, fun h => ⟨h⟩⟩
theorem Ws_nx : Ws P (.nx ρ S) = P.nx ρ S := propext ⟨fun h => h.run, fun h => ⟨h⟩⟩
theorem Ws_rt {a : AV} : Ws P (.rt a S) = P.rt a S := propext ⟨fun h => h.run, fun h => ⟨h⟩⟩
theorem Ws_bk : Ws P (.bk ρ S) = P.bk ρ S := propext ⟨fun h => h.run, fun h => ⟨h⟩⟩
theorem Ws_ct : Ws P (.ct ρ S) = P.ct ρ S := propext ⟨fun h => h.run, fun h => ⟨h⟩⟩
theorem Ws_exc : Ws P (.exc x ρ S) = P.ex x ρ S := propext ⟨fun h => h.run, fun h => ⟨h⟩⟩
theorem Ws_bad : Ws P .bad = False := propext ⟨fun h => h.run, fun h => ⟨h⟩⟩
theorem seq_nx {q : AE → SS → SR} : (P.seq q).nx ρ S = Ws P (q ρ S) := (rfl)
theorem seq_rt {q : AE → SS → SR} {a : AV} : (P.seq q).rt a S = P.rt a S := (rfl)
theorem seq_bk {q : AE → SS → SR} : (P.seq q).bk ρ S = P.bk ρ S := (rfl)
theorem seq_ct {q : AE → SS → SR} : (P.seq q).ct ρ S = P.ct ρ S := (rfl)
theorem seq_ex {q : AE → SS → SR} : (P.seq q).ex x ρ S = P.ex x ρ S := (rfl)
theorem Wp_bind {r : R} {k : AV → SS → R} : Wp E Q (R.bind r k) = Wp E (wk (Wp E Q) k) r := by cases r <;> simp only [Wp_ok, Wp_exc, Wp_bad, WpB_ok, WpB_exc, WpB_bad, WpA_ok, WpA_exc, WpA_bad, WpI_ok, WpI_exc, WpI_bad, WpO_ok, WpO_exc, WpO_bad, Ws_nx, Ws_rt, Ws_bk, Ws_ct, Ws_exc, Ws_bad, wk_e, seq_nx, seq_rt, seq_bk, seq_ct, seq_ex, exq_e, R.bind, RA.toR, RB.toR, RO.toR, R.toB, RB.bind, R.toA, RA.bind, R.toI, RA.toI, R.toS, RB.toS, RI.toS, SR.seq]
theorem Wp_toR {r : RA} {k : List AV → SS → R} : Wp E Q (RA.toR r k) = WpA E (wk (Wp E Q) k) r := by cases r <;> simp only [Wp_ok, Wp_exc, Wp_bad, WpB_ok, WpB_exc, WpB_bad, WpA_ok, WpA_exc, WpA_bad, WpI_ok, WpI_exc, WpI_bad, WpO_ok, WpO_exc, WpO_bad, Ws_nx, Ws_rt, Ws_bk, Ws_ct, Ws_exc, Ws_bad, wk_e, seq_nx, seq_rt, seq_bk, seq_ct, seq_ex, exq_e, R.bind, RA.toR, RB.toR, RO.toR, R.toB, RB.bind, R.toA, RA.bind, R.toI, RA.toI, R.toS, RB.toS, RI.toS, SR.seq]
theorem Wp_BtoR {r : RB} {k : Bool → SS → R} : Wp E Q (RB.toR r k) = WpB E (wk (Wp E Q) k) r := by cases r <;> simp only [Wp_ok, Wp_exc, Wp_bad, WpB_ok, WpB_exc, WpB_bad, WpA_ok, WpA_exc, WpA_bad, WpI_ok, WpI_exc, WpI_bad, WpO_ok, WpO_exc, WpO_bad, Ws_nx, Ws_rt, Ws_bk, Ws_ct, Ws_exc, Ws_bad, wk_e, seq_nx, seq_rt, seq_bk, seq_ct, seq_ex, exq_e, R.bind, RA.toR, RB.toR, RO.toR, R.toB, RB.bind, R.toA, RA.bind, R.toI, RA.toI, R.toS, RB.toS, RI.toS, SR.seq]
theorem Wp_OtoR {r : RO} {k : Option Int → SS → R} : Wp E Q (RO.toR r k) = WpO E (wk (Wp E Q) k) r := by cases r <;> simp only [Wp_ok, Wp_exc, Wp_bad, WpB_ok, WpB_exc, WpB_bad, WpA_ok, WpA_exc, WpA_bad, WpI_ok, WpI_exc, WpI_bad, WpO_ok, WpO_exc, WpO_bad, Ws_nx, Ws_rt, Ws_bk, Ws_ct, Ws_exc, Ws_bad, wk_e, seq_nx, seq_rt, seq_bk, seq_ct, seq_ex, exq_e, R.bind, RA.toR, RB.toR, RO.toR, R.toB, RB.bind, R.toA, RA.bind, R.toI, RA.toI, R.toS, RB.toS, RI.toS, SR.seq]
theorem WpB_toB {r : R} {k : AV → SS → RB} : WpB E QB (R.toB r k) = Wp E (wk (WpB E QB) k) r := by cases r <;> simp only [Wp_ok, Wp_exc, Wp_bad, WpB_ok, WpB_exc, WpB_bad, WpA_ok, WpA_exc, WpA_bad, WpI_ok, WpI_exc, WpI_bad, WpO_ok, WpO_exc, WpO_bad, Ws_nx, Ws_rt, Ws_bk, Ws_ct, Ws_exc, Ws_bad, wk_e, seq_nx, seq_rt, seq_bk, seq_ct, seq_ex, exq_e, R.bind, RA.toR, RB.toR, RO.toR, R.toB, RB.bind, R.toA, RA.bind, R.toI, RA.toI, R.toS, RB.toS, RI.toS, SR.seq]
theorem WpB_bind {r : RB} {k : Bool → SS → RB} : WpB E QB (RB.bind r k) = WpB E (wk (WpB E QB) k) r := by cases r <;> simp only [Wp_ok, Wp_exc, Wp_bad, WpB_ok, WpB_exc, WpB_bad, WpA_ok, WpA_exc, WpA_bad, WpI_ok, WpI_exc, WpI_bad, WpO_ok, WpO_exc, WpO_bad, Ws_nx, Ws_rt, Ws_bk, Ws_ct, Ws_exc, Ws_bad, wk_e, seq_nx, seq_rt, seq_bk, seq_ct, seq_ex, exq_e, R.bind, RA.toR, RB.toR, RO.toR, R.toB, RB.bind, R.toA, RA.bind, R.toI, RA.toI, R.toS, RB.toS, RI.toS, SR.seq]
theorem WpA_toA {r : R} {k : AV → SS → RA} : WpA E QA (R.toA r k) = Wp E (wk (WpA E QA) k) r := by cases r <;> simp only [Wp_ok, Wp_exc, Wp_bad, WpB_ok, WpB_exc, WpB_bad, WpA_ok, WpA_exc, WpA_bad, WpI_ok, WpI_exc, WpI_bad, WpO_ok, WpO_exc, WpO_bad, Ws_nx, Ws_rt, Ws_bk, Ws_ct, Ws_exc, Ws_bad, wk_e, seq_nx, seq_rt, seq_bk, seq_ct, seq_ex, exq_e, R.bind, RA.toR, RB.toR, RO.toR, R.toB, RB.bind, R.toA, RA.bind, R.toI, RA.toI, R.toS, RB.toS, RI.toS, SR.seq]
theorem WpA_bind {r : RA} {k : List AV → SS → RA} : WpA E QA (RA.bind r k) = WpA E (wk (WpA E QA) k) r := by cases r <;> simp only [Wp_ok, Wp_exc, Wp_bad, WpB_ok, WpB_exc, WpB_bad, WpA_ok, WpA_exc, WpA_bad, WpI_ok, WpI_exc, WpI_bad, WpO_ok, WpO_exc, WpO_bad, Ws_nx, Ws_rt, Ws_bk, Ws_ct, Ws_exc, Ws_bad, wk_e, seq_nx, seq_rt, seq_bk, seq_ct, seq_ex, exq_e, R.bind, RA.toR, RB.toR, RO.toR, R.toB, RB.bind, R.toA, RA.bind, R.toI, RA.toI, R.toS, RB.toS, RI.toS, SR.seq]
theorem WpI_toI {r : R} {k : AV → SS → RI} : WpI E QI (R.toI r k) = Wp E (wk (WpI E QI) k) r := by cases r <;> simp only [Wp_ok, Wp_exc, Wp_bad, WpB_ok, WpB_exc, WpB_bad, WpA_ok, WpA_exc, WpA_bad, WpI_ok, WpI_exc, WpI_bad, WpO_ok, WpO_exc, WpO_bad, Ws_nx, Ws_rt, Ws_bk, Ws_ct, Ws_exc, Ws_bad, wk_e, seq_nx, seq_rt, seq_bk, seq_ct, seq_ex, exq_e, R.bind, RA.toR, RB.toR, RO.toR, R.toB, RB.bind, R.toA, RA.bind, R.toI, RA.toI, R.toS, RB.toS, RI.toS, SR.seq]
theorem WpI_AtoI {r : RA} {k : List AV → SS → RI} : WpI E QI (RA.toI r k) = WpA E (wk (WpI E QI) k) r := by cases r <;> simp only [Wp_ok, Wp_exc, Wp_bad, WpB_ok, WpB_exc, WpB_bad, WpA_ok, WpA_exc, WpA_bad, WpI_ok, WpI_exc, WpI_bad, WpO_ok, WpO_exc, WpO_bad, Ws_nx, Ws_rt, Ws_bk, Ws_ct, Ws_exc, Ws_bad, wk_e, seq_nx, seq_rt, seq_bk, seq_ct, seq_ex, exq_e, R.bind, RA.toR, RB.toR, RO.toR, R.toB, RB.bind, R.toA, RA.bind, R.toI, RA.toI, R.toS, RB.toS, RI.toS, SR.seq]
theorem Ws_toS {r : R} {k : AV → SS → SR} : Ws P (R.toS r ρ k) = Wp (P.exq ρ) (wk (Ws P) k) r := by cases r <;> simp only [Wp_ok, Wp_exc, Wp_bad, WpB_ok, WpB_exc, WpB_bad, WpA_ok, WpA_exc, WpA_bad, WpI_ok, WpI_exc, WpI_bad, WpO_ok, WpO_exc, WpO_bad, Ws_nx, Ws_rt, Ws_bk, Ws_ct, Ws_exc, Ws_bad, wk_e, seq_nx, seq_rt, seq_bk, seq_ct, seq_ex, exq_e, R.bind, RA.toR, RB.toR, RO.toR, R.toB, RB.bind, R.toA, RA.bind, R.toI, RA.toI, R.toS, RB.toS, RI.toS, SR.seq]
theorem Ws_BtoS {r : RB} {k : Bool → SS → SR} : Ws P (RB.toS r ρ k) = WpB (P.exq ρ) (wk (Ws P) k) r := by cases r <;> simp only [Wp_ok, Wp_exc, Wp_bad, WpB_ok, WpB_exc, WpB_bad, WpA_ok, WpA_exc, WpA_bad, WpI_ok, WpI_exc, WpI_bad, WpO_ok, WpO_exc, WpO_bad, Ws_nx, Ws_rt, Ws_bk, Ws_ct, Ws_exc, Ws_bad, wk_e, seq_nx, seq_rt, seq_bk, seq_ct, seq_ex, exq_e, R.bind, RA.toR, RB.toR, RO.toR, R.toB, RB.bind, R.toA, RA.bind, R.toI, RA.toI, R.toS, RB.toS, RI.toS, SR.seq]
theorem Ws_ItoS {r : RI} {k : List D → SS → SR} : Ws P (RI.toS r ρ k) = WpI (P.exq ρ) (wk (Ws P) k) r := by cases r <;> simp only [Wp_ok, Wp_exc, Wp_bad, WpB_ok, WpB_exc, WpB_bad, WpA_ok, WpA_exc, WpA_bad, WpI_ok, WpI_exc, WpI_bad, WpO_ok, WpO_exc, WpO_bad, Ws_nx, Ws_rt, Ws_bk, Ws_ct, Ws_exc, Ws_bad, wk_e, seq_nx, seq_rt, seq_bk, seq_ct, seq_ex, exq_e, R.bind, RA.toR, RB.toR, RO.toR, R.toB, RB.bind, R.toA, RA.bind, R.toI, RA.toI, R.toS, RB.toS, RI.toS, SR.seq]
theorem Ws_seq {r : SR} {q : AE → SS → SR} : Ws P (SR.seq r q) = Ws (P.seq q) r := by cases r <;> simp only [Wp_ok, Wp_exc, Wp_bad, WpB_ok, WpB_exc, WpB_bad, WpA_ok, WpA_exc, WpA_bad, WpI_ok, WpI_exc, WpI_bad, WpO_ok, WpO_exc, WpO_bad, Ws_nx, Ws_rt, Ws_bk, Ws_ct, Ws_exc, Ws_bad, wk_e, seq_nx, seq_rt, seq_bk, seq_ct, seq_ex, exq_e, R.bind, RA.toR, RB.toR, RO.toR, R.toB, RB.bind, R.toA, RA.bind, R.toI, RA.toI, R.toS, RB.toS, RI.toS, SR.seq]
def oSq (QO : Option Int → SS → Prop) : AV → SS → Prop := fun a S => match a with
  | .dat (.int i) => QO (some i) S
  | _ => False
theorem oSq_e {i : Int} : oSq QO (.dat (.int i)) S = QO (some i) S := (rfl)
theorem WpO_s {r : R} : WpO E QO (oSomeK r) = Wp E (oSq QO) r := by
  cases r with
  | ok a S => cases a with
    | dat d => cases d <;> exact propext ⟨fun h => ⟨h.run⟩, fun h => ⟨h.run⟩⟩
    | own n => exact propext ⟨fun h => ⟨h.run⟩, fun h => ⟨h.run⟩⟩
    | new o => exact propext ⟨fun h => ⟨h.run⟩, fun h => ⟨h.run⟩⟩
    | nst _ => exact propext ⟨fun h => ⟨h.run⟩, fun h => ⟨h.run⟩⟩
  | exc x S => exact propext ⟨fun h => ⟨h.run⟩, fun h => ⟨h.run⟩⟩
  | bad => exact propext ⟨fun h => ⟨h.run⟩, fun h => ⟨h.run⟩⟩
theorem Wp.mono {E' : Exn → SS → Prop} {Q' : AV → SS → Prop} {r : R} (h : Wp E Q r) (q : ∀ a S, Q a S → Q' a S) (e : ∀ x S, E x S → E' x S) : Wp E' Q' r := by
  cases r with
  | ok a S => exact ⟨q a S h.run⟩
  | exc x S => exact ⟨e x S h.run⟩
  | bad => exact ⟨h.run⟩
theorem Wp.cut {Q' : AV → SS → Prop} {r : R} (h : Wp NE Q r) (q : ∀ a S, Q a S → Q' a S) : Wp E Q' r := h.mono q fun _ _ z => z.elim
theorem wpB_cut {r : RB} (J : Bool → SS → Prop) (h : WpB E J r) (n : ∀ b S, J b S → QB b S) : WpB E QB r := by
  cases r with
  | ok a S => exact ⟨n a S h.run⟩
  | exc x S => exact ⟨h.run⟩
  | bad => exact ⟨h.run⟩
theorem Wp.eq {r : R} (h : Wp NE Q r) : ∃ a S, r = .ok a S ∧ Q a S := by
  cases r with
  | ok a S => exact ⟨a, S, rfl, h.run⟩
  | exc x S => exact h.run.elim
  | bad => exact h.run.elim
theorem Wp.by_eq {r : R} {a : AV} (e : r = .ok a S) (q : Q a S) : Wp E Q r := by rw [e]; exact ⟨q⟩
theorem Ws.mono {P' : Po} {r : SR} (h : Ws P r) (n : ∀ ρ S, P.nx ρ S → P'.nx ρ S) (t : ∀ a S, P.rt a S → P'.rt a S) (b : ∀ ρ S, P.bk ρ S → P'.bk ρ S) (c : ∀ ρ S, P.ct ρ S → P'.ct ρ S) (e : ∀ x ρ S, P.ex x ρ S → P'.ex x ρ S) : Ws P' r := by
  cases r with
  | nx ρ S => exact ⟨n ρ S h.run⟩
  | rt a S => exact ⟨t a S h.run⟩
  | bk ρ S => exact ⟨b ρ S h.run⟩
  | ct ρ S => exact ⟨c ρ S h.run⟩
  | exc x ρ S => exact ⟨e x ρ S h.run⟩
  | bad => exact ⟨h.run⟩
/-- only the way on is looked at anew -/
theorem Ws.cut {r : SR} (I : AE → SS → Prop) (h : Ws { P with nx := I } r) (n : ∀ ρ S, I ρ S → P.nx ρ S) : Ws P r :=
  h.mono n (fun _ _ z => z) (fun _ _ z => z) (fun _ _ z => z) (fun _ _ _ z => z)
/-! bodies -/
def rtP (E : Exn → SS → Prop) (Q : AV → SS → Prop) (k : Nat) : Po := ⟨fun _ S => Wp E Q (cutR k S (.dat .non)), fun a S => Wp E Q (retS (.rt a S) k), fun _ _ => False, fun _ _ => False, fun x _ S => Wp E Q (cutX k S x)⟩
theorem Wp_retS {r : SR} {k : Nat} : Wp E Q (retS r k) = Ws (rtP E Q k) r := by
  cases r with
  | rt a S => rw [Ws_rt]; rfl
  | nx ρ S => rw [Ws_nx]; rfl
  | exc x ρ S => rw [Ws_exc]; rfl
  | _ => exact propext ⟨fun h => ⟨h.run⟩, fun h => ⟨h.run⟩⟩
theorem rtP_nx {k : Nat} : (rtP E Q k).nx ρ S = Wp E Q (cutR k S (.dat .non)) := (rfl)
theorem rtP_rt {k : Nat} {a : AV} : (rtP E Q k).rt a S = Wp E Q (retS (.rt a S) k) := (rfl)
theorem rtP_ex {k : Nat} : (rtP E Q k).ex x ρ S = Wp E Q (cutX k S x) := (rfl)
theorem cutR_e {k : Nat} {a : AV} (h : clB (S.take k) = true) : cutR k S a = .ok a (S.take k) := by unfold cutR; rw [h]
theorem cutX_e {k : Nat} (h : clB (S.take k) = true) : cutX k S x = .exc x (S.take k) := by unfold cutX; rw [h]
theorem retS_d {d : D} {k : Nat} : retS (.rt (.dat d) S) k = cutR k S (.dat d) := (rfl)
theorem retS_n {o : AO} {k : Nat} : retS (.rt (.new o) S) k = cutR k S (.new o) := (rfl)
def retO (k : Nat) (S : SS) : Option AO → R
  | some (.fz d) => cutR k S (.dat d)
  | some (.lst ds) => cutR k S (.new (.lst ds))
  | some (.dct ds) => cutR k S (.new (.dct ds))
  | some (.nx _) => .bad
  | none => .bad
theorem retS_o {i k : Nat} (h : k ≤ i) : retS (.rt (.own i) S) k = retO k S S[i]? := by
  unfold retS retO
  have e : Nat.blt i k = false := by
    cases e : Nat.blt i k with
    | false => rfl
    | true =>
      have : i + 1 ≤ k := Nat.le_of_ble_eq_true e
      omega
  dsimp only
  rw [e] <;> rfl
theorem retS_p {i k : Nat} (h : i < k) : retS (.rt (.own i) S) k = cutR k S (.own i) := by
  unfold retS
  have e : Nat.blt i k = true := Nat.ble_eq_true_of_le h
  dsimp only
  rw [e]
theorem retO_f {k : Nat} {d : D} : retO k S (some (.fz d)) = cutR k S (.dat d) := (rfl)
theorem retO_l {k : Nat} {ds : List D} : retO k S (some (.lst ds)) = cutR k S (.new (.lst ds)) := (rfl)
theorem retO_d {k : Nat} {ds : List (Key × D)} : retO k S (some (.dct ds)) = cutR k S (.new (.dct ds)) := (rfl)
theorem runF_e {N : Nat} {body : AE → SS → SR} {as : List AV} : runF N body as S = retS (body (as.map some ++ List.replicate (N - as.length) none) S) S.length := (rfl)
/-! choices -/
theorem if_w {p q : AE → SS → SR} {b : Bool} (h1 : b = true → Ws P (p ρ S)) (h2 : b = false → Ws P (q ρ S)) : Ws P (sIfK p q ρ b S) := by
  cases b with
  | true => exact h1 rfl
  | false => exact h2 rfl
theorem eIf_w {f h : AE → SS → R} {b : Bool} (h1 : b = true → Wp E Q (f ρ S)) (h2 : b = false → Wp E Q (h ρ S)) : Wp E Q (eIfK f h ρ b S) := by
  cases b with
  | true => exact h1 rfl
  | false => exact h2 rfl
theorem eAnd_w {h : AE → SS → R} {b : Bool} (h1 : b = true → Wp E Q (h ρ S)) (h2 : b = false → Q (.dat (.bl false)) S) : Wp E Q (eAndK h ρ (.dat (.bl b)) S) := by
  cases b with
  | true => exact h1 rfl
  | false => exact ⟨h2 rfl⟩
theorem eOr_w {h : AE → SS → R} {b : Bool} (h1 : b = true → Q (.dat (.bl true)) S) (h2 : b = false → Wp E Q (h ρ S)) : Wp E Q (eOrK h ρ (.dat (.bl b)) S) := by
  cases b with
  | true => exact ⟨h1 rfl⟩
  | false => exact h2 rfl
theorem tAn_w {u : AE → SS → RB} {b : Bool} (h1 : b = true → WpB E QB (u ρ S)) (h2 : b = false → QB false S) : WpB E QB (tAnK u ρ b S) := by
  cases b with
  | true => exact h1 rfl
  | false => exact ⟨h2 rfl⟩
theorem tO_w {u : AE → SS → RB} {b : Bool} (h1 : b = true → QB true S) (h2 : b = false → WpB E QB (u ρ S)) : WpB E QB (tOK u ρ b S) := by
  cases b with
  | true => exact ⟨h1 rfl⟩
  | false => exact h2 rfl
/-! what holds behind a choice -/
def cutP (P : Po) (N : AE → SS → Prop) : Po := ⟨N, P.rt, P.bk, P.ct, P.ex⟩
theorem cutP_nx {N : AE → SS → Prop} : (cutP P N).nx = N := (rfl)
theorem cutP_rt {N : AE → SS → Prop} : (cutP P N).rt = P.rt := (rfl)
theorem cutP_bk {N : AE → SS → Prop} : (cutP P N).bk = P.bk := (rfl)
theorem cutP_ct {N : AE → SS → Prop} : (cutP P N).ct = P.ct := (rfl)
theorem cutP_ex {N : AE → SS → Prop} : (cutP P N).ex = P.ex := (rfl)
theorem cutP_exq {N : AE → SS → Prop} : (cutP P N).exq ρ = P.exq ρ := (rfl)
theorem ws_cut {r : SR} {N : AE → SS → Prop} (h : Ws (cutP P N) r) (n : ∀ ρ S, N ρ S → P.nx ρ S) : Ws P r :=
  h.mono n (fun _ _ z => z) (fun _ _ z => z) (fun _ _ z => z) (fun _ _ _ z => z)
theorem if_cut0 {p q : AE → SS → SR} {b : Bool} (I : SS → Prop) (h1 : b = true → Ws (cutP P fun ρ' S' => ρ' = ρ ∧ I S') (p ρ S)) (h2 : b = false → Ws (cutP P fun ρ' S' => ρ' = ρ ∧ I S') (q ρ S)) (n : ∀ S, I S → P.nx ρ S) : Ws P (sIfK p q ρ b S) :=
  ws_cut (if_w h1 h2) fun _ S ⟨e, h⟩ => by subst e; exact n S h
theorem if_cut1 {p q : AE → SS → SR} {b : Bool} (i : Nat) (I : Option AV → SS → Prop) (h1 : b = true → Ws (cutP P fun ρ' S' => ∃ y, ρ' = ρ.set i y ∧ I y S') (p ρ S)) (h2 : b = false → Ws (cutP P fun ρ' S' => ∃ y, ρ' = ρ.set i y ∧ I y S') (q ρ S)) (n : ∀ y S, I y S → P.nx (ρ.set i y) S) : Ws P (sIfK p q ρ b S) :=
  ws_cut (if_w h1 h2) fun _ S ⟨y, e, h⟩ => by subst e; exact n y S h
theorem if_cut2 {p q : AE → SS → SR} {b : Bool} (i j : Nat) (I : Option AV → Option AV → SS → Prop) (h1 : b = true → Ws (cutP P fun ρ' S' => ∃ x y, ρ' = (ρ.set i x).set j y ∧ I x y S') (p ρ S)) (h2 : b = false → Ws (cutP P fun ρ' S' => ∃ x y, ρ' = (ρ.set i x).set j y ∧ I x y S') (q ρ S)) (n : ∀ x y S, I x y S → P.nx ((ρ.set i x).set j y) S) : Ws P (sIfK p q ρ b S) :=
  ws_cut (if_w h1 h2) fun _ S ⟨x, y, e, h⟩ => by subst e; exact n x y S h
/-- an item whose number is not known by a figure -/
theorem apR_w {o : Option D} (h : ∃ d, o = some d ∧ Q (.dat d) S) : Wp E Q (apR S (optD o)) := by
  obtain ⟨d, rfl, q⟩ := h
  exact ⟨q⟩
/-! calls -/
def cfR (ns : List Nat) (as : List AV) : List AV := as.map fun a => ren ns (fz1 a)
theorem cfR_nil {ns : List Nat} : cfR ns [] = [] := (rfl)
theorem cfR_d {ns : List Nat} {d : D} {as : List AV} : cfR ns (.dat d :: as) = .dat d :: cfR ns as := (rfl)
theorem cfR_n {ns : List Nat} {o : AO} {as : List AV} : cfR ns (.new o :: as) = .dat o.toD :: cfR ns as := (rfl)
theorem cfR_o {ns : List Nat} {n : Nat} {as : List AV} : cfR ns (.own n :: as) = .own (ns.idxOf n) :: cfR ns as := (rfl)
theorem idx_0 {n : Nat} {ns : List Nat} : (n :: ns).idxOf n = 0 := by rw [List.idxOf_cons, beq_self_eq_true]; rfl
theorem idx_s {n m : Nat} {ns : List Nat} (h : (m == n) = false) : (m :: ns).idxOf n = ns.idxOf n + 1 := by rw [List.idxOf_cons, h]; rfl
theorem hs_nil : AV.hs [] = [] := (rfl)
theorem hs_d {d : D} {as : List AV} : AV.hs (.dat d :: as) = AV.hs as := (rfl)
theorem hs_n {o : AO} {as : List AV} : AV.hs (.new o :: as) = AV.hs as := (rfl)
theorem hs_o {n : Nat} {as : List AV} : AV.hs (.own n :: as) = n :: AV.hs as := (rfl)
def cf2 (ns : List Nat) (Sc S : SS) (r : R) : R := match r with
  | .ok a Sc' => (match okL Sc' Sc with
    | true => (match a with
      | .own i => (match ns[i]? with
        | some n => .ok (.own n) (put ns Sc' S)
        | none => .bad)
      | .nst _ => .bad
      | a => .ok a (put ns Sc' S))
    | false => .bad)
  | .exc x Sc' => (match okL Sc' Sc with
    | true => .exc x (put ns Sc' S)
    | false => .bad)
  | .bad => .bad
def cf1 (F : List AV → SS → R) (as : List AV) (S : SS) (ns : List Nat) : Bool → Option SS → R := fun b p => match b, p with
  | true, some Sc => (match clB Sc with
    | false => .bad
    | true => cf2 ns Sc S (F (cfR ns as) Sc))
  | _, _ => .bad
theorem callF_e {F : List AV → SS → R} {as : List AV} : callF F as S = cf1 F as S (AV.hs as) (nodupB (AV.hs as)) (pick (AV.hs as) S) := by
  unfold callF cf1 cf2 cfR; rfl
theorem cf1_e {F : List AV → SS → R} {as : List AV} {ns : List Nat} {Sc : SS} (h : clB Sc = true) : cf1 F as S ns true (some Sc) = cf2 ns Sc S (F (cfR ns as) Sc) := by unfold cf1; dsimp only; rw [h]
theorem okL_ok {S' S : SS} (h : S'.length = S.length) (h2 : clB S' = true) : okL S' S = true := by unfold okL; rw [h, h2, Nat.beq_refl]; rfl
theorem nodB_0 : nodupB [] = true := (rfl)
theorem nodB_1 {n : Nat} : nodupB [n] = true := (rfl)
theorem nodB_2 {n m : Nat} (h : (n == m) = false) : nodupB [n, m] = true := by
  unfold nodupB
  rw [nodB_1, List.contains_cons, h]; rfl
theorem nodB_3 {n m l : Nat} (h : (n == m) = false) (h2 : (n == l) = false) (h3 : (m == l) = false) : nodupB [n, m, l] = true := by
  unfold nodupB
  rw [nodB_2 h3, List.contains_cons, List.contains_cons, h, h2]; rfl
def pickK (x : Option AO) (xs : Option SS) : Option SS := match x, xs with
  | some x, some xs => some (x :: xs)
  | _, _ => none
theorem pick_0 : pick [] S = some [] := (rfl)
theorem pick_c {n : Nat} {ns : List Nat} : pick (n :: ns) S = pickK S[n]? (pick ns S) := by
  rw [pick]
  cases S[n]? <;> cases pick ns S <;> rfl
theorem pickK_e {o : AO} {xs : SS} : pickK (some o) (some xs) = some (o :: xs) := (rfl)
theorem put_c {n : Nat} {ns : List Nat} {o : AO} {os : SS} : put (n :: ns) (o :: os) S = put ns os (S.set n o) := (rfl)
theorem put_n {os : SS} : put [] os S = S := by rw [put]; intro _ _ _ _ h; cases h
theorem cf2_d {ns : List Nat} {Sc Sc' : SS} {d : D} (h : Sc'.length = Sc.length) (h2 : clB Sc' = true) : cf2 ns Sc S (.ok (.dat d) Sc') = .ok (.dat d) (put ns Sc' S) := by
  unfold cf2; dsimp only; rw [okL_ok h h2]
theorem cf2_n {ns : List Nat} {Sc Sc' : SS} {o : AO} (h : Sc'.length = Sc.length) (h2 : clB Sc' = true) : cf2 ns Sc S (.ok (.new o) Sc') = .ok (.new o) (put ns Sc' S) := by
  unfold cf2; dsimp only; rw [okL_ok h h2]
def cf2O (ns : List Nat) (Sc' S : SS) : Option Nat → R
  | some n => .ok (.own n) (put ns Sc' S)
  | none => .bad
theorem cf2_o {ns : List Nat} {Sc Sc' : SS} {i : Nat} (h : Sc'.length = Sc.length) (h2 : clB Sc' = true) : cf2 ns Sc S (.ok (.own i) Sc') = cf2O ns Sc' S ns[i]? := by
  unfold cf2 cf2O; dsimp only; rw [okL_ok h h2]
theorem cf2O_e {ns : List Nat} {Sc' : SS} {n : Nat} : cf2O ns Sc' S (some n) = .ok (.own n) (put ns Sc' S) := (rfl)
theorem cf2_x {ns : List Nat} {Sc Sc' : SS} (h : Sc'.length = Sc.length) (h2 : clB Sc' = true) : cf2 ns Sc S (.exc x Sc') = .exc x (put ns Sc' S) := by
  unfold cf2; dsimp only; rw [okL_ok h h2]
def cfQ (ns : List Nat) (Sc S : SS) (Q : AV → SS → Prop) : AV → SS → Prop := fun a S' => Wp NE Q (cf2 ns Sc S (.ok a S'))
def cfE (ns : List Nat) (Sc S : SS) (E : Exn → SS → Prop) : Exn → SS → Prop := fun x S' => Wp E (fun _ _ => False) (cf2 ns Sc S (.exc x S'))
theorem cfQ_e {ns : List Nat} {Sc S' : SS} {a : AV} : cfQ ns Sc S Q a S' = Wp NE Q (cf2 ns Sc S (.ok a S')) := (rfl)
theorem cfE_e {ns : List Nat} {Sc S' : SS} : cfE ns Sc S E x S' = Wp E (fun _ _ => False) (cf2 ns Sc S (.exc x S')) := (rfl)
theorem Wp_cf2 {ns : List Nat} {Sc : SS} {r : R} : Wp E Q (cf2 ns Sc S r) = Wp (cfE ns Sc S E) (cfQ ns Sc S Q) r := by
  cases r with
  | ok a S' =>
    rw [Wp_ok]
    show Wp E Q (cf2 ns Sc S (.ok a S')) = Wp NE Q (cf2 ns Sc S (.ok a S'))
    unfold cf2
    dsimp only
    cases okL S' Sc with
    | false => exact propext ⟨fun h => ⟨h.run⟩, fun h => ⟨h.run⟩⟩
    | true =>
      cases a with
      | own i => dsimp only; cases ns[i]? <;> exact propext ⟨fun h => ⟨h.run⟩, fun h => ⟨h.run⟩⟩
      | dat d => exact propext ⟨fun h => ⟨h.run⟩, fun h => ⟨h.run⟩⟩
      | new o => exact propext ⟨fun h => ⟨h.run⟩, fun h => ⟨h.run⟩⟩
      | nst _ => exact propext ⟨fun h => ⟨h.run⟩, fun h => ⟨h.run⟩⟩
  | exc y S' =>
    rw [Wp_exc]
    show Wp E Q (cf2 ns Sc S (.exc y S')) = Wp E (fun _ _ => False) (cf2 ns Sc S (.exc y S'))
    unfold cf2
    dsimp only
    cases okL S' Sc <;> exact propext ⟨fun h => ⟨h.run⟩, fun h => ⟨h.run⟩⟩
  | bad => exact propext ⟨fun h => ⟨h.run⟩, fun h => ⟨h.run⟩⟩
def callK (n : Nat) (F : List AV → SS → R) : List AV → SS → R := fun as S1 => match Nat.beq as.length n with
  | true => callF F as S1
  | false => .bad
theorem eCall_k {n : Nat} {F : List AV → SS → R} {f : AE → SS → RA} : eCall n F f ρ S = RA.toR (f ρ S) (callK n F) := (rfl)
theorem callK_e {n : Nat} {F : List AV → SS → R} {as : List AV} (h : as.length = n) : callK n F as S = callF F as S := by
  unfold callK; rw [h, Nat.beq_refl]
/-! draws -/
theorem draw_w {st : Sta} {k : Int} (hk : 0 < k) (hk2 : k < 1152921504606846976) (h : ∀ (v : Nat) (st' : Sta), (v : Int) < k → Q (.dat (.int (v : Nat))) [st'.ao]) : Wp E Q (m_law_draw [.own 0, .dat (.int k)] [st.ao]) := by
  obtain ⟨v, st', e, h1, h2⟩ := draw_ok st hk hk2
  obtain ⟨m, rfl⟩ := Int.eq_ofNat_of_zero_le h1
  rw [e]
  exact ⟨h m st' h2⟩
/-! loops -/
def forP (P : Po) (N : AE → SS → Prop) : Po := ⟨N, P.rt, P.nx, N, P.ex⟩
theorem forP_nx {N : AE → SS → Prop} : (forP P N).nx = N := (rfl)
theorem forP_ct {N : AE → SS → Prop} : (forP P N).ct = N := (rfl)
theorem forP_bk {N : AE → SS → Prop} : (forP P N).bk = P.nx := (rfl)
theorem forP_rt {N : AE → SS → Prop} : (forP P N).rt = P.rt := (rfl)
theorem forP_ex {N : AE → SS → Prop} : (forP P N).ex = P.ex := (rfl)
theorem forP_exq {N : AE → SS → Prop} : (forP P N).exq ρ = P.exq ρ := (rfl)
theorem seq_exq {q : AE → SS → SR} : (P.seq q).exq ρ = P.exq ρ := (rfl)
theorem rtP_exq {k : Nat} : (rtP NE Q k).exq ρ = NE := by
  funext x S
  show Wp NE Q (cutX k S x) = False
  unfold cutX
  cases clB (S.take k) <;> exact propext ⟨fun h => h.run, fun h => h.elim⟩
theorem cfE_NE {ns : List Nat} {Sc : SS} : cfE ns Sc S NE = NE := by
  funext x S'
  unfold cfE cf2
  dsimp only
  cases okL S' Sc <;> exact propext ⟨fun h => h.run, fun h => h.elim⟩
theorem for_w {body : D → AE → SS → SR} (I : Nat → AE → SS → Prop) : ∀ {ds : List D} {ρ : AE} {S : SS}, I 0 ρ S →
    (∀ k d ρ S, ds[k]? = some d → I k ρ S → Ws (forP P (I (k + 1))) (body d ρ S)) → (∀ ρ S, I ds.length ρ S → P.nx ρ S) → Ws P (forD body ds ρ S)
  | ds, ρ, S, h0, hs, hq => by
    induction ds generalizing I ρ S with
    | nil => exact ⟨hq ρ S h0⟩
    | cons d ds ih =>
      have z := hs 0 d ρ S rfl h0
      rw [forD]
      cases hb : body d ρ S with
      | nx ρ' S' =>
        rw [hb] at z
        exact ih (fun k => I (k + 1)) ρ' S' z.run (fun k d ρ S hk i => hs (k + 1) d ρ S hk i) hq
      | ct ρ' S' =>
        rw [hb] at z
        exact ih (fun k => I (k + 1)) ρ' S' z.run (fun k d ρ S hk i => hs (k + 1) d ρ S hk i) hq
      | bk ρ' S' => rw [hb] at z; exact ⟨z.run⟩
      | rt a S' => rw [hb] at z; exact ⟨z.run⟩
      | exc x ρ' S' => rw [hb] at z; exact ⟨z.run⟩
      | bad => rw [hb] at z; exact ⟨z.run⟩
/-- the slots that a loop sets, by their numbers -/
def setN (ρ : AE) : List Nat → List (Option AV) → AE
  | i :: is, x :: xs => setN (ρ.set i x) is xs
  | _, _ => ρ
theorem setN_c {i : Nat} {is : List Nat} {x : Option AV} {xs : List (Option AV)} : setN ρ (i :: is) (x :: xs) = setN (ρ.set i x) is xs := (rfl)
theorem setN_n : setN ρ [] [] = ρ := (rfl)
theorem set_id {l : AE} {i : Nat} {x : Option AV} (h : l[i]? = some x) : l.set i x = l := by
  refine List.ext_getElem? fun j => ?_
  by_cases e : i = j
  · subst e
    rw [List.getElem?_set_self (List.getElem?_eq_some_iff.mp h).1, h]
  · rw [List.getElem?_set_ne e]
/-- a loop that sets one slot -/
theorem for_w1 {body : D → AE → SS → SR} {ds : List D} (i : Nat) {x0 : Option AV} (hx : ρ[i]? = some x0) (I : Nat → Option AV → SS → Prop) (h0 : I 0 x0 S)
    (hs : ∀ k d x S, ds[k]? = some d → I k x S → Ws (forP P (fun ρ' S' => ∃ y, ρ' = ρ.set i y ∧ I (k + 1) y S')) (body d (ρ.set i x) S))
    (hq : ∀ x S, I ds.length x S → P.nx (ρ.set i x) S) : Ws P (forD body ds ρ S) := by
  refine for_w (fun k ρ' S' => ∃ y, ρ' = ρ.set i y ∧ I k y S') ⟨x0, ?_, h0⟩ ?_ ?_
  · exact (set_id hx).symm
  · rintro k d ρ' S' hk ⟨y, rfl, h⟩
    exact hs k d y S' hk h
  · rintro ρ' S' ⟨y, rfl, h⟩
    exact hq y S' h
theorem for_w2 {body : D → AE → SS → SR} {ds : List D} (i j : Nat) {x0 y0 : Option AV} (hx : ρ[i]? = some x0) (hy : ρ[j]? = some y0) (I : Nat → Option AV → Option AV → SS → Prop) (h0 : I 0 x0 y0 S)
    (hs : ∀ k d x y S, ds[k]? = some d → I k x y S → Ws (forP P (fun ρ' S' => ∃ x' y', ρ' = (ρ.set i x').set j y' ∧ I (k + 1) x' y' S')) (body d ((ρ.set i x).set j y) S))
    (hq : ∀ x y S, I ds.length x y S → P.nx ((ρ.set i x).set j y) S) : Ws P (forD body ds ρ S) := by
  refine for_w (fun k ρ' S' => ∃ x y, ρ' = (ρ.set i x).set j y ∧ I k x y S') ⟨x0, y0, ?_, h0⟩ ?_ ?_
  · rw [set_id hx, set_id hy]
  · rintro k d ρ' S' hk ⟨x, y, rfl, h⟩
    exact hs k d x y S' hk h
  · rintro ρ' S' ⟨x, y, rfl, h⟩
    exact hq x y S' h
theorem for_w3 {body : D → AE → SS → SR} {ds : List D} (i j l : Nat) {x0 y0 z0 : Option AV} (hx : ρ[i]? = some x0) (hy : ρ[j]? = some y0) (hz : ρ[l]? = some z0) (I : Nat → Option AV → Option AV → Option AV → SS → Prop) (h0 : I 0 x0 y0 z0 S)
    (hs : ∀ k d x y z S, ds[k]? = some d → I k x y z S → Ws (forP P (fun ρ' S' => ∃ x' y' z', ρ' = ((ρ.set i x').set j y').set l z' ∧ I (k + 1) x' y' z' S')) (body d (((ρ.set i x).set j y).set l z) S))
    (hq : ∀ x y z S, I ds.length x y z S → P.nx (((ρ.set i x).set j y).set l z) S) : Ws P (forD body ds ρ S) := by
  refine for_w (fun k ρ' S' => ∃ x y z, ρ' = ((ρ.set i x).set j y).set l z ∧ I k x y z S') ⟨x0, y0, z0, ?_, h0⟩ ?_ ?_
  · rw [set_id hx, set_id hy, set_id hz]
  · rintro k d ρ' S' hk ⟨x, y, z, rfl, h⟩
    exact hs k d x y z S' hk h
  · rintro ρ' S' ⟨x, y, z, rfl, h⟩
    exact hq x y z S' h
theorem for_w4 {body : D → AE → SS → SR} {ds : List D} (i j l m : Nat) {x0 y0 z0 u0 : Option AV} (hx : ρ[i]? = some x0) (hy : ρ[j]? = some y0) (hz : ρ[l]? = some z0) (hu : ρ[m]? = some u0) (I : Nat → Option AV → Option AV → Option AV → Option AV → SS → Prop) (h0 : I 0 x0 y0 z0 u0 S)
    (hs : ∀ k d x y z u S, ds[k]? = some d → I k x y z u S → Ws (forP P (fun ρ' S' => ∃ x' y' z' u', ρ' = (((ρ.set i x').set j y').set l z').set m u' ∧ I (k + 1) x' y' z' u' S')) (body d ((((ρ.set i x).set j y).set l z).set m u) S))
    (hq : ∀ x y z u S, I ds.length x y z u S → P.nx ((((ρ.set i x).set j y).set l z).set m u) S) : Ws P (forD body ds ρ S) := by
  refine for_w (fun k ρ' S' => ∃ x y z u, ρ' = (((ρ.set i x).set j y).set l z).set m u ∧ I k x y z u S') ⟨x0, y0, z0, u0, ?_, h0⟩ ?_ ?_
  · rw [set_id hx, set_id hy, set_id hz, set_id hu]
  · rintro k d ρ' S' hk ⟨x, y, z, u, rfl, h⟩
    exact hs k d x y z u S' hk h
  · rintro ρ' S' ⟨x, y, z, u, rfl, h⟩
    exact hq x y z u S' h
theorem while_w {t : AE → SS → RB} {f : AE → SS → SR} (I : AE → SS → Prop) (μ : AE → SS → Nat) {n : Nat} (h0 : I ρ S) (hn : μ ρ S < n)
    (hs : ∀ ρ S, I ρ S → WpB (P.exq ρ) (fun b S1 => if b = true then Ws (forP P (fun ρ' S' => I ρ' S' ∧ μ ρ' S' < μ ρ S)) (f ρ S1) else P.nx ρ S1) (t ρ S)) : Ws P (whileF t f n ρ S) := by
  induction n generalizing ρ S with
  | zero => omega
  | succ n ih =>
    have z := hs ρ S h0
    unfold whileF
    cases ht : t ρ S with
    | ok b S1 =>
      rw [ht] at z
      cases b with
      | false => rw [WpB_ok, if_neg (by decide)] at z; exact ⟨z⟩
      | true =>
        have z : Ws (forP P (fun ρ' S' => I ρ' S' ∧ μ ρ' S' < μ ρ S)) (f ρ S1) := z.run
        dsimp only
        cases hf : f ρ S1 with
        | nx ρ' S' => rw [hf] at z; exact ih z.run.1 (by have := z.run.2; omega)
        | ct ρ' S' => rw [hf] at z; exact ih z.run.1 (by have := z.run.2; omega)
        | bk ρ' S' => rw [hf] at z; exact ⟨z.run⟩
        | rt a S' => rw [hf] at z; exact ⟨z.run⟩
        | exc x ρ' S' => rw [hf] at z; exact ⟨z.run⟩
        | bad => rw [hf] at z; exact ⟨z.run⟩
    | exc x S1 => rw [ht] at z; exact ⟨z.run⟩
    | bad => rw [ht] at z; exact ⟨z.run⟩
/-! comprehensions -/
def fzQ (Y : D → SS → Prop) : AV → SS → Prop := fun a S => ∃ x S', frz a S = some (x, S') ∧ Y x S'
theorem fzQ_d {Y : D → SS → Prop} {d : D} : fzQ Y (.dat d) S = Y d S := by
  unfold fzQ; rw [frz_d]
  exact propext ⟨fun ⟨x, S', e, h⟩ => by cases e; exact h, fun h => ⟨_, _, rfl, h⟩⟩
theorem fzQ_n {Y : D → SS → Prop} {o : AO} : fzQ Y (.new o) S = Y o.toD S := by
  unfold fzQ; rw [frz_n]
  exact propext ⟨fun ⟨x, S', e, h⟩ => by cases e; exact h, fun h => ⟨_, _, rfl, h⟩⟩
def lcG (t : AE → SS → RB) (e : AE → SS → R) (S : SS) (N : SS → Prop) (Y : D → SS → Prop) : Option AE → Prop
  | some ρ1 => WpB NE (fun b S1 => (b = true → Wp NE (fzQ Y) (e ρ1 S1)) ∧ (b = false → N S1)) (t ρ1 S)
  | none => False
theorem lcG_y {e : AE → SS → R} {N : SS → Prop} {Y : D → SS → Prop} : lcG tY e S N Y (some ρ) = Wp NE (fzQ Y) (e ρ S) := by
  unfold lcG tY
  exact propext ⟨fun h => h.run.1 rfl, fun h => ⟨⟨fun _ => h, fun z => by cases z⟩⟩⟩
theorem lcG_e {t : AE → SS → RB} {e : AE → SS → R} {N : SS → Prop} {Y : D → SS → Prop} : lcG t e S N Y (some ρ) = WpB NE (fun b S1 => (b = true → Wp NE (fzQ Y) (e ρ S1)) ∧ (b = false → N S1)) (t ρ S) := (rfl)
theorem lc_w {g : D → AE → Option AE} {t : AE → SS → RB} {e : AE → SS → R} {ds : List D} (I : Nat → List D → SS → Prop) (hl : ds.length ≤ 16777216) (h0 : I 0 [] S)
    (hs : ∀ k d xs S, ds[k]? = some d → I k xs S → lcG t e S (fun S' => I (k + 1) xs S') (fun x S' => I (k + 1) (xs ++ [x]) S') (g d ρ))
    (hq : ∀ xs S', xs.length ≤ ds.length → I ds.length xs S' → Q (.new (.lst xs)) S') : Wp E Q (eLcJ (lcF g t e ρ ds S)) := by
  have key : ∀ (ds : List D) (I : Nat → List D → SS → Prop) (S : SS) (xs0 : List D), I 0 xs0 S → (∀ k d xs S, ds[k]? = some d → I k xs S → lcG t e S (fun S' => I (k + 1) xs S') (fun x S' => I (k + 1) (xs ++ [x]) S') (g d ρ)) →
      ∃ xs S', lcF g t e ρ ds S = some (xs, S') ∧ xs.length ≤ ds.length ∧ I ds.length (xs0 ++ xs) S' := by
    intro ds
    induction ds with
    | nil => exact fun I S xs0 h _ => ⟨[], S, rfl, Nat.le_refl _, by rw [List.append_nil]; exact h⟩
    | cons d ds ih =>
      intro I S xs0 h hs
      have z := hs 0 d xs0 S rfl h
      rw [lcF]
      cases hg : g d ρ with
      | none => rw [hg] at z; exact z.elim
      | some ρ1 =>
        rw [hg] at z
        dsimp only
        have z : WpB NE _ (t ρ1 S) := z
        cases ht : t ρ1 S with
        | exc x S1 => rw [ht] at z; exact z.run.elim
        | bad => rw [ht] at z; exact z.run.elim
        | ok b S1 =>
          rw [ht] at z
          cases b with
          | false =>
            obtain ⟨xs, S', e1, e2, e3⟩ := ih (fun k => I (k + 1)) S1 xs0 (z.run.2 rfl) (fun k d xs S hk => hs (k + 1) d xs S hk)
            exact ⟨xs, S', e1, Nat.le_succ_of_le e2, e3⟩
          | true =>
            have z := z.run.1 rfl
            dsimp only
            cases he : e ρ1 S1 with
            | exc x S2 => rw [he] at z; exact z.run.elim
            | bad => rw [he] at z; exact z.run.elim
            | ok a S2 =>
              rw [he] at z
              obtain ⟨x, S3, hf, z⟩ := z.run
              dsimp only
              rw [hf]
              dsimp only
              obtain ⟨xs, S', e1, e2, e3⟩ := ih (fun k => I (k + 1)) S3 (xs0 ++ [x]) z (fun k d xs S hk => hs (k + 1) d xs S hk)
              refine ⟨x :: xs, S', by rw [e1], Nat.succ_le_succ e2, ?_⟩
              rw [List.append_assoc] at e3
              exact e3
  obtain ⟨xs, S', e1, e2, e3⟩ := key ds I S [] h0 hs
  rw [e1, eLcJ_e (by omega)]
  exact ⟨hq xs S' e2 e3⟩
def eLcW (vs : List Nat) (g : D → AE → Option AE) (t : AE → SS → RB) (e : AE → SS → R) (ρ : AE) (E : Exn → SS → Prop) (Q : AV → SS → Prop) : List D → SS → Prop := fun ds S => Wp E Q (eLcJ (lcF g t e (wipeA ρ vs) ds S))
theorem eLcW_e {vs : List Nat} {g : D → AE → Option AE} {t : AE → SS → RB} {e : AE → SS → R} {ds : List D} : eLcW vs g t e ρ E Q ds S = Wp E Q (eLcJ (lcF g t e (wipeA ρ vs) ds S)) := (rfl)
theorem Wp_eLcI {vs : List Nat} {g : D → AE → Option AE} {t : AE → SS → RB} {e : AE → SS → R} {r : RI} : Wp E Q (eLcI vs g t e ρ r) = WpI E (eLcW vs g t e ρ E Q) r := by
  cases r with
  | ok ds S => rw [WpI_ok]; rfl
  | exc x S => exact propext ⟨fun h => ⟨h.run⟩, fun h => ⟨h.run⟩⟩
  | bad => exact propext ⟨fun h => ⟨h.run⟩, fun h => ⟨h.run⟩⟩
/-- each item gives one; what it is, is told by one thing of a kind -/
theorem lc_g {α : Type} {g : D → AE → Option AE} {e : AE → SS → R} {ds : List D} (o : α → D) (Pa : Nat → α → Prop) (J : SS → Prop) (hl : ds.length ≤ 16777216) (h0 : J S)
    (hs : ∀ k d S, ds[k]? = some d → J S → lcG tY e S (fun _ => False) (fun x S' => ∃ a, x = o a ∧ Pa k a ∧ J S') (g d ρ))
    (hq : ∀ (as : List α) S', as.length = ds.length → (∀ k a, as[k]? = some a → Pa k a) → J S' → Q (.new (.lst (as.map o))) S') : Wp E Q (eLcJ (lcF g tY e ρ ds S)) := by
  refine lc_w (fun k xs S => ∃ as : List α, xs = as.map o ∧ as.length = k ∧ (∀ k a, as[k]? = some a → Pa k a) ∧ J S) hl ⟨[], rfl, rfl, fun k a h => by simp at h, h0⟩ ?_ ?_
  · rintro k d xs S hk ⟨as, rfl, hal, ha, hj⟩
    have z := hs k d S hk hj
    cases hg : g d ρ with
    | none => rw [hg] at z; exact z.elim
    | some ρ1 =>
      rw [hg, lcG_y] at z
      rw [lcG_y]
      refine z.mono (fun a S' h => ?_) fun _ _ z => z
      obtain ⟨x, S2, hf, a1, rfl, h2, h3⟩ := h
      refine ⟨_, S2, hf, as ++ [a1], by rw [List.map_append]; rfl, by rw [List.length_append, hal]; rfl, fun k' b hb => ?_, h3⟩
      by_cases hlt : k' < as.length
      · rw [List.getElem?_append_left hlt] at hb
        exact ha k' b hb
      · rw [List.getElem?_append_right (by omega)] at hb
        have hz : k' - as.length = 0 := by
          have := (List.getElem?_eq_some_iff.mp hb).1
          simp at this; omega
        rw [hz] at hb
        have hb : some a1 = some b := hb
        cases hb
        have : k' = k := by omega
        subst this; exact h2
  · rintro xs S' _ ⟨as, rfl, hal, ha, hj⟩
    exact hq as S' hal ha hj
/-- a comprehension without effects: each item by a function -/
theorem lc_m {α : Type} {g : D → AE → Option AE} {e : AE → SS → R} (as : List α) (i o : α → D) (hl : as.length ≤ 16777216) (hs : ∀ a ∈ as, lcG tY e S (fun _ => False) (fun x S' => x = o a ∧ S' = S) (g (i a) ρ)) (hq : Q (.new (.lst (as.map o))) S) : Wp E Q (eLcJ (lcF g tY e ρ (as.map i) S)) := by
  refine lc_g (α := D) id (fun k x => ∃ a, as[k]? = some a ∧ x = o a) (fun S' => S' = S) (by rw [List.length_map]; exact hl) rfl ?_ ?_
  · rintro k d S' hk rfl
    rw [List.getElem?_map] at hk
    cases ha : as[k]? with
    | none => rw [ha] at hk; cases hk
    | some a =>
      rw [ha] at hk
      cases hk
      have z := hs a (List.mem_of_getElem? ha)
      cases hg : g (i a) ρ with
      | none => rw [hg] at z; exact z.elim
      | some ρ1 =>
        rw [hg, lcG_y] at z
        rw [lcG_y]
        refine z.mono (fun v S' h => ?_) fun _ _ z => z
        obtain ⟨x, S2, hf, rfl, rfl⟩ := h
        exact ⟨_, _, hf, _, rfl, ⟨a, rfl, rfl⟩, rfl⟩
  · rintro xs S' hxl hx rfl
    have : xs.map id = as.map o := by
      rw [List.map_id]
      refine List.ext_getElem? fun k => ?_
      rw [List.getElem?_map]
      rw [List.length_map] at hxl
      by_cases hk : k < as.length
      · obtain ⟨a, ha, hxa⟩ := hx k xs[k] (List.getElem?_eq_getElem (by omega))
        rw [ha, List.getElem?_eq_getElem (by omega), hxa]; rfl
      · rw [List.getElem?_eq_none (by omega), List.getElem?_eq_none (by omega)]; rfl
    rw [this]
    exact hq
theorem lc_d {g : D → AE → Option AE} {e : AE → SS → R} {ds : List D} (f : D → D) (hl : ds.length ≤ 16777216) (hs : ∀ d ∈ ds, lcG tY e S (fun _ => False) (fun x S' => x = f d ∧ S' = S) (g d ρ)) (hq : Q (.new (.lst (ds.map f))) S) : Wp E Q (eLcJ (lcF g tY e ρ ds S)) := by
  have z := lc_m (E := E) (Q := Q) (g := g) (e := e) (ρ := ρ) (S := S) ds id f hl hs hq
  rw [List.map_id] at z
  exact z
/-- ends with a datum, and leaves nothing -/
def Ret (d : D) (r : R) : Prop := Wp NE (fun a S => a = .dat d ∧ S = []) r
theorem Ret.e {d : D} {r : R} (h : Ret d r) : r = .ok (.dat d) [] := by
  obtain ⟨a, S, e, rfl, rfl⟩ := h.eq
  exact e
end
end Ew

set_option Elab.async false
set_option linter.all false
set_option maxRecDepth 100000
set_option maxHeartbeats 8000000
namespace Ew
open PySem PySem.Spec PyProof.Rows L2
local macro_rules | `(tactic| nomatch "e", $ts,*) => `(tactic| simp only [R_bind_ok, R_bind_exc, R_bind_bad, R_toB_ok, R_toB_exc, R_toB_bad, R_toA_ok, R_toA_exc, R_toA_bad, RA_bind_ok, RA_bind_exc, RA_bind_bad, RA_toR_ok, RA_toR_exc, RA_toR_bad, RA_toI_ok, RA_toI_exc, RA_toI_bad, RB_toR_ok, RB_toR_exc, RB_toR_bad, RB_bind_ok, RB_bind_exc, RB_bind_bad, R_toI_ok, R_toI_exc, R_toI_bad, RO_toR_ok, RO_toR_exc, RO_toR_bad, R_toS_ok, R_toS_exc, R_toS_bad, RB_toS_ok, RB_toS_exc, RB_toS_bad, RI_toS_ok, RI_toS_exc, RI_toS_bad, sSeq_e, SR_seq_nx, SR_seq_rt, SR_seq_bk, SR_seq_ct, SR_seq_exc, SR_seq_bad, sNx_e, sBk_e, sCt_e, sBad_e, sRetN_e, sSet_e, sSetK_e, fz1_d, fz1_o, fz1_n, toD_l, toD_d, toD_f, live_l, live_d, sSetO_e, sSetOK_n, sSetOK_d, sSetOK_o, sDrop_e, sDropK_e, sRet_e, sRetK_e, sIf_e, sIfK_t, sIfK_f, sFor_e, sForK_e, turn_e, turnK_s, gN_e, gT_e, gT_l, gsCons_e, gsK_s, gsNil_e, sPut_e, sPutK1_e, sPutK2_e, sPutK3_e, sPutK4_e, apP_e, apPK_e, apPL_e, sUnp_e, sUnpK_e, sUnpL_e, unpV_d, sUnpM_e, sAug_e, sAugJ_e, sAugK_e, sAugL_e, sAugM_e, clB_0, clB_l, clB_d, clB_f, frz_d, frz_n, frz_o, frzK_e, frzs_nil, frzs_c, frzsK_e, frzsL_e, view_d, view_o, viewK_e, view_n, views_nil, views_c, viewsK_e, viewsL_e, eVar_e, eVarK_d, eVarK_o, eC_e, apR_d, apR_o, ap2_e, ap2V_e, eBin_e, eBinK_e, eBinL_e, tBin_e, tBinK_e, tBinL_e, bl2_e, bl2V_e, blR_e, eUn_e, un1_e, un1V_e, tVal_e, tru_e, truV_e, truW_e, truth_n, truth_b, truth_i, truth_t, truth_l, tNt_e, tNtK_e, tAn_e, tAnK_t, tAnK_f, tO_e, tOK_t, tOK_f, tY_e, eAnd_e, eAndK_t, eAndK_f, eOr_e, eOrK_f, eOrK_t, eNot_e, eNotK_e, eIf_e, eIfK_t, eIfK_f, aNil_e, aCons_e, aConsK_e, aConsL_e, eAp_e, ap_e, apV_e, g1_e, g2_e, eMt_e, eMtK_e, eMtV_e, eMtT_e, eMtL_e, apM_e, apMV_e, m1_e, m0_e, tyD_s, tyD_l, eMt0_e, eMt0K_e, eMt0V_e, eMt0T_e, eMu_e, eMuK_e, eMuV_e, eMuT_e, eMuL_e, tyO_l, tyO_d, apU_e, apUK_e, apUL_e, apUM_e, u1_e, u0_e, eMu0_e, eMu0K_e, eMu0V_e, eMu0T_e, eTup_e, eLst_e, mkT_e, mkL_e, mkTK_0, mkLK_0, mkTK_1, mkLK_1, mkTK_2, mkLK_2, mkTK_3, mkLK_3, mkTK_4, mkLK_4, mkTK_5, mkLK_5, mkTK_6, mkLK_6, mkTK_7, mkLK_7, mkTK_8, mkLK_8, oNone_e, oSome_e, oSomeK_e, eSl_e, eSlK_e, eSlL_e, eSlM_e, apS_e, apSV_e, iSeq_e, iSeqK_e, iSeqV_e, iSeqL_e, items_l, items_t, items_s, iRange_e, gAdd_ii, gSub_ii, gNeg_i, gAbs_i, gInt_i, gLt_ii, gLt_ss, gLe_ii, gLe_ss, gGt_ii, gGt_ss, gGe_ii, gGe_ss, gEq_ii, gNe_ii, gEq_ss, gNe_ss, gLen_l, gLen_t, gList_s, gList_l, gList_t, gTuple_l, gTuple_t, gIx_l, gIx_t, optD_e, atI_lit, gSet_l, gSetLK_e, List.getElem?_cons_zero, List.getElem?_cons_succ, List.getElem?_nil, List.set_cons_zero, List.set_cons_succ, List.length_cons, List.length_nil, List.map_cons, List.map_nil, List.cons_append, List.nil_append, Nat.zero_add, Nat.add_zero, Nat.reduceAdd, Nat.reduceSub, Nat.sub_self, Nat.reduceLT, Nat.reduceLeDiff, Int.reduceLT, Int.reduceLE, Int.reduceNeg, Int.reduceEq, decide_true, decide_false, ixN_lit, List.set_nil, List.replicate, Int.reduceAdd, Int.reduceSub, reduceCtorEq, Bool.not_true, Bool.not_false, List.take_succ_cons, List.take_zero, List.take_nil, retS, cutR, cutX, clB_ao, $[$ts:term],*])
local macro_rules | `(tactic| nomatch "e") => `(tactic| simp only [R_bind_ok, R_bind_exc, R_bind_bad, R_toB_ok, R_toB_exc, R_toB_bad, R_toA_ok, R_toA_exc, R_toA_bad, RA_bind_ok, RA_bind_exc, RA_bind_bad, RA_toR_ok, RA_toR_exc, RA_toR_bad, RA_toI_ok, RA_toI_exc, RA_toI_bad, RB_toR_ok, RB_toR_exc, RB_toR_bad, RB_bind_ok, RB_bind_exc, RB_bind_bad, R_toI_ok, R_toI_exc, R_toI_bad, RO_toR_ok, RO_toR_exc, RO_toR_bad, R_toS_ok, R_toS_exc, R_toS_bad, RB_toS_ok, RB_toS_exc, RB_toS_bad, RI_toS_ok, RI_toS_exc, RI_toS_bad, sSeq_e, SR_seq_nx, SR_seq_rt, SR_seq_bk, SR_seq_ct, SR_seq_exc, SR_seq_bad, sNx_e, sBk_e, sCt_e, sBad_e, sRetN_e, sSet_e, sSetK_e, fz1_d, fz1_o, fz1_n, toD_l, toD_d, toD_f, live_l, live_d, sSetO_e, sSetOK_n, sSetOK_d, sSetOK_o, sDrop_e, sDropK_e, sRet_e, sRetK_e, sIf_e, sIfK_t, sIfK_f, sFor_e, sForK_e, turn_e, turnK_s, gN_e, gT_e, gT_l, gsCons_e, gsK_s, gsNil_e, sPut_e, sPutK1_e, sPutK2_e, sPutK3_e, sPutK4_e, apP_e, apPK_e, apPL_e, sUnp_e, sUnpK_e, sUnpL_e, unpV_d, sUnpM_e, sAug_e, sAugJ_e, sAugK_e, sAugL_e, sAugM_e, clB_0, clB_l, clB_d, clB_f, frz_d, frz_n, frz_o, frzK_e, frzs_nil, frzs_c, frzsK_e, frzsL_e, view_d, view_o, viewK_e, view_n, views_nil, views_c, viewsK_e, viewsL_e, eVar_e, eVarK_d, eVarK_o, eC_e, apR_d, apR_o, ap2_e, ap2V_e, eBin_e, eBinK_e, eBinL_e, tBin_e, tBinK_e, tBinL_e, bl2_e, bl2V_e, blR_e, eUn_e, un1_e, un1V_e, tVal_e, tru_e, truV_e, truW_e, truth_n, truth_b, truth_i, truth_t, truth_l, tNt_e, tNtK_e, tAn_e, tAnK_t, tAnK_f, tO_e, tOK_t, tOK_f, tY_e, eAnd_e, eAndK_t, eAndK_f, eOr_e, eOrK_f, eOrK_t, eNot_e, eNotK_e, eIf_e, eIfK_t, eIfK_f, aNil_e, aCons_e, aConsK_e, aConsL_e, eAp_e, ap_e, apV_e, g1_e, g2_e, eMt_e, eMtK_e, eMtV_e, eMtT_e, eMtL_e, apM_e, apMV_e, m1_e, m0_e, tyD_s, tyD_l, eMt0_e, eMt0K_e, eMt0V_e, eMt0T_e, eMu_e, eMuK_e, eMuV_e, eMuT_e, eMuL_e, tyO_l, tyO_d, apU_e, apUK_e, apUL_e, apUM_e, u1_e, u0_e, eMu0_e, eMu0K_e, eMu0V_e, eMu0T_e, eTup_e, eLst_e, mkT_e, mkL_e, mkTK_0, mkLK_0, mkTK_1, mkLK_1, mkTK_2, mkLK_2, mkTK_3, mkLK_3, mkTK_4, mkLK_4, mkTK_5, mkLK_5, mkTK_6, mkLK_6, mkTK_7, mkLK_7, mkTK_8, mkLK_8, oNone_e, oSome_e, oSomeK_e, eSl_e, eSlK_e, eSlL_e, eSlM_e, apS_e, apSV_e, iSeq_e, iSeqK_e, iSeqV_e, iSeqL_e, items_l, items_t, items_s, iRange_e, gAdd_ii, gSub_ii, gNeg_i, gAbs_i, gInt_i, gLt_ii, gLt_ss, gLe_ii, gLe_ss, gGt_ii, gGt_ss, gGe_ii, gGe_ss, gEq_ii, gNe_ii, gEq_ss, gNe_ss, gLen_l, gLen_t, gList_s, gList_l, gList_t, gTuple_l, gTuple_t, gIx_l, gIx_t, optD_e, atI_lit, gSet_l, gSetLK_e, List.getElem?_cons_zero, List.getElem?_cons_succ, List.getElem?_nil, List.set_cons_zero, List.set_cons_succ, List.length_cons, List.length_nil, List.map_cons, List.map_nil, List.cons_append, List.nil_append, Nat.zero_add, Nat.add_zero, Nat.reduceAdd, Nat.reduceSub, Nat.sub_self, Nat.reduceLT, Nat.reduceLeDiff, Int.reduceLT, Int.reduceLE, Int.reduceNeg, Int.reduceEq, decide_true, decide_false, ixN_lit, List.set_nil, List.replicate, Int.reduceAdd, Int.reduceSub, reduceCtorEq, Bool.not_true, Bool.not_false, List.take_succ_cons, List.take_zero, List.take_nil, retS, cutR, cutX, clB_ao])

/-! ### checks of data -/
def b_is_tuple : AE → SS → SR :=
(sRet (eAnd (eAp (g2 gIsi) (aCons (eVar 0) (aCons (eC (.ty "tuple")) aNil))) (eBin gEq (eAp (g1 gLen) (aCons (eVar 0) aNil)) (eVar 1))))
def m_is_tuple : List AV → SS → R := runF 2 b_is_tuple
def b_is_integer : AE → SS → SR :=
(sRet (eAnd (eAp (g2 gIsi) (aCons (eVar 0) (aCons (eC (.ty "int")) aNil))) (eNot (eAp (g2 gIsi) (aCons (eVar 0) (aCons (eC (.ty "bool")) aNil))))))
def m_is_integer : List AV → SS → R := runF 1 b_is_integer
def b_is_count : AE → SS → SR :=
(sRet (eAnd (eCall 1 m_is_integer (aCons (eVar 0) aNil)) (eBin gGe (eVar 0) (eC (.int 0)))))
def m_is_count : List AV → SS → R := runF 1 b_is_count
def b_are_counts : AE → SS → SR :=
(sRet (eAnd (eCall 2 m_is_tuple (aCons (eVar 0) (aCons (eVar 1) aNil))) (eAp (g1 gAll) (aCons (eLc (([("item", 2)] : List (Str × Nat)).map (·.2)) (iSeq (eVar 0)) (gN 2) tY (eCall 1 m_is_count (aCons (eVar 2) aNil))) aNil))))
def m_are_counts : List AV → SS → R := runF 3 b_are_counts
def b_are_integers : AE → SS → SR :=
(sRet (eAnd (eCall 2 m_is_tuple (aCons (eVar 0) (aCons (eVar 1) aNil))) (eAp (g1 gAll) (aCons (eLc (([("item", 2)] : List (Str × Nat)).map (·.2)) (iSeq (eVar 0)) (gN 2) tY (eCall 1 m_is_integer (aCons (eVar 2) aNil))) aNil))))
def m_are_integers : List AV → SS → R := runF 3 b_are_integers
def b_law_are_counts : AE → SS → SR :=
(sRet (eAnd (eAp (g2 gIsi) (aCons (eVar 0) (aCons (eC (.ty "tuple")) aNil))) (eAnd (eBin gEq (eAp (g1 gLen) (aCons (eVar 0) aNil)) (eVar 1)) (eAp (g1 gAll) (aCons (eLc (([("x", 2)] : List (Str × Nat)).map (·.2)) (iSeq (eVar 0)) (gN 2) tY (eCall 1 m_is_count (aCons (eVar 2) aNil))) aNil)))))
def m_law_are_counts : List AV → SS → R := runF 3 b_law_are_counts
def b_law_are_ints : AE → SS → SR :=
(sRet (eAnd (eAp (g2 gIsi) (aCons (eVar 0) (aCons (eC (.ty "tuple")) aNil))) (eAnd (eBin gEq (eAp (g1 gLen) (aCons (eVar 0) aNil)) (eVar 1)) (eAp (g1 gAll) (aCons (eLc (([("x", 2)] : List (Str × Nat)).map (·.2)) (iSeq (eVar 0)) (gN 2) tY (eCall 1 m_is_integer (aCons (eVar 2) aNil))) aNil)))))
def m_law_are_ints : List AV → SS → R := runF 3 b_law_are_ints

theorem iZip_e {f : AE → SS → RA} {ρ : AE} {S : SS} : iZip f ρ S = RA.toI (f ρ S) iZipR := (rfl)
theorem iZipR_e {as : List AV} {S : SS} : iZipR as S = iZipK (frzs as S) := (rfl)
theorem iZipK_l {ds es : List D} {S : SS} : iZipK (some ([.lst ds, .lst es], S)) = .ok (zipD ds es) S := (rfl)
theorem iZipK_t {ds es : List D} {S : SS} : iZipK (some ([.tup ds, .tup es], S)) = .ok (zipD ds es) S := (rfl)
theorem iZipK_lt {ds es : List D} {S : SS} : iZipK (some ([.lst ds, .tup es], S)) = .ok (zipD ds es) S := (rfl)
theorem iZipK_tl {ds es : List D} {S : SS} : iZipK (some ([.tup ds, .lst es], S)) = .ok (zipD ds es) S := (rfl)
/-- what the cases are made of -/
inductive Pl : D → Prop where
  | int (i : Int) : Pl (.int i)
  | str (s : Str) : Pl (.str s)
  | tup (ds : List D) : Pl (.tup ds)
def isID : D → Bool
  | .int _ => true
  | _ => false
def cntD : D → Bool
  | .int i => decide (0 ≤ i)
  | _ => false
def cntsD (n : Nat) : D → Bool
  | .tup ds => decide (((ds.length : Nat) : Int) = (n : Nat)) && ds.all cntD
  | _ => false
def intzD (n : Nat) : D → Bool
  | .tup ds => decide (((ds.length : Nat) : Int) = (n : Nat)) && ds.all isID
  | _ => false
def Pls : D → Prop
  | .tup ds => ds.length ≤ 1000 ∧ ∀ d ∈ ds, Pl d
  | .int _ => True
  | .str _ => True
  | _ => False
theorem is_str_int {s : Str} : gIsi (.str s) (.ty "int") = some (.dt (.bl false)) := rfl
theorem is_tup_int {ds : List D} : gIsi (.tup ds) (.ty "int") = some (.dt (.bl false)) := rfl
theorem is_str_bool {s : Str} : gIsi (.str s) (.ty "bool") = some (.dt (.bl false)) := rfl
theorem is_integer_ok {d : D} (h : Pl d) : m_is_integer [.dat d] [] = .ok (.dat (.bl (isID d))) [] := by
  unfold m_is_integer b_is_integer runF
  cases h
  · nomatch "e", isT_ii, isT_ib; rfl
  · nomatch "e", is_str_int; rfl
  · nomatch "e", is_tup_int; rfl
theorem is_count_ok {d : D} (h : Pl d) : m_is_count [.dat d] [] = .ok (.dat (.bl (cntD d))) [] := by
  unfold m_is_count b_is_count runF
  have z := is_integer_ok h
  have c := fun (f : AE → SS → RA) (ρ : AE) (S : SS) => call_d1 (f := f) (ρ := ρ) (S := S) z
  cases h
  · nomatch "e", c, isID; rfl
  · nomatch "e", c, isID; rfl
  · nomatch "e", c, isID; rfl
theorem blsD_map {α : Type} (as : List α) (p : α → Bool) : blsD (as.map fun a => D.bl (p a)) = some (as.map p) := by
  induction as with
  | nil => rfl
  | cons a as ih => rw [List.map_cons, List.map_cons, blsD, ih]
theorem gAll_map {α : Type} (as : List α) (p : α → Bool) : gAll (.lst (as.map fun a => D.bl (p a))) = some (.dt (.bl (as.all p))) := by
  dsimp only [gAll]
  rw [blsD_map]
  dsimp only
  rw [List.all_map]
  rfl
theorem is_tuple_t {ds : List D} {n : Nat} : m_is_tuple [.dat (.tup ds), .dat (.int (n : Nat))] [] = .ok (.dat (.bl (decide (((ds.length : Nat) : Int) = (n : Nat))))) [] := by
  unfold m_is_tuple b_is_tuple runF
  nomatch "e", isT_tt
theorem is_tuple_i {i : Int} {n : Nat} : m_is_tuple [.dat (.int i), .dat (.int (n : Nat))] [] = .ok (.dat (.bl false)) [] := by
  unfold m_is_tuple b_is_tuple runF
  nomatch "e", isT_it
theorem is_tuple_s {i : Str} {n : Nat} : m_is_tuple [.dat (.str i), .dat (.int (n : Nat))] [] = .ok (.dat (.bl false)) [] := by
  unfold m_is_tuple b_is_tuple runF
  nomatch "e", isT_st
theorem lc_pred {ρ0 : AE} {S : SS} {i n : Nat} {F : List AV → SS → R} {p : D → Bool} (hF : ∀ d, Pl d → F [.dat d] [] = .ok (.dat (.bl (p d))) []) {ds : List D} (h : ∀ d ∈ ds, Pl d) (hi : ∀ d, (ρ0.set i (some (.dat d)))[i]? = some (some (.dat d))) :
    lcF (gN i) tY (eCall 1 F (aCons (eVar i) aNil)) ρ0 ds S = some (ds.map fun d => D.bl (p d), S) := by
  have z := lcF_map (g := gN i) (e := eCall 1 F (aCons (eVar i) aNil)) (ρ0 := ρ0) (S := S) ds (fun d => d) (fun d => .bl (p d)) (fun d => ρ0.set i (some (.dat d))) (fun _ _ => rfl) (fun d hd => call_d1 (hF d (h d hd)) (by nomatch "e", hi))
  rw [List.map_id'] at z
  exact z
theorem are_counts_ok {d : D} (h : Pls d) {n : Nat} : m_are_counts [.dat d, .dat (.int (n : Nat))] [] = .ok (.dat (.bl (cntsD n d))) [] := by
  unfold m_are_counts b_are_counts runF
  cases d with
  | int i =>
    have c := fun (f : AE → SS → RA) (ρ : AE) (S : SS) => call_d2 (f := f) (ρ := ρ) (S := S) (is_tuple_i (i := i) (n := n))
    nomatch "e", c; rfl
  | str i =>
    have c := fun (f : AE → SS → RA) (ρ : AE) (S : SS) => call_d2 (f := f) (ρ := ρ) (S := S) (is_tuple_s (i := i) (n := n))
    nomatch "e", c; rfl
  | tup ds =>
    have c := fun (f : AE → SS → RA) (ρ : AE) (S : SS) => call_d2 (f := f) (ρ := ρ) (S := S) (is_tuple_t (ds := ds) (n := n))
    have lc := lc_pred (ρ0 := [some (.dat (.tup ds)), some (.dat (.int (n : Nat))), none]) (S := []) (i := 2) (n := 0) (F := m_is_count) (p := cntD) (fun d hd => is_count_ok hd) h.2 (fun d => rfl)
    have gl := gAll_map ds cntD
    have hlen : (ds.map fun d => D.bl (cntD d)).length ≤ 16777216 := by have := h.1; rw [List.length_map]; omega
    by_cases hn : ((ds.length : Nat) : Int) = (n : Nat)
    · nomatch "e", c, hn, eLc_e, eLcI_e, wipeA_nil, wipeA_c, lc, eLcJ_e hlen, gl, cntsD, Bool.true_and
    · nomatch "e", c, hn, cntsD, Bool.false_and
  | _ => exact h.elim
theorem are_integers_ok {d : D} (h : Pls d) {n : Nat} : m_are_integers [.dat d, .dat (.int (n : Nat))] [] = .ok (.dat (.bl (intzD n d))) [] := by
  unfold m_are_integers b_are_integers runF
  cases d with
  | int i =>
    have c := fun (f : AE → SS → RA) (ρ : AE) (S : SS) => call_d2 (f := f) (ρ := ρ) (S := S) (is_tuple_i (i := i) (n := n))
    nomatch "e", c; rfl
  | str i =>
    have c := fun (f : AE → SS → RA) (ρ : AE) (S : SS) => call_d2 (f := f) (ρ := ρ) (S := S) (is_tuple_s (i := i) (n := n))
    nomatch "e", c; rfl
  | tup ds =>
    have c := fun (f : AE → SS → RA) (ρ : AE) (S : SS) => call_d2 (f := f) (ρ := ρ) (S := S) (is_tuple_t (ds := ds) (n := n))
    have lc := lc_pred (ρ0 := [some (.dat (.tup ds)), some (.dat (.int (n : Nat))), none]) (S := []) (i := 2) (n := 0) (F := m_is_integer) (p := isID) (fun d hd => is_integer_ok hd) h.2 (fun d => rfl)
    have gl := gAll_map ds isID
    have hlen : (ds.map fun d => D.bl (isID d)).length ≤ 16777216 := by have := h.1; rw [List.length_map]; omega
    by_cases hn : ((ds.length : Nat) : Int) = (n : Nat)
    · nomatch "e", c, hn, eLc_e, eLcI_e, wipeA_nil, wipeA_c, lc, eLcJ_e hlen, gl, intzD, Bool.true_and
    · nomatch "e", c, hn, intzD, Bool.false_and
  | _ => exact h.elim
theorem law_are_counts_ok {d : D} (h : Pls d) {n : Nat} : m_law_are_counts [.dat d, .dat (.int (n : Nat))] [] = .ok (.dat (.bl (cntsD n d))) [] := by
  unfold m_law_are_counts b_law_are_counts runF
  cases d with
  | int i => nomatch "e", isT_it; rfl
  | str i => nomatch "e", isT_st; rfl
  | tup ds =>
    have lc := lc_pred (ρ0 := [some (.dat (.tup ds)), some (.dat (.int (n : Nat))), none]) (S := []) (i := 2) (n := 0) (F := m_is_count) (p := cntD) (fun d hd => is_count_ok hd) h.2 (fun d => rfl)
    have gl := gAll_map ds cntD
    have hlen : (ds.map fun d => D.bl (cntD d)).length ≤ 16777216 := by have := h.1; rw [List.length_map]; omega
    by_cases hn : ((ds.length : Nat) : Int) = (n : Nat)
    · nomatch "e", isT_tt, hn, eLc_e, eLcI_e, wipeA_nil, wipeA_c, lc, eLcJ_e hlen, gl, cntsD, Bool.true_and
    · nomatch "e", isT_tt, hn, cntsD, Bool.false_and
  | _ => exact h.elim
theorem law_are_ints_ok {d : D} (h : Pls d) {n : Nat} : m_law_are_ints [.dat d, .dat (.int (n : Nat))] [] = .ok (.dat (.bl (intzD n d))) [] := by
  unfold m_law_are_ints b_law_are_ints runF
  cases d with
  | int i => nomatch "e", isT_it; rfl
  | str i => nomatch "e", isT_st; rfl
  | tup ds =>
    have lc := lc_pred (ρ0 := [some (.dat (.tup ds)), some (.dat (.int (n : Nat))), none]) (S := []) (i := 2) (n := 0) (F := m_is_integer) (p := isID) (fun d hd => is_integer_ok hd) h.2 (fun d => rfl)
    have gl := gAll_map ds isID
    have hlen : (ds.map fun d => D.bl (isID d)).length ≤ 16777216 := by have := h.1; rw [List.length_map]; omega
    by_cases hn : ((ds.length : Nat) : Int) = (n : Nat)
    · nomatch "e", isT_tt, hn, eLc_e, eLcI_e, wipeA_nil, wipeA_c, lc, eLcJ_e hlen, gl, intzD, Bool.true_and
    · nomatch "e", isT_tt, hn, intzD, Bool.false_and
  | _ => exact h.elim
end Ew

set_option Elab.async false
set_option linter.all false
set_option maxRecDepth 100000
set_option maxHeartbeats 8000000
namespace Ew
open PySem PySem.Spec PyProof.Rows L2
local macro_rules | `(tactic| nomatch "e", $ts,*) => `(tactic| simp only [R_bind_ok, R_bind_exc, R_bind_bad, R_toB_ok, R_toB_exc, R_toB_bad, R_toA_ok, R_toA_exc, R_toA_bad, RA_bind_ok, RA_bind_exc, RA_bind_bad, RA_toR_ok, RA_toR_exc, RA_toR_bad, RA_toI_ok, RA_toI_exc, RA_toI_bad, RB_toR_ok, RB_toR_exc, RB_toR_bad, RB_bind_ok, RB_bind_exc, RB_bind_bad, R_toI_ok, R_toI_exc, R_toI_bad, RO_toR_ok, RO_toR_exc, RO_toR_bad, R_toS_ok, R_toS_exc, R_toS_bad, RB_toS_ok, RB_toS_exc, RB_toS_bad, RI_toS_ok, RI_toS_exc, RI_toS_bad, sSeq_e, SR_seq_nx, SR_seq_rt, SR_seq_bk, SR_seq_ct, SR_seq_exc, SR_seq_bad, sNx_e, sBk_e, sCt_e, sBad_e, sRetN_e, sSet_e, sSetK_e, fz1_d, fz1_o, fz1_n, toD_l, toD_d, toD_f, live_l, live_d, sSetO_e, sSetOK_n, sSetOK_d, sSetOK_o, sDrop_e, sDropK_e, sRet_e, sRetK_e, sIf_e, sIfK_t, sIfK_f, sFor_e, sForK_e, turn_e, turnK_s, gN_e, gT_e, gT_l, gsCons_e, gsK_s, gsNil_e, sPut_e, sPutK1_e, sPutK2_e, sPutK3_e, sPutK4_e, apP_e, apPK_e, apPL_e, sUnp_e, sUnpK_e, sUnpL_e, unpV_d, sUnpM_e, sAug_e, sAugJ_e, sAugK_e, sAugL_e, sAugM_e, clB_0, clB_l, clB_d, clB_f, frz_d, frz_n, frz_o, frzK_e, frzs_nil, frzs_c, frzsK_e, frzsL_e, view_d, view_o, viewK_e, view_n, views_nil, views_c, viewsK_e, viewsL_e, eVar_e, eVarK_d, eVarK_o, eC_e, apR_d, apR_o, ap2_e, ap2V_e, eBin_e, eBinK_e, eBinL_e, tBin_e, tBinK_e, tBinL_e, bl2_e, bl2V_e, blR_e, eUn_e, un1_e, un1V_e, tVal_e, tru_e, truV_e, truW_e, truth_n, truth_b, truth_i, truth_t, truth_l, tNt_e, tNtK_e, tAn_e, tAnK_t, tAnK_f, tO_e, tOK_t, tOK_f, tY_e, eAnd_e, eAndK_t, eAndK_f, eOr_e, eOrK_f, eOrK_t, eNot_e, eNotK_e, eIf_e, eIfK_t, eIfK_f, aNil_e, aCons_e, aConsK_e, aConsL_e, eAp_e, ap_e, apV_e, g1_e, g2_e, eMt_e, eMtK_e, eMtV_e, eMtT_e, eMtL_e, apM_e, apMV_e, m1_e, m0_e, tyD_s, tyD_l, eMt0_e, eMt0K_e, eMt0V_e, eMt0T_e, eMu_e, eMuK_e, eMuV_e, eMuT_e, eMuL_e, tyO_l, tyO_d, apU_e, apUK_e, apUL_e, apUM_e, u1_e, u0_e, eMu0_e, eMu0K_e, eMu0V_e, eMu0T_e, eTup_e, eLst_e, mkT_e, mkL_e, mkTK_0, mkLK_0, mkTK_1, mkLK_1, mkTK_2, mkLK_2, mkTK_3, mkLK_3, mkTK_4, mkLK_4, mkTK_5, mkLK_5, mkTK_6, mkLK_6, mkTK_7, mkLK_7, mkTK_8, mkLK_8, oNone_e, oSome_e, oSomeK_e, eSl_e, eSlK_e, eSlL_e, eSlM_e, apS_e, apSV_e, iSeq_e, iSeqK_e, iSeqV_e, iSeqL_e, items_l, items_t, items_s, iRange_e, gAdd_ii, gSub_ii, gNeg_i, gAbs_i, gInt_i, gLt_ii, gLt_ss, gLe_ii, gLe_ss, gGt_ii, gGt_ss, gGe_ii, gGe_ss, gEq_ii, gNe_ii, gEq_ss, gNe_ss, gLen_l, gLen_t, gList_s, gList_l, gList_t, gTuple_l, gTuple_t, gIx_l, gIx_t, optD_e, atI_lit, gSet_l, gSetLK_e, List.getElem?_cons_zero, List.getElem?_cons_succ, List.getElem?_nil, List.set_cons_zero, List.set_cons_succ, List.length_cons, List.length_nil, List.map_cons, List.map_nil, List.cons_append, List.nil_append, Nat.zero_add, Nat.add_zero, Nat.reduceAdd, Nat.reduceSub, Nat.sub_self, Nat.reduceLT, Nat.reduceLeDiff, Int.reduceLT, Int.reduceLE, Int.reduceNeg, Int.reduceEq, decide_true, decide_false, ixN_lit, List.set_nil, List.replicate, Int.reduceAdd, Int.reduceSub, reduceCtorEq, Bool.not_true, Bool.not_false, List.take_succ_cons, List.take_zero, List.take_nil, retS, cutR, cutX, clB_ao, $[$ts:term],*])
local macro_rules | `(tactic| nomatch "e") => `(tactic| simp only [R_bind_ok, R_bind_exc, R_bind_bad, R_toB_ok, R_toB_exc, R_toB_bad, R_toA_ok, R_toA_exc, R_toA_bad, RA_bind_ok, RA_bind_exc, RA_bind_bad, RA_toR_ok, RA_toR_exc, RA_toR_bad, RA_toI_ok, RA_toI_exc, RA_toI_bad, RB_toR_ok, RB_toR_exc, RB_toR_bad, RB_bind_ok, RB_bind_exc, RB_bind_bad, R_toI_ok, R_toI_exc, R_toI_bad, RO_toR_ok, RO_toR_exc, RO_toR_bad, R_toS_ok, R_toS_exc, R_toS_bad, RB_toS_ok, RB_toS_exc, RB_toS_bad, RI_toS_ok, RI_toS_exc, RI_toS_bad, sSeq_e, SR_seq_nx, SR_seq_rt, SR_seq_bk, SR_seq_ct, SR_seq_exc, SR_seq_bad, sNx_e, sBk_e, sCt_e, sBad_e, sRetN_e, sSet_e, sSetK_e, fz1_d, fz1_o, fz1_n, toD_l, toD_d, toD_f, live_l, live_d, sSetO_e, sSetOK_n, sSetOK_d, sSetOK_o, sDrop_e, sDropK_e, sRet_e, sRetK_e, sIf_e, sIfK_t, sIfK_f, sFor_e, sForK_e, turn_e, turnK_s, gN_e, gT_e, gT_l, gsCons_e, gsK_s, gsNil_e, sPut_e, sPutK1_e, sPutK2_e, sPutK3_e, sPutK4_e, apP_e, apPK_e, apPL_e, sUnp_e, sUnpK_e, sUnpL_e, unpV_d, sUnpM_e, sAug_e, sAugJ_e, sAugK_e, sAugL_e, sAugM_e, clB_0, clB_l, clB_d, clB_f, frz_d, frz_n, frz_o, frzK_e, frzs_nil, frzs_c, frzsK_e, frzsL_e, view_d, view_o, viewK_e, view_n, views_nil, views_c, viewsK_e, viewsL_e, eVar_e, eVarK_d, eVarK_o, eC_e, apR_d, apR_o, ap2_e, ap2V_e, eBin_e, eBinK_e, eBinL_e, tBin_e, tBinK_e, tBinL_e, bl2_e, bl2V_e, blR_e, eUn_e, un1_e, un1V_e, tVal_e, tru_e, truV_e, truW_e, truth_n, truth_b, truth_i, truth_t, truth_l, tNt_e, tNtK_e, tAn_e, tAnK_t, tAnK_f, tO_e, tOK_t, tOK_f, tY_e, eAnd_e, eAndK_t, eAndK_f, eOr_e, eOrK_f, eOrK_t, eNot_e, eNotK_e, eIf_e, eIfK_t, eIfK_f, aNil_e, aCons_e, aConsK_e, aConsL_e, eAp_e, ap_e, apV_e, g1_e, g2_e, eMt_e, eMtK_e, eMtV_e, eMtT_e, eMtL_e, apM_e, apMV_e, m1_e, m0_e, tyD_s, tyD_l, eMt0_e, eMt0K_e, eMt0V_e, eMt0T_e, eMu_e, eMuK_e, eMuV_e, eMuT_e, eMuL_e, tyO_l, tyO_d, apU_e, apUK_e, apUL_e, apUM_e, u1_e, u0_e, eMu0_e, eMu0K_e, eMu0V_e, eMu0T_e, eTup_e, eLst_e, mkT_e, mkL_e, mkTK_0, mkLK_0, mkTK_1, mkLK_1, mkTK_2, mkLK_2, mkTK_3, mkLK_3, mkTK_4, mkLK_4, mkTK_5, mkLK_5, mkTK_6, mkLK_6, mkTK_7, mkLK_7, mkTK_8, mkLK_8, oNone_e, oSome_e, oSomeK_e, eSl_e, eSlK_e, eSlL_e, eSlM_e, apS_e, apSV_e, iSeq_e, iSeqK_e, iSeqV_e, iSeqL_e, items_l, items_t, items_s, iRange_e, gAdd_ii, gSub_ii, gNeg_i, gAbs_i, gInt_i, gLt_ii, gLt_ss, gLe_ii, gLe_ss, gGt_ii, gGt_ss, gGe_ii, gGe_ss, gEq_ii, gNe_ii, gEq_ss, gNe_ss, gLen_l, gLen_t, gList_s, gList_l, gList_t, gTuple_l, gTuple_t, gIx_l, gIx_t, optD_e, atI_lit, gSet_l, gSetLK_e, List.getElem?_cons_zero, List.getElem?_cons_succ, List.getElem?_nil, List.set_cons_zero, List.set_cons_succ, List.length_cons, List.length_nil, List.map_cons, List.map_nil, List.cons_append, List.nil_append, Nat.zero_add, Nat.add_zero, Nat.reduceAdd, Nat.reduceSub, Nat.sub_self, Nat.reduceLT, Nat.reduceLeDiff, Int.reduceLT, Int.reduceLE, Int.reduceNeg, Int.reduceEq, decide_true, decide_false, ixN_lit, List.set_nil, List.replicate, Int.reduceAdd, Int.reduceSub, reduceCtorEq, Bool.not_true, Bool.not_false, List.take_succ_cons, List.take_zero, List.take_nil, retS, cutR, cutX, clB_ao])

/-! ### plain data and their equality -/
inductive PD : Nat → D → Prop where
  | int (n : Nat) (i : Int) : PD n (.int i)
  | str (n : Nat) (s : Str) : PyData.strOk s = true → PD n (.str s)
  | tup (n : Nat) (ds : List D) : (∀ d ∈ ds, PD n d) → PD (n + 1) (.tup ds)
  | lst (n : Nat) (ds : List D) : (∀ d ∈ ds, PD n d) → PD (n + 1) (.lst ds)
theorem PD.up {n : Nat} {d : D} (h : PD n d) : ∀ {m : Nat}, n ≤ m → PD m d := by
  induction h with
  | int n i => exact fun _ => .int _ i
  | str n s h => exact fun _ => .str _ s h
  | tup n ds h ih =>
    intro m hm
    cases m with
    | zero => omega
    | succ m => exact .tup _ _ fun d hd => ih d hd (by omega)
  | lst n ds h ih =>
    intro m hm
    cases m with
    | zero => omega
    | succ m => exact .lst _ _ fun d hd => ih d hd (by omega)
theorem pys_map : ∀ ds : List D, pys ds = ds.map py
  | [] => rfl
  | d :: ds => by rw [pys, pys_map ds]; rfl
theorem canAll (ds : List D) (h : ∀ d ∈ ds, (py d).canLay0 = true) : PyData.canLayAll0 (pys ds) = true := by
  induction ds with
  | nil => rfl
  | cons d ds ih =>
    rw [pys, PyData.canLayAll0, h d (List.mem_cons_self ..), ih fun d hd => h d (List.mem_cons_of_mem _ hd)]; rfl
theorem depAll (n : Nat) (ds : List D) (h : ∀ d ∈ ds, (py d).depth ≤ n) : PyData.depthAll (pys ds) ≤ n := by
  induction ds with
  | nil => exact Nat.zero_le _
  | cons d ds ih =>
    rw [pys, PyData.depthAll]
    exact Nat.max_le.mpr ⟨h d (List.mem_cons_self ..), ih fun d hd => h d (List.mem_cons_of_mem _ hd)⟩
theorem PD.can {n : Nat} {d : D} (h : PD n d) : (py d).canLay0 = true := by
  induction h with
  | int n i => rfl
  | str n s h => exact h
  | tup n ds h ih => exact canAll ds ih
  | lst n ds h ih => exact canAll ds ih
theorem PD.dep {n : Nat} {d : D} (h : PD n d) : (py d).depth ≤ n := by
  induction h with
  | int n i => exact Nat.zero_le _
  | str n s h => exact Nat.zero_le _
  | tup n ds h ih => exact Nat.succ_le_succ (depAll n ds ih)
  | lst n ds h ih => exact Nat.succ_le_succ (depAll n ds ih)
theorem PD.shaped {n : Nat} {d : D} (h : PD n d) (hn : n ≤ 64) : SeqAt.shaped (py d) = true := by
  unfold SeqAt.shaped
  rw [h.can, decide_eq_true (Nat.le_trans h.dep hn)]; rfl
theorem str_beq {s t : Str} : (s == t) = decide (s = t) := by
  by_cases e : s = t
  · subst e
    rw [decide_eq_true rfl]
    exact beq_self_eq_true _
  · rw [decide_eq_false e]
    exact beq_false_of_ne e
mutual
theorem eqv_pd : ∀ {n m : Nat} {d e : D}, PD n d → PD m e → (PyData.eqv (py d) (py e) = true ↔ d = e)
  | _, _, _, _, .int _ i, .int _ j => by
    show (i == j) = true ↔ _
    rw [beq_iff_eq]
    exact ⟨fun h => by rw [h], fun h => by cases h; rfl⟩
  | _, _, _, _, .str _ i _, .str _ j _ => by
    show (i == j) = true ↔ _
    rw [str_beq, decide_eq_true_eq]
    exact ⟨fun h => by rw [h], fun h => by cases h; rfl⟩
  | _, _, _, _, .tup _ ds h, .tup _ es h2 => by
    show PyData.eqvAll (pys ds) (pys es) = true ↔ _
    rw [eqv_pds ds es h h2]
    exact ⟨fun h => by rw [h], fun h => by cases h; rfl⟩
  | _, _, _, _, .lst _ ds h, .lst _ es h2 => by
    show PyData.eqvAll (pys ds) (pys es) = true ↔ _
    rw [eqv_pds ds es h h2]
    exact ⟨fun h => by rw [h], fun h => by cases h; rfl⟩
  | _, _, _, _, .int _ i, .str _ _ _ => ⟨fun h => by simp [py, PyData.eqv] at h, fun h => by cases h⟩
  | _, _, _, _, .int _ i, .tup _ _ _ => ⟨fun h => by simp [py, PyData.eqv] at h, fun h => by cases h⟩
  | _, _, _, _, .int _ i, .lst _ _ _ => ⟨fun h => by simp [py, PyData.eqv] at h, fun h => by cases h⟩
  | _, _, _, _, .str _ _ _, .int _ _ => ⟨fun h => by simp [py, PyData.eqv] at h, fun h => by cases h⟩
  | _, _, _, _, .str _ _ _, .tup _ _ _ => ⟨fun h => by simp [py, PyData.eqv] at h, fun h => by cases h⟩
  | _, _, _, _, .str _ _ _, .lst _ _ _ => ⟨fun h => by simp [py, PyData.eqv] at h, fun h => by cases h⟩
  | _, _, _, _, .tup _ _ _, .int _ _ => ⟨fun h => by simp [py, PyData.eqv] at h, fun h => by cases h⟩
  | _, _, _, _, .tup _ _ _, .str _ _ _ => ⟨fun h => by simp [py, PyData.eqv] at h, fun h => by cases h⟩
  | _, _, _, _, .tup _ _ _, .lst _ _ _ => ⟨fun h => by simp [py, PyData.eqv] at h, fun h => by cases h⟩
  | _, _, _, _, .lst _ _ _, .int _ _ => ⟨fun h => by simp [py, PyData.eqv] at h, fun h => by cases h⟩
  | _, _, _, _, .lst _ _ _, .str _ _ _ => ⟨fun h => by simp [py, PyData.eqv] at h, fun h => by cases h⟩
  | _, _, _, _, .lst _ _ _, .tup _ _ _ => ⟨fun h => by simp [py, PyData.eqv] at h, fun h => by cases h⟩
theorem eqv_pds : ∀ {n m : Nat} (ds es : List D), (∀ d ∈ ds, PD n d) → (∀ d ∈ es, PD m d) → (PyData.eqvAll (pys ds) (pys es) = true ↔ ds = es)
  | _, _, [], [], _, _ => ⟨fun _ => rfl, fun _ => rfl⟩
  | _, _, [], _ :: _, _, _ => ⟨fun h => by simp [pys, PyData.eqvAll] at h, fun h => by cases h⟩
  | _, _, _ :: _, [], _, _ => ⟨fun h => by simp [pys, PyData.eqvAll] at h, fun h => by cases h⟩
  | _, _, d :: ds, e :: es, h, h2 => by
    rw [pys, pys, PyData.eqvAll, Bool.and_eq_true, eqv_pd (h d (List.mem_cons_self ..)) (h2 e (List.mem_cons_self ..)), eqv_pds ds es (fun d hd => h d (List.mem_cons_of_mem _ hd)) (fun d hd => h2 d (List.mem_cons_of_mem _ hd))]
    exact ⟨fun ⟨a, b⟩ => by rw [a, b], fun h => by cases h; exact ⟨rfl, rfl⟩⟩
end
theorem eqD_pd {n m : Nat} {d e : D} (h : PD n d) (h2 : PD m e) (hn : n ≤ 64) (hm : m ≤ 64) : ∃ b, eqD d e = some b ∧ (b = true ↔ d = e) := by
  have s1 := h.shaped hn
  have s2 := h2.shaped hm
  have z := eqv_pd h h2
  have gen : (match SeqAt.shaped (py d) && SeqAt.shaped (py e) with | true => some (PyData.eqv (py d) (py e)) | false => none) = some (PyData.eqv (py d) (py e)) := by rw [s1, s2]; rfl
  cases h <;> cases h2 <;> first
    | exact ⟨_, rfl, by rw [decide_eq_true_eq]; exact ⟨fun h => by rw [h], fun h => by cases h; rfl⟩⟩
    | exact ⟨_, gen, z⟩
    | exact ⟨false, rfl, ⟨fun h => (by cases h), fun h => (by cases h)⟩⟩
theorem gEq_pd {n m : Nat} {d e : D} (h : PD n d) (h2 : PD m e) (hn : n ≤ 64) (hm : m ≤ 64) : ∃ b, gEq d e = some (.dt (.bl b)) ∧ (b = true ↔ d = e) := by
  obtain ⟨b, hb, z⟩ := eqD_pd h h2 hn hm
  exact ⟨b, by unfold gEq; rw [hb]; rfl, z⟩
theorem gNe_pd {n m : Nat} {d e : D} (h : PD n d) (h2 : PD m e) (hn : n ≤ 64) (hm : m ≤ 64) : ∃ b, gNe d e = some (.dt (.bl (!b))) ∧ (b = true ↔ d = e) := by
  obtain ⟨b, hb, z⟩ := eqD_pd h h2 hn hm
  exact ⟨b, by unfold gNe; rw [hb]; rfl, z⟩
theorem gNe_t0 {n : Nat} {ds : List D} (h : ∀ d ∈ ds, PD n d) (hn : n < 64) : gNe (.tup ds) (.tup []) = some (.dt (.bl (!ds.isEmpty))) := by
  obtain ⟨b, e, z⟩ := gNe_pd (PD.tup n ds h) (PD.tup 0 [] fun d hd => by cases hd) hn (by omega)
  rw [e]
  cases ds with
  | nil => rw [z.mpr rfl]; rfl
  | cons d ds =>
    cases b with
    | true => have := z.mp rfl; cases this
    | false => rfl
theorem gNe_l0 {n : Nat} {ds : List D} (h : ∀ d ∈ ds, PD n d) (hn : n < 64) : gNe (.lst ds) (.lst []) = some (.dt (.bl (!ds.isEmpty))) := by
  obtain ⟨b, e, z⟩ := gNe_pd (PD.lst n ds h) (PD.lst 0 [] fun d hd => by cases hd) hn (by omega)
  rw [e]
  cases ds with
  | nil => rw [z.mpr rfl]; rfl
  | cons d ds =>
    cases b with
    | true => have := z.mp rfl; cases this
    | false => rfl
/-! ### small steps of many laws -/
def tI (xs : List Int) : D := .tup (xs.map D.int)
theorem pd_tI {xs : List Int} : ∀ d ∈ xs.map D.int, PD 0 d := fun d hd => by
  obtain ⟨x, _, rfl⟩ := List.mem_map.mp hd
  exact .int _ _
theorem gMul_s0 {s : Str} {n : Int} (h : (decide (n < 9223372036854775808) && decide (-9223372036854775808 ≤ n) && Nat.ble (s.length * n.toNat) line) = true) : gMul (.str s) (.int n) = some (.dt (.str (Txt.mul s n))) := by
  dsimp only [gMul]
  rw [h]
theorem gMul_sn {s : Str} {n : Nat} (h : s.length * n ≤ 16777216) (h2 : n ≤ 16777216) : gMul (.str s) (.int (n : Nat)) = some (.dt (.str (Txt.mul s n))) := by
  refine gMul_s0 ?_
  have a1 : decide (((n : Nat) : Int) < 9223372036854775808) = true := decide_eq_true (by omega)
  have a2 : decide (-9223372036854775808 ≤ ((n : Nat) : Int)) = true := decide_eq_true (by omega)
  have a3 : Nat.ble (s.length * ((n : Nat) : Int).toNat) line = true := ble_of (by rw [Int.toNat_natCast]; exact h)
  rw [a1, a2, a3, Bool.and_self, Bool.and_self]
theorem gStr_b {i : Int} (h : i.natAbs < 10 ^ 60) : gStr (.int i) = some (.dt (.str (toString i))) := by
  dsimp only [gStr]
  have : i.natAbs < 2 ^ 200 := Nat.lt_of_lt_of_le h (by decide)
  rw [blt_of (show i.natAbs.log2 < 1920 from Nat.lt_trans (log2_lt_of this (by decide)) (by decide))]
theorem gSlT_to {ds : List D} {i : Int} (h : 0 ≤ i) : gSl (.tup ds) none (some i) = some (.dt (.tup (ds.take i.toNat))) := by
  show some (RD.dt (.tup (cutL ds none (some i)))) = _
  unfold cutL
  rw [sIx_i h, HT.sIx_none, List.drop_zero, Nat.sub_zero, ← List.take_eq_take_min]
theorem gSlT_from {ds : List D} {i : Int} (h : 0 ≤ i) : gSl (.tup ds) (some i) none = some (.dt (.tup (ds.drop i.toNat))) := by
  show some (RD.dt (.tup (cutL ds (some i) none))) = _
  unfold cutL
  rw [sIx_i h, HT.sIx_none]
  by_cases hl : i.toNat ≤ ds.length
  · rw [Nat.min_eq_left hl, List.take_of_length_le (by rw [List.length_drop]; omega)]
  · rw [Nat.min_eq_right (by omega), Nat.sub_self, List.take_zero, List.drop_of_length_le (by omega)]
theorem gSlT_init {ds : List D} : gSl (.tup ds) none (some (-1)) = some (.dt (.tup ds.dropLast)) := by
  show some (RD.dt (.tup (cutL ds none (some (-1))))) = _
  unfold cutL
  rw [HT.sIx_none, List.drop_zero, Nat.sub_zero]
  have e : HT.sIx ds.length ds.length (some (-1)) = ds.length - 1 := by
    show (if (-1 : Int) < 0 then ((-1 : Int) + (ds.length : Int)).toNat else min (-1 : Int).toNat ds.length) = _
    rw [if_pos (by omega)]
    omega
  rw [e, List.dropLast_eq_take]
theorem gAdd_ll {ds es : List D} (h : ds.length + es.length ≤ 16777216) : gAdd (.lst ds) (.lst es) = some (.ob (.lst (ds ++ es))) := by
  dsimp only [gAdd]
  rw [ble_of (show ds.length + es.length ≤ line from h)]
def b_law_start : AE → SS → SR :=
(sRet (eLst (aCons (eAp (g1 gList) (aCons (eVar 0) aNil)) (aCons (eC (.int 0)) (aCons (eC (.int 0)) (aCons (eC (.int 0)) aNil))))))
def m_law_start : List AV → SS → R := runF 1 b_law_start
theorem start_ok (sc0 : List Int) : m_law_start [.dat (.scr sc0)] [] = .ok (.new (Sta.ao ⟨sc0, 0, 0, 0⟩)) [] := by
  unfold m_law_start b_law_start runF
  nomatch "e", Sta.ao_e
section
variable {E : Exn → SS → Prop} {Q : AV → SS → Prop}
theorem start_w {sc0 : List Int} (h : ∀ st : Sta, Q (.new st.ao) []) : Wp E Q (m_law_start [.dat (.scr sc0)] []) := by
  rw [start_ok]
  exact ⟨h _⟩
theorem signed_w {st : Sta} {m : Int} (h0 : 0 ≤ m) (h1 : m < 1000000000) (h : ∀ (v : Int) (st' : Sta), -m ≤ v → v ≤ m → Q (.dat (.int v)) [st'.ao]) : Wp E Q (m_law_signed [.own 0, .dat (.int m)] [st.ao]) := by
  obtain ⟨v, st', e, h2, h3⟩ := signed_ok st h0 h1
  rw [e]
  exact ⟨h v st' h2 h3⟩
theorem number_w {st : Sta} (h : ∀ (v : Int) (st' : Sta), v.natAbs < 10 ^ 44 → Q (.dat (.int v)) [st'.ao]) : Wp E Q (m_law_number [.own 0] [st.ao]) := by
  obtain ⟨v, st', e, h2⟩ := number_ok st
  rw [e]
  exact ⟨h v st' h2⟩
end
def b_law_moved : AE → SS → SR :=
(sRet (eBin gAdd (eBin gAdd (eSl gSl (eVar 0) oNone (oSome (eVar 1))) (eTup (aCons (eBin gAdd (eBin gIx (eVar 0) (eVar 1)) (eVar 2)) aNil))) (eSl gSl (eVar 0) (oSome (eBin gAdd (eVar 1) (eC (.int 1)))) oNone)))
def m_law_moved : List AV → SS → R := runF 3 b_law_moved
/-- the row with the number at i moved by a step -/
def movL (xs : List Int) (i step : Int) : List Int := xs.set i.toNat (xs.getD i.toNat 0 + step)
theorem movL_len {xs : List Int} {i step : Int} : (movL xs i step).length = xs.length := List.length_set
theorem movL_mem {xs : List Int} {i step y : Int} (h : y ∈ movL xs i step) : y ∈ xs ∨ y = xs.getD i.toNat 0 + step := List.mem_or_eq_of_mem_set h
theorem moved_ok {xs : List Int} {i step : Int} (h0 : 0 ≤ i) (h : i < xs.length) (hl : xs.length ≤ 1000000) : m_law_moved [.dat (.tup (xs.map D.int)), .dat (.int i), .dat (.int step)] [] = .ok (.dat (.tup ((movL xs i step).map D.int))) [] := by
  unfold m_law_moved b_law_moved runF
  have a1 := gSlT_to (ds := xs.map D.int) h0
  have a2 := gSlT_from (ds := xs.map D.int) (i := i + 1) (by omega)
  obtain ⟨k, rfl⟩ := Int.eq_ofNat_of_zero_le h0
  have hk : k < xs.length := by omega
  have a3 : atI (xs.map D.int) ((k : Nat) : Int) = some (.int (xs.getD k 0)) := atI_nat (by rw [List.getElem?_map, List.getElem?_eq_getElem hk]; simp [List.getD, List.getElem?_eq_getElem hk])
  have a4 := gAdd_tt (ds := (xs.map D.int).take ((k : Nat) : Int).toNat) (es := [.int (xs.getD k 0 + step)]) (by rw [List.length_take, List.length_map]; show _ + 1 ≤ _; omega)
  have a5 := gAdd_tt (ds := (xs.map D.int).take ((k : Nat) : Int).toNat ++ [.int (xs.getD k 0 + step)]) (es := (xs.map D.int).drop (((k : Nat) : Int) + 1).toNat) (by rw [List.length_append, List.length_take, List.length_drop, List.length_map]; show _ + 1 + _ ≤ _; omega)
  nomatch "e", a1, a2, a3, a4, a5
  have e : (((k : Nat) : Int) + 1).toNat = k + 1 := by omega
  unfold movL
  rw [Int.toNat_natCast, e, List.map_set, List.set_eq_take_append_cons_drop, if_pos (by rw [List.length_map]; exact hk), List.append_assoc]
  rfl
end Ew

set_option Elab.async false
set_option linter.all false
set_option maxRecDepth 100000
set_option maxHeartbeats 8000000
namespace Ew
open PySem PySem.Spec PyProof.Rows L2
local macro_rules | `(tactic| nomatch "w", $ts,*) => `(tactic| simp only [R_bind_ok, R_bind_exc, R_bind_bad, R_toB_ok, R_toB_exc, R_toB_bad, R_toA_ok, R_toA_exc, R_toA_bad, RA_bind_ok, RA_bind_exc, RA_bind_bad, RA_toR_ok, RA_toR_exc, RA_toR_bad, RA_toI_ok, RA_toI_exc, RA_toI_bad, RB_toR_ok, RB_toR_exc, RB_toR_bad, RB_bind_ok, RB_bind_exc, RB_bind_bad, R_toI_ok, R_toI_exc, R_toI_bad, RO_toR_ok, RO_toR_exc, RO_toR_bad, R_toS_ok, R_toS_exc, R_toS_bad, RB_toS_ok, RB_toS_exc, RB_toS_bad, RI_toS_ok, RI_toS_exc, RI_toS_bad, sSeq_e, SR_seq_nx, SR_seq_rt, SR_seq_bk, SR_seq_ct, SR_seq_exc, SR_seq_bad, sNx_e, sBk_e, sCt_e, sBad_e, sRetN_e, sSet_e, sSetK_e, fz1_d, fz1_o, fz1_n, toD_l, toD_d, toD_f, live_l, live_d, sSetO_e, sSetOK_n, sSetOK_d, sSetOK_o, sDrop_e, sDropK_e, sRet_e, sRetK_e, sIf_e, sIfK_t, sIfK_f, sFor_e, sForK_e, turn_e, turnK_s, gN_e, gT_e, gT_l, gsCons_e, gsK_s, gsNil_e, sPut_e, sPutK1_e, sPutK2_e, sPutK3_e, sPutK4_e, apP_e, apPK_e, apPL_e, sUnp_e, sUnpK_e, sUnpL_e, unpV_d, sUnpM_e, sAug_e, sAugJ_e, sAugK_e, sAugL_e, sAugM_e, clB_0, clB_l, clB_d, clB_f, frz_d, frz_n, frz_o, frzK_e, frzs_nil, frzs_c, frzsK_e, frzsL_e, view_d, view_o, viewK_e, view_n, views_nil, views_c, viewsK_e, viewsL_e, eVar_e, eVarK_d, eVarK_o, eC_e, apR_d, apR_o, ap2_e, ap2V_e, eBin_e, eBinK_e, eBinL_e, tBin_e, tBinK_e, tBinL_e, bl2_e, bl2V_e, blR_e, eUn_e, un1_e, un1V_e, tVal_e, tru_e, truV_e, truW_e, truth_n, truth_b, truth_i, truth_t, truth_l, tNt_e, tNtK_e, tAn_e, tAnK_t, tAnK_f, tO_e, tOK_t, tOK_f, tY_e, eAnd_e, eAndK_t, eAndK_f, eOr_e, eOrK_f, eOrK_t, eNot_e, eNotK_e, eIf_e, eIfK_t, eIfK_f, aNil_e, aCons_e, aConsK_e, aConsL_e, eAp_e, ap_e, apV_e, g1_e, g2_e, eMt_e, eMtK_e, eMtV_e, eMtT_e, eMtL_e, apM_e, apMV_e, m1_e, m0_e, tyD_s, tyD_l, eMt0_e, eMt0K_e, eMt0V_e, eMt0T_e, eMu_e, eMuK_e, eMuV_e, eMuT_e, eMuL_e, tyO_l, tyO_d, apU_e, apUK_e, apUL_e, apUM_e, u1_e, u0_e, eMu0_e, eMu0K_e, eMu0V_e, eMu0T_e, eTup_e, eLst_e, mkT_e, mkL_e, mkTK_0, mkLK_0, mkTK_1, mkLK_1, mkTK_2, mkLK_2, mkTK_3, mkLK_3, mkTK_4, mkLK_4, mkTK_5, mkLK_5, mkTK_6, mkLK_6, mkTK_7, mkLK_7, mkTK_8, mkLK_8, oNone_e, oSome_e, oSomeK_e, eSl_e, eSlK_e, eSlL_e, eSlM_e, apS_e, apSV_e, iSeq_e, iSeqK_e, iSeqV_e, iSeqL_e, items_l, items_t, items_s, iRange_e, gAdd_ii, gSub_ii, gNeg_i, gAbs_i, gInt_i, gLt_ii, gLt_ss, gLe_ii, gLe_ss, gGt_ii, gGt_ss, gGe_ii, gGe_ss, gEq_ii, gNe_ii, gEq_ss, gNe_ss, gLen_l, gLen_t, gList_s, gList_l, gList_t, gTuple_l, gTuple_t, gIx_l, gIx_t, optD_e, atI_lit, gSet_l, gSetLK_e, List.getElem?_cons_zero, List.getElem?_cons_succ, List.getElem?_nil, List.set_cons_zero, List.set_cons_succ, List.length_cons, List.length_nil, List.map_cons, List.map_nil, List.cons_append, List.nil_append, Nat.zero_add, Nat.add_zero, Nat.reduceAdd, Nat.reduceSub, Nat.sub_self, Nat.reduceLT, Nat.reduceLeDiff, Int.reduceLT, Int.reduceLE, Int.reduceNeg, Int.reduceEq, decide_true, decide_false, ixN_lit, List.set_nil, List.replicate, Int.reduceAdd, Int.reduceSub, reduceCtorEq, Bool.not_true, Bool.not_false, List.take_succ_cons, List.take_zero, List.take_nil, clB_ao, wk_e, exq_e, Wp_ok, Wp_exc, Wp_bad, WpB_ok, WpB_exc, WpB_bad, WpA_ok, WpA_exc, WpA_bad, WpI_ok, WpI_exc, WpI_bad, WpO_ok, WpO_exc, WpO_bad, Ws_nx, Ws_rt, Ws_bk, Ws_ct, Ws_exc, Ws_bad, seq_nx, seq_rt, seq_bk, seq_ct, seq_ex, Wp_bind, Wp_toR, Wp_BtoR, Wp_OtoR, WpB_toB, WpB_bind, WpA_toA, WpA_bind, WpI_toI, WpI_AtoI, Ws_toS, Ws_BtoS, Ws_ItoS, Ws_seq, oSq_e, WpO_s, Wp_retS, rtP_nx, rtP_rt, rtP_ex, retS_d, retS_n, retS_o, retS_p, retO_f, retO_l, retO_d, runF_e, cfR_nil, cfR_d, cfR_n, cfR_o, idx_0, idx_s, hs_nil, hs_d, hs_n, hs_o, callF_e, cf1_e, cutR_e, cutX_e, nodB_0, nodB_1, nodB_2, nodB_3, pick_0, pick_c, pickK_e, put_c, put_n, cf2_d, cf2_n, cf2_o, cf2O_e, cf2_x, cfQ_e, cfE_e, Wp_cf2, eCall_k, callK_e, fzQ_d, fzQ_n, lcG_y, eLc_e, eLcI_e, wipeA_nil, wipeA_c, eDnew_e, Nat.reduceBEq, Nat.reduceSub, eGet2_e, eGetI_e, eGetJ_e, eGetK_e, eGetL_e, forP_nx, forP_ct, forP_bk, forP_rt, forP_ex, forP_exq, seq_exq, rtP_exq, cfE_NE, eLcW_e, Wp_eLcI, cutP_nx, cutP_rt, cutP_bk, cutP_ct, cutP_ex, cutP_exq, Int.cast_ofNat_Int, List.length_map, $[$ts:term],*])
local macro_rules | `(tactic| nomatch "w") => `(tactic| simp only [R_bind_ok, R_bind_exc, R_bind_bad, R_toB_ok, R_toB_exc, R_toB_bad, R_toA_ok, R_toA_exc, R_toA_bad, RA_bind_ok, RA_bind_exc, RA_bind_bad, RA_toR_ok, RA_toR_exc, RA_toR_bad, RA_toI_ok, RA_toI_exc, RA_toI_bad, RB_toR_ok, RB_toR_exc, RB_toR_bad, RB_bind_ok, RB_bind_exc, RB_bind_bad, R_toI_ok, R_toI_exc, R_toI_bad, RO_toR_ok, RO_toR_exc, RO_toR_bad, R_toS_ok, R_toS_exc, R_toS_bad, RB_toS_ok, RB_toS_exc, RB_toS_bad, RI_toS_ok, RI_toS_exc, RI_toS_bad, sSeq_e, SR_seq_nx, SR_seq_rt, SR_seq_bk, SR_seq_ct, SR_seq_exc, SR_seq_bad, sNx_e, sBk_e, sCt_e, sBad_e, sRetN_e, sSet_e, sSetK_e, fz1_d, fz1_o, fz1_n, toD_l, toD_d, toD_f, live_l, live_d, sSetO_e, sSetOK_n, sSetOK_d, sSetOK_o, sDrop_e, sDropK_e, sRet_e, sRetK_e, sIf_e, sIfK_t, sIfK_f, sFor_e, sForK_e, turn_e, turnK_s, gN_e, gT_e, gT_l, gsCons_e, gsK_s, gsNil_e, sPut_e, sPutK1_e, sPutK2_e, sPutK3_e, sPutK4_e, apP_e, apPK_e, apPL_e, sUnp_e, sUnpK_e, sUnpL_e, unpV_d, sUnpM_e, sAug_e, sAugJ_e, sAugK_e, sAugL_e, sAugM_e, clB_0, clB_l, clB_d, clB_f, frz_d, frz_n, frz_o, frzK_e, frzs_nil, frzs_c, frzsK_e, frzsL_e, view_d, view_o, viewK_e, view_n, views_nil, views_c, viewsK_e, viewsL_e, eVar_e, eVarK_d, eVarK_o, eC_e, apR_d, apR_o, ap2_e, ap2V_e, eBin_e, eBinK_e, eBinL_e, tBin_e, tBinK_e, tBinL_e, bl2_e, bl2V_e, blR_e, eUn_e, un1_e, un1V_e, tVal_e, tru_e, truV_e, truW_e, truth_n, truth_b, truth_i, truth_t, truth_l, tNt_e, tNtK_e, tAn_e, tAnK_t, tAnK_f, tO_e, tOK_t, tOK_f, tY_e, eAnd_e, eAndK_t, eAndK_f, eOr_e, eOrK_f, eOrK_t, eNot_e, eNotK_e, eIf_e, eIfK_t, eIfK_f, aNil_e, aCons_e, aConsK_e, aConsL_e, eAp_e, ap_e, apV_e, g1_e, g2_e, eMt_e, eMtK_e, eMtV_e, eMtT_e, eMtL_e, apM_e, apMV_e, m1_e, m0_e, tyD_s, tyD_l, eMt0_e, eMt0K_e, eMt0V_e, eMt0T_e, eMu_e, eMuK_e, eMuV_e, eMuT_e, eMuL_e, tyO_l, tyO_d, apU_e, apUK_e, apUL_e, apUM_e, u1_e, u0_e, eMu0_e, eMu0K_e, eMu0V_e, eMu0T_e, eTup_e, eLst_e, mkT_e, mkL_e, mkTK_0, mkLK_0, mkTK_1, mkLK_1, mkTK_2, mkLK_2, mkTK_3, mkLK_3, mkTK_4, mkLK_4, mkTK_5, mkLK_5, mkTK_6, mkLK_6, mkTK_7, mkLK_7, mkTK_8, mkLK_8, oNone_e, oSome_e, oSomeK_e, eSl_e, eSlK_e, eSlL_e, eSlM_e, apS_e, apSV_e, iSeq_e, iSeqK_e, iSeqV_e, iSeqL_e, items_l, items_t, items_s, iRange_e, gAdd_ii, gSub_ii, gNeg_i, gAbs_i, gInt_i, gLt_ii, gLt_ss, gLe_ii, gLe_ss, gGt_ii, gGt_ss, gGe_ii, gGe_ss, gEq_ii, gNe_ii, gEq_ss, gNe_ss, gLen_l, gLen_t, gList_s, gList_l, gList_t, gTuple_l, gTuple_t, gIx_l, gIx_t, optD_e, atI_lit, gSet_l, gSetLK_e, List.getElem?_cons_zero, List.getElem?_cons_succ, List.getElem?_nil, List.set_cons_zero, List.set_cons_succ, List.length_cons, List.length_nil, List.map_cons, List.map_nil, List.cons_append, List.nil_append, Nat.zero_add, Nat.add_zero, Nat.reduceAdd, Nat.reduceSub, Nat.sub_self, Nat.reduceLT, Nat.reduceLeDiff, Int.reduceLT, Int.reduceLE, Int.reduceNeg, Int.reduceEq, decide_true, decide_false, ixN_lit, List.set_nil, List.replicate, Int.reduceAdd, Int.reduceSub, reduceCtorEq, Bool.not_true, Bool.not_false, List.take_succ_cons, List.take_zero, List.take_nil, clB_ao, wk_e, exq_e, Wp_ok, Wp_exc, Wp_bad, WpB_ok, WpB_exc, WpB_bad, WpA_ok, WpA_exc, WpA_bad, WpI_ok, WpI_exc, WpI_bad, WpO_ok, WpO_exc, WpO_bad, Ws_nx, Ws_rt, Ws_bk, Ws_ct, Ws_exc, Ws_bad, seq_nx, seq_rt, seq_bk, seq_ct, seq_ex, Wp_bind, Wp_toR, Wp_BtoR, Wp_OtoR, WpB_toB, WpB_bind, WpA_toA, WpA_bind, WpI_toI, WpI_AtoI, Ws_toS, Ws_BtoS, Ws_ItoS, Ws_seq, oSq_e, WpO_s, Wp_retS, rtP_nx, rtP_rt, rtP_ex, retS_d, retS_n, retS_o, retS_p, retO_f, retO_l, retO_d, runF_e, cfR_nil, cfR_d, cfR_n, cfR_o, idx_0, idx_s, hs_nil, hs_d, hs_n, hs_o, callF_e, cf1_e, cutR_e, cutX_e, nodB_0, nodB_1, nodB_2, nodB_3, pick_0, pick_c, pickK_e, put_c, put_n, cf2_d, cf2_n, cf2_o, cf2O_e, cf2_x, cfQ_e, cfE_e, Wp_cf2, eCall_k, callK_e, fzQ_d, fzQ_n, lcG_y, eLc_e, eLcI_e, wipeA_nil, wipeA_c, eDnew_e, Nat.reduceBEq, Nat.reduceSub, eGet2_e, eGetI_e, eGetJ_e, eGetK_e, eGetL_e, forP_nx, forP_ct, forP_bk, forP_rt, forP_ex, forP_exq, seq_exq, rtP_exq, cfE_NE, eLcW_e, Wp_eLcI, cutP_nx, cutP_rt, cutP_bk, cutP_ct, cutP_ex, cutP_exq, Int.cast_ofNat_Int, List.length_map])
open TL (numL)

/-! ### names and forms that laws draw -/
theorem gIx_sv2 {s : Str} {v : Nat} (h : v < s.length) (hl : s.length ≤ 16777216) : ∃ c, c ∈ s.cps.toList ∧ gIx (.str s) (.int (v : Nat)) = some (.dt (tx [c])) := by
  have hv : v < s.cps.toList.length := by rw [Array.length_toList]; exact h
  refine ⟨s.cps.toList[v], List.getElem_mem _, ?_⟩
  dsimp only [gIx]
  rw [show Nat.ble s.length line = true from ble_of hl]
  dsimp only
  have e : s.cps.toList[v]? = some s.cps.toList[v] := List.getElem?_eq_getElem hv
  rw [atI_nat e]; rfl
theorem t12_asc : ∀ c ∈ (t1 ++ t2).cps.toList, c < 128 ∧ c ≠ 32 := by
  have h : ((t1 ++ t2).cps.toList.all fun c => decide (c < 128 ∧ c ≠ 32)) = true := by decide +kernel
  intro c hc
  exact of_decide_eq_true (List.all_eq_true.mp h c hc)
/-- a name of a law: one to four signs out of ASCII -/
structure Nm (s : Str) : Prop where
  pos : 0 < s.length
  len : s.length ≤ 4
  asc : ∀ c ∈ s.cps.toList, c < 128
  nsp : ∀ c ∈ s.cps.toList, c ≠ 32
theorem strOk_asc {s : Str} (h : ∀ c ∈ s.cps.toList, c < 128) : PyData.strOk s = true := by
  unfold PyData.strOk
  rw [← Array.all_toList, List.all_eq_true]
  intro c hc
  have := h c hc
  exact decide_eq_true (by omega)
theorem Nm.ok {s : Str} (h : Nm s) : PyData.strOk s = true := strOk_asc h.asc
theorem S_cps (a : List Nat) : (SX.S a).cps.toList = a := rfl
section
variable {Q : AV → SS → Prop}
theorem name_w {st : Sta} (h : ∀ (a : List Nat) (st' : Sta), 0 < a.length → a.length ≤ 3 → (∀ c ∈ a, c < 128 ∧ c ≠ 32) → Q (.dat (tx a)) [st'.ao]) : Wp NE Q (m_law_name [.own 0] [st.ao]) := by
  unfold m_law_name b_law_name
  have h1 : ("!\"#$&()*+,-./0123456789:;<=>?@ABCDEFGHIJKLMNOPQRSTUVWXYZ[\\]^_`" : Str) = t1 := rfl
  have h2 : ("abcdefghijklmnopqrstuvwxyz{|}~" : Str) = t2 := rfl
  have ga := gAdd_ss (s := t1) (t := t2) (by decide +kernel)
  have gl := gLen_s (s := t1 ++ t2) (by rw [t12_len]; decide)
  rw [t12_len] at gl
  nomatch "w", h1, h2, ga, tyD_s
  refine draw_w (by omega) (by omega) fun v st1 hv => ?_
  have rg := iRg_1 (j := 1 + (v : Nat)) (S := [st1.ao]) (by omega) (by omega)
  have hn : (1 + ((v : Nat) : Int)).toNat = 1 + v := by omega
  rw [hn] at rg
  nomatch "w", rg, tyD_s
  refine lc_g (fun c => tx [c]) (fun _ c => c < 128 ∧ c ≠ 32) (fun S => ∃ st : Sta, S = [st.ao]) (by rw [rangeD_len]; omega) ⟨st1, rfl⟩ ?_ ?_
  · rintro k d S hk ⟨st', rfl⟩
    nomatch "w", gl
    refine draw_w (by omega) (by omega) fun u st2 hu => ?_
    obtain ⟨c, hc, gx⟩ := gIx_sv2 (s := t1 ++ t2) (v := u) (by rw [t12_len]; omega) (by rw [t12_len]; decide)
    nomatch "w", gx
    exact ⟨c, rfl, t12_asc c hc, st2, rfl⟩
  rintro cs S hl hc ⟨st2, rfl⟩
  rw [rangeD_len] at hl
  have hcs : cs.map (fun c => tx [c]) = (cs.map fun c => [c]).map tx := by rw [List.map_map]; rfl
  have gj := gJoin_t (ss := cs.map fun c => [c]) (by rw [flat_tx]; omega)
  rw [flat_tx, ← hcs] at gj
  nomatch "w", lit_nil, gj
  refine h cs st2 (by omega) (by omega) fun c hx => ?_
  obtain ⟨k, hk, e⟩ := List.mem_iff_getElem.mp hx
  exact hc k c (by rw [List.getElem?_eq_getElem hk, e])
theorem pool_w {st : Sta} {m : Nat} (hm : m ≤ 10) (h : ∀ (ns : List Str) (st' : Sta), ns.length ≤ m → (0 < m → 0 < ns.length) → ns.Nodup → (∀ s ∈ ns, Nm s) → Q (.new (.lst (ns.map D.str))) [st'.ao]) : Wp NE Q (m_law_pool [.own 0, .dat (.int (m : Nat))] [st.ao]) := by
  unfold m_law_pool b_law_pool
  nomatch "w"
  refine name_w fun base st1 hb1 hb hba => ?_
  have rg := iRg_1 (j := (m : Nat)) (S := [st1.ao, .lst []]) (by omega) (by omega)
  rw [Int.toNat_natCast] at rg
  nomatch "w", rg
  refine for_w2 4 5 rfl rfl (fun k x y S => ∃ (st : Sta) (ns : List Str), S = [st.ao, .lst (ns.map D.str)] ∧ ns.length ≤ k ∧ (0 < k → 0 < ns.length) ∧ ns.Nodup ∧ ∀ s ∈ ns, Nm s) ⟨st1, [], rfl, Nat.le_refl _, fun h => absurd h (Nat.lt_irrefl _), List.nodup_nil, fun s h => by cases h⟩ ?_ ?_
  · rintro k d x y S hk ⟨st, ns, rfl, hl, _, hnd, hle⟩
    obtain ⟨hk, rfl⟩ := rangeD_some hk
    have e0 : (0 : Int) + (k : Int) * 1 = ((k : Nat) : Int) := by omega
    rw [e0]
    have gs := gStr_n (n := k) (Nat.lt_trans (show k < 1000 by omega) (by decide))
    have hkl : (numL k).length ≤ 1 := TL.numL_len (by decide) (by omega)
    have hka : ∀ c ∈ numL k, c < 128 ∧ c ≠ 32 := fun c hc => by have := TL.numL_digits k c hc; omega
    have ga := gAdd_t (a := base) (b := numL k) (by omega)
    have l64 : (("@" : String) : Str) = SX.S [64] := rfl
    have ga2 := gAdd_t (a := [64]) (b := base) (by show 1 + _ ≤ _; omega)
    nomatch "w", gs, ga
    refine name_w fun nm st2 hnm1 hnm hna => ?_
    nomatch "w", l64, ga2
    refine draw_w (by omega) (by omega) fun v st3 hv => ?_
    have mk : ∀ a : List Nat, 0 < a.length → a.length ≤ 4 → (∀ c ∈ a, c < 128 ∧ c ≠ 32) → Nm (SX.S a) := fun a h1 h2 h3 => ⟨by rw [SX.S_len]; exact h1, by rw [SX.S_len]; exact h2, fun c h => (h3 c h).1, fun c h => (h3 c h).2⟩
    have hx : ∃ s : Str, atI [tx (base ++ numL k), tx nm, tx (64 :: base), tx base] ((v : Nat) : Int) = some (.str s) ∧ Nm s := by
      match v, hv with
      | 0, _ => exact ⟨_, rfl, mk _ (by rw [List.length_append]; omega) (by rw [List.length_append]; omega) fun c hc => (List.mem_append.mp hc).elim (hba c) (hka c)⟩
      | 1, _ => exact ⟨_, rfl, mk _ (by omega) (by omega) hna⟩
      | 2, _ => exact ⟨_, rfl, mk _ (by show 0 < _ + 1; omega) (by show _ + 1 ≤ 4; omega) fun c hc => (List.mem_cons.mp hc).elim (fun e => by omega) (hba c)⟩
      | 3, _ => exact ⟨_, rfl, mk _ (by omega) (by omega) hba⟩
      | v + 4, h => omega
    obtain ⟨s, hx, hs⟩ := hx
    have gi := gNin_ex (s := s) (ns := ns)
    have gp := gAppend_l (ds := ns.map D.str) (d := .str s) (by rw [List.length_map]; show _ < 16777216; omega)
    nomatch "w", hx, gi
    by_cases hin : s ∈ ns
    · nomatch "w", hin
      exact ⟨_, _, rfl, st3, ns, rfl, by omega, fun _ => List.length_pos_of_mem hin, hnd, hle⟩
    · nomatch "w", hin, gp
      refine ⟨_, _, rfl, st3, ns ++ [s], by rw [List.map_append]; rfl, by rw [List.length_append]; show _ + 1 ≤ _; omega, fun _ => by rw [List.length_append]; show 0 < _ + 1; omega, ?_, fun t ht => ?_⟩
      · rw [List.nodup_append]
        refine ⟨hnd, by simp, fun a ha b hb e => hin ?_⟩
        rw [← List.mem_singleton.mp hb, ← e]; exact ha
      · rcases List.mem_append.mp ht with ht | ht
        · exact hle t ht
        · rw [List.mem_singleton.mp ht]; exact hs
  rintro x y S ⟨st2, ns, rfl, hl, h0, hnd, hle⟩
  rw [rangeD_len] at hl h0
  nomatch "w"
  exact h ns st2 hl h0 hnd hle
end
end Ew

set_option Elab.async false
set_option linter.all false
set_option maxRecDepth 100000
set_option maxHeartbeats 8000000
namespace Ew
open PySem PySem.Spec PyProof.Rows L2
local macro_rules | `(tactic| nomatch "w", $ts,*) => `(tactic| simp only [R_bind_ok, R_bind_exc, R_bind_bad, R_toB_ok, R_toB_exc, R_toB_bad, R_toA_ok, R_toA_exc, R_toA_bad, RA_bind_ok, RA_bind_exc, RA_bind_bad, RA_toR_ok, RA_toR_exc, RA_toR_bad, RA_toI_ok, RA_toI_exc, RA_toI_bad, RB_toR_ok, RB_toR_exc, RB_toR_bad, RB_bind_ok, RB_bind_exc, RB_bind_bad, R_toI_ok, R_toI_exc, R_toI_bad, RO_toR_ok, RO_toR_exc, RO_toR_bad, R_toS_ok, R_toS_exc, R_toS_bad, RB_toS_ok, RB_toS_exc, RB_toS_bad, RI_toS_ok, RI_toS_exc, RI_toS_bad, sSeq_e, SR_seq_nx, SR_seq_rt, SR_seq_bk, SR_seq_ct, SR_seq_exc, SR_seq_bad, sNx_e, sBk_e, sCt_e, sBad_e, sRetN_e, sSet_e, sSetK_e, fz1_d, fz1_o, fz1_n, toD_l, toD_d, toD_f, live_l, live_d, sSetO_e, sSetOK_n, sSetOK_d, sSetOK_o, sDrop_e, sDropK_e, sRet_e, sRetK_e, sIf_e, sIfK_t, sIfK_f, sFor_e, sForK_e, turn_e, turnK_s, gN_e, gT_e, gT_l, gsCons_e, gsK_s, gsNil_e, sPut_e, sPutK1_e, sPutK2_e, sPutK3_e, sPutK4_e, apP_e, apPK_e, apPL_e, sUnp_e, sUnpK_e, sUnpL_e, unpV_d, sUnpM_e, sAug_e, sAugJ_e, sAugK_e, sAugL_e, sAugM_e, clB_0, clB_l, clB_d, clB_f, frz_d, frz_n, frz_o, frzK_e, frzs_nil, frzs_c, frzsK_e, frzsL_e, view_d, view_o, viewK_e, view_n, views_nil, views_c, viewsK_e, viewsL_e, eVar_e, eVarK_d, eVarK_o, eC_e, apR_d, apR_o, ap2_e, ap2V_e, eBin_e, eBinK_e, eBinL_e, tBin_e, tBinK_e, tBinL_e, bl2_e, bl2V_e, blR_e, eUn_e, un1_e, un1V_e, tVal_e, tru_e, truV_e, truW_e, truth_n, truth_b, truth_i, truth_t, truth_l, tNt_e, tNtK_e, tAn_e, tAnK_t, tAnK_f, tO_e, tOK_t, tOK_f, tY_e, eAnd_e, eAndK_t, eAndK_f, eOr_e, eOrK_f, eOrK_t, eNot_e, eNotK_e, eIf_e, eIfK_t, eIfK_f, aNil_e, aCons_e, aConsK_e, aConsL_e, eAp_e, ap_e, apV_e, g1_e, g2_e, eMt_e, eMtK_e, eMtV_e, eMtT_e, eMtL_e, apM_e, apMV_e, m1_e, m0_e, tyD_s, tyD_l, eMt0_e, eMt0K_e, eMt0V_e, eMt0T_e, eMu_e, eMuK_e, eMuV_e, eMuT_e, eMuL_e, tyO_l, tyO_d, apU_e, apUK_e, apUL_e, apUM_e, u1_e, u0_e, eMu0_e, eMu0K_e, eMu0V_e, eMu0T_e, eTup_e, eLst_e, mkT_e, mkL_e, mkTK_0, mkLK_0, mkTK_1, mkLK_1, mkTK_2, mkLK_2, mkTK_3, mkLK_3, mkTK_4, mkLK_4, mkTK_5, mkLK_5, mkTK_6, mkLK_6, mkTK_7, mkLK_7, mkTK_8, mkLK_8, oNone_e, oSome_e, oSomeK_e, eSl_e, eSlK_e, eSlL_e, eSlM_e, apS_e, apSV_e, iSeq_e, iSeqK_e, iSeqV_e, iSeqL_e, items_l, items_t, items_s, iRange_e, gAdd_ii, gSub_ii, gNeg_i, gAbs_i, gInt_i, gLt_ii, gLt_ss, gLe_ii, gLe_ss, gGt_ii, gGt_ss, gGe_ii, gGe_ss, gEq_ii, gNe_ii, gEq_ss, gNe_ss, gLen_l, gLen_t, gList_s, gList_l, gList_t, gTuple_l, gTuple_t, gIx_l, gIx_t, optD_e, atI_lit, gSet_l, gSetLK_e, List.getElem?_cons_zero, List.getElem?_cons_succ, List.getElem?_nil, List.set_cons_zero, List.set_cons_succ, List.length_cons, List.length_nil, List.map_cons, List.map_nil, List.cons_append, List.nil_append, Nat.zero_add, Nat.add_zero, Nat.reduceAdd, Nat.reduceSub, Nat.sub_self, Nat.reduceLT, Nat.reduceLeDiff, Int.reduceLT, Int.reduceLE, Int.reduceNeg, Int.reduceEq, decide_true, decide_false, ixN_lit, List.set_nil, List.replicate, Int.reduceAdd, Int.reduceSub, reduceCtorEq, Bool.not_true, Bool.not_false, List.take_succ_cons, List.take_zero, List.take_nil, clB_ao, wk_e, exq_e, Wp_ok, Wp_exc, Wp_bad, WpB_ok, WpB_exc, WpB_bad, WpA_ok, WpA_exc, WpA_bad, WpI_ok, WpI_exc, WpI_bad, WpO_ok, WpO_exc, WpO_bad, Ws_nx, Ws_rt, Ws_bk, Ws_ct, Ws_exc, Ws_bad, seq_nx, seq_rt, seq_bk, seq_ct, seq_ex, Wp_bind, Wp_toR, Wp_BtoR, Wp_OtoR, WpB_toB, WpB_bind, WpA_toA, WpA_bind, WpI_toI, WpI_AtoI, Ws_toS, Ws_BtoS, Ws_ItoS, Ws_seq, oSq_e, WpO_s, Wp_retS, rtP_nx, rtP_rt, rtP_ex, retS_d, retS_n, retS_o, retS_p, retO_f, retO_l, retO_d, runF_e, cfR_nil, cfR_d, cfR_n, cfR_o, idx_0, idx_s, hs_nil, hs_d, hs_n, hs_o, callF_e, cf1_e, cutR_e, cutX_e, nodB_0, nodB_1, nodB_2, nodB_3, pick_0, pick_c, pickK_e, put_c, put_n, cf2_d, cf2_n, cf2_o, cf2O_e, cf2_x, cfQ_e, cfE_e, Wp_cf2, eCall_k, callK_e, fzQ_d, fzQ_n, lcG_y, eLc_e, eLcI_e, wipeA_nil, wipeA_c, eDnew_e, Nat.reduceBEq, Nat.reduceSub, eGet2_e, eGetI_e, eGetJ_e, eGetK_e, eGetL_e, forP_nx, forP_ct, forP_bk, forP_rt, forP_ex, forP_exq, seq_exq, rtP_exq, cfE_NE, eLcW_e, Wp_eLcI, cutP_nx, cutP_rt, cutP_bk, cutP_ct, cutP_ex, cutP_exq, Int.cast_ofNat_Int, List.length_map, $[$ts:term],*])
local macro_rules | `(tactic| nomatch "w") => `(tactic| simp only [R_bind_ok, R_bind_exc, R_bind_bad, R_toB_ok, R_toB_exc, R_toB_bad, R_toA_ok, R_toA_exc, R_toA_bad, RA_bind_ok, RA_bind_exc, RA_bind_bad, RA_toR_ok, RA_toR_exc, RA_toR_bad, RA_toI_ok, RA_toI_exc, RA_toI_bad, RB_toR_ok, RB_toR_exc, RB_toR_bad, RB_bind_ok, RB_bind_exc, RB_bind_bad, R_toI_ok, R_toI_exc, R_toI_bad, RO_toR_ok, RO_toR_exc, RO_toR_bad, R_toS_ok, R_toS_exc, R_toS_bad, RB_toS_ok, RB_toS_exc, RB_toS_bad, RI_toS_ok, RI_toS_exc, RI_toS_bad, sSeq_e, SR_seq_nx, SR_seq_rt, SR_seq_bk, SR_seq_ct, SR_seq_exc, SR_seq_bad, sNx_e, sBk_e, sCt_e, sBad_e, sRetN_e, sSet_e, sSetK_e, fz1_d, fz1_o, fz1_n, toD_l, toD_d, toD_f, live_l, live_d, sSetO_e, sSetOK_n, sSetOK_d, sSetOK_o, sDrop_e, sDropK_e, sRet_e, sRetK_e, sIf_e, sIfK_t, sIfK_f, sFor_e, sForK_e, turn_e, turnK_s, gN_e, gT_e, gT_l, gsCons_e, gsK_s, gsNil_e, sPut_e, sPutK1_e, sPutK2_e, sPutK3_e, sPutK4_e, apP_e, apPK_e, apPL_e, sUnp_e, sUnpK_e, sUnpL_e, unpV_d, sUnpM_e, sAug_e, sAugJ_e, sAugK_e, sAugL_e, sAugM_e, clB_0, clB_l, clB_d, clB_f, frz_d, frz_n, frz_o, frzK_e, frzs_nil, frzs_c, frzsK_e, frzsL_e, view_d, view_o, viewK_e, view_n, views_nil, views_c, viewsK_e, viewsL_e, eVar_e, eVarK_d, eVarK_o, eC_e, apR_d, apR_o, ap2_e, ap2V_e, eBin_e, eBinK_e, eBinL_e, tBin_e, tBinK_e, tBinL_e, bl2_e, bl2V_e, blR_e, eUn_e, un1_e, un1V_e, tVal_e, tru_e, truV_e, truW_e, truth_n, truth_b, truth_i, truth_t, truth_l, tNt_e, tNtK_e, tAn_e, tAnK_t, tAnK_f, tO_e, tOK_t, tOK_f, tY_e, eAnd_e, eAndK_t, eAndK_f, eOr_e, eOrK_f, eOrK_t, eNot_e, eNotK_e, eIf_e, eIfK_t, eIfK_f, aNil_e, aCons_e, aConsK_e, aConsL_e, eAp_e, ap_e, apV_e, g1_e, g2_e, eMt_e, eMtK_e, eMtV_e, eMtT_e, eMtL_e, apM_e, apMV_e, m1_e, m0_e, tyD_s, tyD_l, eMt0_e, eMt0K_e, eMt0V_e, eMt0T_e, eMu_e, eMuK_e, eMuV_e, eMuT_e, eMuL_e, tyO_l, tyO_d, apU_e, apUK_e, apUL_e, apUM_e, u1_e, u0_e, eMu0_e, eMu0K_e, eMu0V_e, eMu0T_e, eTup_e, eLst_e, mkT_e, mkL_e, mkTK_0, mkLK_0, mkTK_1, mkLK_1, mkTK_2, mkLK_2, mkTK_3, mkLK_3, mkTK_4, mkLK_4, mkTK_5, mkLK_5, mkTK_6, mkLK_6, mkTK_7, mkLK_7, mkTK_8, mkLK_8, oNone_e, oSome_e, oSomeK_e, eSl_e, eSlK_e, eSlL_e, eSlM_e, apS_e, apSV_e, iSeq_e, iSeqK_e, iSeqV_e, iSeqL_e, items_l, items_t, items_s, iRange_e, gAdd_ii, gSub_ii, gNeg_i, gAbs_i, gInt_i, gLt_ii, gLt_ss, gLe_ii, gLe_ss, gGt_ii, gGt_ss, gGe_ii, gGe_ss, gEq_ii, gNe_ii, gEq_ss, gNe_ss, gLen_l, gLen_t, gList_s, gList_l, gList_t, gTuple_l, gTuple_t, gIx_l, gIx_t, optD_e, atI_lit, gSet_l, gSetLK_e, List.getElem?_cons_zero, List.getElem?_cons_succ, List.getElem?_nil, List.set_cons_zero, List.set_cons_succ, List.length_cons, List.length_nil, List.map_cons, List.map_nil, List.cons_append, List.nil_append, Nat.zero_add, Nat.add_zero, Nat.reduceAdd, Nat.reduceSub, Nat.sub_self, Nat.reduceLT, Nat.reduceLeDiff, Int.reduceLT, Int.reduceLE, Int.reduceNeg, Int.reduceEq, decide_true, decide_false, ixN_lit, List.set_nil, List.replicate, Int.reduceAdd, Int.reduceSub, reduceCtorEq, Bool.not_true, Bool.not_false, List.take_succ_cons, List.take_zero, List.take_nil, clB_ao, wk_e, exq_e, Wp_ok, Wp_exc, Wp_bad, WpB_ok, WpB_exc, WpB_bad, WpA_ok, WpA_exc, WpA_bad, WpI_ok, WpI_exc, WpI_bad, WpO_ok, WpO_exc, WpO_bad, Ws_nx, Ws_rt, Ws_bk, Ws_ct, Ws_exc, Ws_bad, seq_nx, seq_rt, seq_bk, seq_ct, seq_ex, Wp_bind, Wp_toR, Wp_BtoR, Wp_OtoR, WpB_toB, WpB_bind, WpA_toA, WpA_bind, WpI_toI, WpI_AtoI, Ws_toS, Ws_BtoS, Ws_ItoS, Ws_seq, oSq_e, WpO_s, Wp_retS, rtP_nx, rtP_rt, rtP_ex, retS_d, retS_n, retS_o, retS_p, retO_f, retO_l, retO_d, runF_e, cfR_nil, cfR_d, cfR_n, cfR_o, idx_0, idx_s, hs_nil, hs_d, hs_n, hs_o, callF_e, cf1_e, cutR_e, cutX_e, nodB_0, nodB_1, nodB_2, nodB_3, pick_0, pick_c, pickK_e, put_c, put_n, cf2_d, cf2_n, cf2_o, cf2O_e, cf2_x, cfQ_e, cfE_e, Wp_cf2, eCall_k, callK_e, fzQ_d, fzQ_n, lcG_y, eLc_e, eLcI_e, wipeA_nil, wipeA_c, eDnew_e, Nat.reduceBEq, Nat.reduceSub, eGet2_e, eGetI_e, eGetJ_e, eGetK_e, eGetL_e, forP_nx, forP_ct, forP_bk, forP_rt, forP_ex, forP_exq, seq_exq, rtP_exq, cfE_NE, eLcW_e, Wp_eLcI, cutP_nx, cutP_rt, cutP_bk, cutP_ct, cutP_ex, cutP_exq, Int.cast_ofNat_Int, List.length_map])

/-! ### plain forms over few names -/
def fP (f : Int × List (Str × Int)) : D := fD f.1 f.2
theorem fP_e (f : Int × List (Str × Int)) : fP f = .tup [.int f.1, .tup (f.2.map pD)] := rfl
structure Fo (ns : List Str) (B : Nat) (f : Int × List (Str × Int)) : Prop where
  nf : nf f.2 = f.2
  c : f.1.natAbs < B
  n : ∀ p ∈ f.2, p.1 ∈ ns ∧ p.2.natAbs < B
theorem Fo.len {ns : List Str} {B : Nat} {f : Int × List (Str × Int)} (h : Fo ns B f) : f.2.length ≤ ns.length := by
  rw [← h.nf]
  exact Nat.le_trans (nf_len _) (keys_in fun p hp => (h.n p hp).1)
theorem Fo.le {ns : List Str} {A B : Nat} {f : Int × List (Str × Int)} (h : Fo ns A f) (hAB : A ≤ B) : Fo ns B f := ⟨h.nf, Nat.lt_of_lt_of_le h.c hAB, fun p hp => ⟨(h.n p hp).1, Nat.lt_of_lt_of_le (h.n p hp).2 hAB⟩⟩
theorem pd_fo {ns : List Str} {B : Nat} {f : Int × List (Str × Int)} (h : Fo ns B f) (hn : ∀ s ∈ ns, Nm s) : PD 3 (fP f) := by
  refine .tup _ _ fun d hd => ?_
  rcases List.mem_cons.mp hd with rfl | hd
  · exact .int _ _
  rw [List.mem_singleton.mp hd]
  refine .tup _ _ fun d hd => ?_
  obtain ⟨p, hp, rfl⟩ := List.mem_map.mp hd
  refine .tup _ _ fun d hd => ?_
  rcases List.mem_cons.mp hd with rfl | hd
  · exact .str _ _ (hn _ (h.n p hp).1).ok
  rw [List.mem_singleton.mp hd]
  exact .int _ _
/-- what a sum of pairs makes -/
theorem fo_nf {ns : List Str} {B : Nat} {c : Int} {ps : List (Str × Int)} (hc : c.natAbs < B) (hn : ∀ p ∈ ps, p.1 ∈ ns) (hb : ∀ k, (co ps k).natAbs < B) : Fo ns B (c, nf ps) := by
  refine ⟨nf_nf ps, hc, fun p hp => ⟨?_, ?_⟩⟩
  · obtain ⟨q, hq, e⟩ := List.mem_map.mp (nf_names hp)
    rw [← e]; exact hn q hq
  · rw [nf_mem hp]; exact hb _
theorem fo_0 {ns : List Str} {B : Nat} {c : Int} (hc : c.natAbs < B) : Fo ns B (c, []) := ⟨nf_nil, hc, fun p hp => by cases hp⟩
section
variable {Q : AV → SS → Prop}
theorem form_e {ps : List (Str × Int)} {c : Int} (hl : ps.length ≤ 1000) (hk : (keysOf ps).length < 64) : m_form [.dat (.int c), .dat (.lst (ps.map pD))] [] = .ok (.dat (fD c (nf ps))) [] := form_ok (by omega) hk c rfl
def b_law_drawn : AE → SS → SR :=
(sSeq (sSet 2 (eLc (([("name", 3)] : List (Str × Nat)).map (·.2)) (iSeq (eVar 1)) (gN 3) (tBin gGt (eCall 2 m_law_draw (aCons (eVar 0) (aCons (eC (.int 4)) aNil))) (eC (.int 0))) (eTup (aCons (eVar 3) (aCons (eCall 1 m_law_number (aCons (eVar 0) aNil)) aNil)))))
(sRet (eCall 2 m_form (aCons (eCall 1 m_law_number (aCons (eVar 0) aNil)) (aCons (eVar 2) aNil)))))
def m_law_drawn : List AV → SS → R := runF 4 b_law_drawn
theorem drawn_w {st : Sta} {ns : List Str} (hn : ns.length ≤ 20) (h : ∀ (f : Int × List (Str × Int)) (st' : Sta), Fo ns (10 ^ 46) f → Q (.dat (fP f)) [st'.ao]) : Wp NE Q (m_law_drawn [.own 0, .dat (.lst (ns.map D.str))] [st.ao]) := by
  unfold m_law_drawn b_law_drawn
  nomatch "w"
  refine lc_w (fun k xs S => ∃ (ps : List (Str × Int)) (st : Sta), xs = ps.map pD ∧ S = [st.ao] ∧ ps.length ≤ k ∧ ∀ p ∈ ps, p.1 ∈ ns ∧ p.2.natAbs < 10 ^ 44) (by rw [List.length_map]; omega) ⟨[], st, rfl, rfl, Nat.le_refl _, fun p h => by cases h⟩ ?_ ?_
  · rintro k d xs S hk ⟨ps, st, rfl, rfl, hl, hp⟩
    rw [List.getElem?_map] at hk
    cases hq : ns[k]? with
    | none => rw [hq] at hk; cases hk
    | some n =>
    rw [hq] at hk
    cases hk
    nomatch "w", lcG_e
    refine draw_w (by omega) (by omega) fun v st1 hv => ?_
    nomatch "w"
    refine ⟨fun _ => ?_, fun _ => ⟨ps, st1, rfl, rfl, by omega, hp⟩⟩
    refine number_w fun x st2 hx => ?_
    nomatch "w"
    refine ⟨ps ++ [(n, x)], st2, by rw [List.map_append]; rfl, rfl, by rw [List.length_append]; show _ + 1 ≤ _; omega, fun p h => ?_⟩
    rcases List.mem_append.mp h with h | h
    · exact hp p h
    · rw [List.mem_singleton.mp h]; exact ⟨List.mem_of_getElem? hq, hx⟩
  · rintro xs S _ ⟨ps, st1, rfl, rfl, hl, hp⟩
    rw [List.length_map] at hl
    nomatch "w"
    refine number_w fun c st2 hc => ?_
    have hk : (keysOf ps).length < 64 := Nat.lt_of_le_of_lt (keys_in fun p h => (hp p h).1) (by omega)
    nomatch "w", form_e (show ps.length ≤ 1000 by omega) hk
    refine h (c, Ew.nf ps) st2 (fo_nf (Nat.lt_of_lt_of_le hc (by decide)) (fun p h => (hp p h).1) fun k => ?_)
    have := co_bound (B := 10 ^ 44) (fun p h => Nat.le_of_lt (hp p h).2) k
    have h5 : ps.length * 10 ^ 44 ≤ 20 * 10 ^ 44 := Nat.mul_le_mul_right _ (by omega)
    omega
/-! ### sums with weights -/
abbrev Pt := Int × Int × List (Str × Int)
theorem sp_cons (q : Pt) (qs : List Pt) : sp (q :: qs) = (q.2.2.map fun p => (p.1, q.1 * p.2)) ++ sp qs := rfl
theorem sc_cons (q : Pt) (qs : List Pt) : sc (q :: qs) = q.1 * q.2.1 + sc qs := rfl
theorem sp_names {qs : List Pt} {ns : List Str} (h : ∀ q ∈ qs, ∀ p ∈ q.2.2, p.1 ∈ ns) : ∀ p ∈ sp qs, p.1 ∈ ns := by
  intro p hp
  unfold sp at hp
  obtain ⟨q, hq, hp⟩ := List.mem_flatMap.mp hp
  obtain ⟨r, hr, rfl⟩ := List.mem_map.mp hp
  exact h q hq r hr
theorem sp_len {qs : List Pt} {n : Nat} (h : ∀ q ∈ qs, q.2.2.length ≤ n) : (sp qs).length ≤ qs.length * n := by
  induction qs with
  | nil => exact Nat.zero_le _
  | cons q qs ih =>
    have := ih fun r hr => h r (List.mem_cons_of_mem _ hr)
    have h1 := h q (List.mem_cons_self ..)
    rw [sp_cons, List.length_append, List.length_map, List.length_cons, Nat.succ_mul]
    omega
theorem sp_bd {qs : List Pt} {A B : Nat} (h : ∀ q ∈ qs, q.1.natAbs ≤ A ∧ ∀ p ∈ q.2.2, p.2.natAbs ≤ B) : ∀ p ∈ sp qs, p.2.natAbs ≤ A * B := by
  intro p hp
  unfold sp at hp
  obtain ⟨q, hq, hp⟩ := List.mem_flatMap.mp hp
  obtain ⟨r, hr, rfl⟩ := List.mem_map.mp hp
  show (q.1 * r.2).natAbs ≤ _
  rw [Int.natAbs_mul]
  exact Nat.mul_le_mul (h q hq).1 ((h q hq).2 r hr)
theorem sc_bd {qs : List Pt} {A B : Nat} (h : ∀ q ∈ qs, q.1.natAbs ≤ A ∧ q.2.1.natAbs ≤ B) : (sc qs).natAbs ≤ qs.length * (A * B) := by
  induction qs with
  | nil => exact Nat.zero_le _
  | cons q qs ih =>
    have := ih fun r hr => h r (List.mem_cons_of_mem _ hr)
    have h1 := h q (List.mem_cons_self ..)
    have h2 : (q.1 * q.2.1).natAbs ≤ A * B := by rw [Int.natAbs_mul]; exact Nat.mul_le_mul h1.1 h1.2
    rw [sc_cons, List.length_cons, Nat.succ_mul]
    omega
/-- the sum of parts is a plain form -/
theorem fo_sum {qs : List Pt} {ns : List Str} {A B C : Nat} (hn : ns.length ≤ 20) (hq : ∀ q ∈ qs, q.1.natAbs ≤ A ∧ Fo ns B q.2) (hl : qs.length ≤ 50) (hC : 1000 * (A * B) < C) : Fo ns C (sc qs, nf (sp qs)) := by
  have l1 := sp_len (n := 20) fun q h => Nat.le_trans (hq q h).2.len hn
  have b1 := sp_bd (A := A) (B := B) fun q h => ⟨(hq q h).1, fun p hp => Nat.le_of_lt ((hq q h).2.n p hp).2⟩
  have b2 := sc_bd (A := A) (B := B) fun q h => ⟨(hq q h).1, Nat.le_of_lt (hq q h).2.c⟩
  have h5 : qs.length * (A * B) ≤ 50 * (A * B) := Nat.mul_le_mul_right _ hl
  refine fo_nf (by omega) (sp_names fun q h p hp => ((hq q h).2.n p hp).1) fun k => ?_
  have := co_bound b1 k
  have h6 : (sp qs).length * (A * B) ≤ 1000 * (A * B) := Nat.mul_le_mul_right _ (by omega)
  omega
theorem sum_e {qs : List Pt} {ns : List Str} {A B : Nat} (hn : ns.length ≤ 20) (hq : ∀ q ∈ qs, q.1.natAbs ≤ A ∧ Fo ns B q.2) (hl : qs.length ≤ 50) (hA : A < 10 ^ 200) (hB : B ≤ 10 ^ 200) : m_law_sum [.dat (.lst (qs.map partD))] [] = .ok (.dat (fP (sc qs, nf (sp qs)))) [] := by
  have l1 := sp_len (n := 20) fun q h => Nat.le_trans (hq q h).2.len hn
  refine sum_ok (by omega) (Nat.lt_of_le_of_lt (keys_in (sp_names fun q h p hp => ((hq q h).2.n p hp).1)) (by omega)) fun q h => ⟨Nat.lt_of_le_of_lt (hq q h).1 hA, Nat.lt_of_lt_of_le (hq q h).2.c hB, fun p hp => Nat.lt_of_lt_of_le ((hq q h).2.n p hp).2 hB⟩
theorem partD_e (q : Pt) : partD q = .tup [.int q.1, fP q.2] := rfl
/-- a multiple, as a sum of one part -/
theorem times_e {ns : List Str} {B : Nat} {k : Int} {f : Int × List (Str × Int)} (hf : Fo ns B f) (hn : ns.length ≤ 20) (hk : k.natAbs < 10 ^ 200) (hB : B ≤ 10 ^ 200) : m_times [.dat (.int k), .dat (fP f)] [] = .ok (.dat (fP (sc [(k, f)], nf (sp [(k, f)])))) [] := by
  have z := times_ok (k := k) (c := f.1) (ps := f.2) (by have := hf.len; omega) hk (Nat.lt_of_lt_of_le hf.c hB) fun p hp => Nat.lt_of_lt_of_le (hf.n p hp).2 hB
  have e : (if k = 0 then fD 0 [] else fD (k * f.1) (f.2.map fun p => (p.1, k * p.2))) = fP (sc [(k, f)], nf (sp [(k, f)])) := by
    rw [sc_one, sp_one]
    unfold fP
    by_cases h0 : k = 0
    · subst h0
      rw [if_pos rfl, Int.zero_mul, nf_zero fun n => by rw [co_mul, Int.zero_mul]]
    · rw [if_neg h0]
      have n2 := nf_mul h0 f.2
      rw [hf.nf] at n2
      show _ = fD (k * f.1) (nf (f.2.map fun p => (p.1, k * p.2)))
      rw [n2]
  rw [e] at z
  exact z
theorem fo_mul {ns : List Str} {B C : Nat} {k : Int} {f : Int × List (Str × Int)} (hf : Fo ns B f) (hn : ns.length ≤ 20) (hC : 1000 * (k.natAbs * B) < C) : Fo ns C (sc [(k, f)], nf (sp [(k, f)])) :=
  fo_sum (A := k.natAbs) hn (fun q hq => by rw [List.mem_singleton.mp hq]; exact ⟨Nat.le_refl _, hf⟩) (by show 1 ≤ 50; omega) hC
/-- the sum of two plain forms -/
theorem plus_e {ns : List Str} {B : Nat} {f g : Int × List (Str × Int)} (hf : Fo ns B f) (hg : Fo ns B g) (hn : ns.length ≤ 20) : m_plus [.dat (fP f), .dat (fP g)] [] = .ok (.dat (fP (f.1 + g.1, nf (f.2 ++ g.2)))) [] := by
  have z := plus_ok (c := f.1) (d := g.1) (ps := f.2) (qs := g.2) (by have := hf.len; have := hg.len; rw [List.length_append]; omega) (Nat.lt_of_le_of_lt (keys_in fun p hp => (List.mem_append.mp hp).elim (fun h => (hf.n p h).1) fun h => (hg.n p h).1) (by omega))
  have e : (if g.2 = [] then fD (f.1 + g.1) f.2 else fD (f.1 + g.1) (nf (f.2 ++ g.2))) = fP (f.1 + g.1, nf (f.2 ++ g.2)) := by
    by_cases h : g.2 = []
    · rw [if_pos h, h, List.append_nil, hf.nf]; rfl
    · rw [if_neg h]; rfl
  rw [e] at z
  exact z
theorem nf_add {ps qs rs ts : List (Str × Int)} (h : ∀ k, co ps k = co rs k) (h2 : ∀ k, co qs k = co ts k) : nf (ps ++ qs) = nf (rs ++ ts) := nf_ext fun k => by rw [co_app, co_app, h, h2]
def b_weighted : AE → SS → SR :=
(sSeq (sSet 2 (eC k_ZERO))
(sSeq (sFor (iZip (aCons (eVar 0) (aCons (eVar 1) aNil))) (gT (gsCons (gN 3) (gsCons (gN 4) gsNil)))
(sIf (tBin gNe (eVar 4) (eC (.int 0))) (sSet 2 (eCall 2 m_plus (aCons (eVar 2) (aCons (eCall 2 m_times (aCons (eVar 4) (aCons (eVar 3) aNil))) aNil))))
sNx))
(sRet (eVar 2))))
def m_weighted : List AV → SS → R := runF 5 b_weighted
theorem zip_fw : ∀ (fs : List (Int × List (Str × Int))) (ws : List Int), zipD (fs.map fP) (ws.map D.int) = (ws.zip fs).map fun p => .tup [fP p.2, .int p.1]
  | [], ws => by cases ws <;> rfl
  | f :: fs, [] => rfl
  | f :: fs, w :: ws => by
    have ih := zip_fw fs ws
    unfold zipD at ih ⊢
    rw [List.map_cons, List.map_cons, List.zip_cons_cons, List.map_cons, ih]
    rfl
theorem sc_snoc (qs : List Pt) (q : Pt) : sc (qs ++ [q]) = sc qs + q.1 * q.2.1 := by rw [sc_app, sc_one]
theorem weighted_e {ns : List Str} {B : Nat} {fs : List (Int × List (Str × Int))} {ws : List Int} (hn : ns.length ≤ 20) (hl : fs.length ≤ 40) (hf : ∀ f ∈ fs, Fo ns B f) (hw : ∀ w ∈ ws, w.natAbs < 10 ^ 60) (hB : B ≤ 10 ^ 100) :
    m_weighted [.dat (.tup (fs.map fP)), .dat (.tup (ws.map D.int))] [] = .ok (.dat (fP (sc (ws.zip fs), nf (sp (ws.zip fs))))) [] := by
  refine Ret.e ?_
  unfold Ret m_weighted b_weighted
  have hz : k_ZERO = fP (0, []) := rfl
  nomatch "w", hz, iZip_e, iZipR_e, iZipK_t
  have hC : 1000 * (10 ^ 60 * B) < 10 ^ 180 := Nat.lt_of_le_of_lt (Nat.mul_le_mul_left _ (Nat.mul_le_mul_left _ hB)) (by decide)
  have fo : ∀ k, Fo ns (10 ^ 180) (sc ((ws.zip fs).take k), nf (sp ((ws.zip fs).take k))) := fun k => fo_sum (A := 10 ^ 60) (B := B) hn (fun q hq => by
    have m := List.of_mem_zip (List.mem_of_mem_take hq)
    exact ⟨Nat.le_of_lt (hw _ m.1), hf _ m.2⟩) (by rw [List.length_take, List.length_zip]; omega) hC
  refine for_w3 2 3 4 rfl rfl rfl (fun k x y z S => S = [] ∧ x = some (.dat (fP (sc ((ws.zip fs).take k), nf (sp ((ws.zip fs).take k)))))) ⟨rfl, by rw [List.take_zero]; show _ = some (AV.dat (fP (0, nf []))); rw [nf_nil]⟩ ?_ ?_
  · rintro k d x y z S hk ⟨rfl, rfl⟩
    rw [zip_fw, List.getElem?_map] at hk
    cases hp : (ws.zip fs)[k]? with
    | none => rw [hp] at hk; cases hk
    | some p =>
    rw [hp] at hk
    cases hk
    have m := List.of_mem_zip (List.mem_of_getElem? hp)
    have et : (ws.zip fs).take (k + 1) = (ws.zip fs).take k ++ [p] := by rw [List.take_add_one, hp]; rfl
    have w2 : p.1.natAbs < 10 ^ 200 := Nat.lt_of_lt_of_le (hw _ m.1) (Nat.pow_le_pow_right (by decide) (by decide))
    have ft := fo_mul (k := p.1) (C := 10 ^ 180) (hf _ m.2) hn (Nat.lt_of_le_of_lt (Nat.mul_le_mul_left _ (Nat.mul_le_mul (Nat.le_of_lt (hw _ m.1)) hB)) (by decide))
    have t1 := times_e (k := p.1) (hf _ m.2) hn w2 (Nat.le_trans hB (Nat.pow_le_pow_right (by decide) (by decide)))
    have t2 := plus_e (fo k) ft hn
    nomatch "w"
    refine if_w (fun h => ?_) (fun h => ?_)
    · nomatch "w", t1, t2
      refine ⟨_, _, _, rfl, by trivial, ?_⟩
      rw [et, sc_snoc]
      have e1 : nf (nf (sp ((ws.zip fs).take k)) ++ nf (sp [p])) = nf (sp ((ws.zip fs).take k ++ [p])) := by
        rw [sp_app]
        exact nf_add (co_nf _) (co_nf _)
      have e2 : sc [p] = p.1 * p.2.1 := sc_one p
      show some (AV.dat (fP (_, nf (_ ++ nf (sp [p]))))) = _
      rw [e1]
      show some (AV.dat (fP (sc _ + sc [p], _))) = _
      rw [e2]
    · nomatch "w"
      refine ⟨_, _, _, rfl, by trivial, ?_⟩
      have h0 : p.1 = 0 := by simpa using h
      rw [et, sc_snoc, h0, Int.zero_mul, Int.add_zero, sp_app]
      have e1 : nf (sp ((ws.zip fs).take k) ++ sp [p]) = nf (sp ((ws.zip fs).take k)) := nf_ext fun n => by
        rw [co_app, sp_one, co_mul, h0, Int.zero_mul, Int.add_zero]
      rw [e1]
  · rintro x y z S ⟨rfl, rfl⟩
    have hzl : (zipD (fs.map fP) (ws.map D.int)).length = (ws.zip fs).length := by
      unfold zipD
      rw [List.length_map, List.length_zip, List.length_zip, List.length_map, List.length_map, Nat.min_comm]
    rw [hzl, List.take_length]
    nomatch "w"
    exact ⟨by trivial, by trivial⟩
end
end Ew

set_option Elab.async false
set_option linter.all false
set_option maxRecDepth 100000
set_option maxHeartbeats 8000000
namespace Ew
open PySem PySem.Spec PyProof.Rows L2

/-! ### rows of numbers, draws, odd data: what many laws share -/
theorem getD_in {xs : List Int} {k : Nat} (h : k < xs.length) : xs.getD k 0 = xs[k] := by
  simp [List.getD, List.getElem?_eq_getElem h]
theorem getD_out {xs : List Int} {k : Nat} (h : xs.length ≤ k) : xs.getD k 0 = 0 := by
  simp [List.getD, List.getElem?_eq_none h]
theorem atI_n {α : Type} {xs : List α} {i : Int} (h0 : 0 ≤ i) (h : i < xs.length) : ∃ x, atI xs i = some x ∧ x ∈ xs ∧ xs[i.toNat]? = some x := by
  obtain ⟨k, rfl⟩ := Int.eq_ofNat_of_zero_le h0
  have hk : k < xs.length := by omega
  exact ⟨xs[k], atI_nat (List.getElem?_eq_getElem hk), List.getElem_mem hk, List.getElem?_eq_getElem hk⟩
theorem atI_map {α : Type} {xs : List α} {f : α → D} {i : Int} (h0 : 0 ≤ i) (h : i < xs.length) : ∃ x, atI (xs.map f) i = some (f x) ∧ x ∈ xs ∧ xs[i.toNat]? = some x := by
  obtain ⟨k, rfl⟩ := Int.eq_ofNat_of_zero_le h0
  have hk : k < xs.length := by omega
  exact ⟨xs[k], atI_nat (by rw [List.getElem?_map, List.getElem?_eq_getElem hk]; rfl), List.getElem_mem hk, List.getElem?_eq_getElem hk⟩
theorem rgN {n : Nat} {S : SS} (h : n ≤ 1000000) : iRg [.dat (.int (n : Nat))] S = .ok (rangeD 0 1 n) S := by
  have rg := iRg_1 (j := (n : Nat)) (S := S) (by omega) (by omega)
  rw [Int.toNat_natCast] at rg
  exact rg
theorem iRg_2 {i j : Int} {S : SS} (h1 : -4611686018427387904 ≤ i) (h2 : i < 4611686018427387904) (h3 : -4611686018427387904 ≤ j) (h4 : j < 4611686018427387904) : iRg [.dat (.int i), .dat (.int j)] S = .ok (rangeD i 1 (j - i).toNat) S := by
  show (match rangeB i && rangeB j with | true => RI.ok (rangeD i 1 (j - i).toNat) S | false => .bad) = _
  have e : rangeB i = true := by unfold rangeB; rw [decide_eq_true h1, decide_eq_true h2]; rfl
  have e2 : rangeB j = true := by unfold rangeB; rw [decide_eq_true h3, decide_eq_true h4]; rfl
  rw [e, e2] <;> rfl
theorem gSlL_to {ds : List D} {i : Int} (h : 0 ≤ i) : gSl (.lst ds) none (some i) = some (.ob (.lst (ds.take i.toNat))) := by
  show some (RD.ob (.lst (cutL ds none (some i)))) = _
  unfold cutL
  rw [sIx_i h, HT.sIx_none, List.drop_zero, Nat.sub_zero, ← List.take_eq_take_min]
theorem gSlL_from {ds : List D} {i : Int} (h : 0 ≤ i) : gSl (.lst ds) (some i) none = some (.ob (.lst (ds.drop i.toNat))) := by
  show some (RD.ob (.lst (cutL ds (some i) none))) = _
  unfold cutL
  rw [sIx_i h, HT.sIx_none]
  by_cases hl : i.toNat ≤ ds.length
  · rw [Nat.min_eq_left hl, List.take_of_length_le (by rw [List.length_drop]; omega)]
  · rw [Nat.min_eq_right (by omega), Nat.sub_self, List.take_zero, List.drop_of_length_le (by omega)]
theorem gMul_b {i j : Int} (h : i.natAbs < 10 ^ 60) (h2 : j.natAbs < 10 ^ 60) : gMul (.int i) (.int j) = some (.dt (.int (i * j))) :=
  gMul_n (Nat.lt_of_lt_of_le h (Nat.pow_le_pow_right (by decide) (by decide))) (Nat.lt_of_lt_of_le h2 (Nat.pow_le_pow_right (by decide) (by decide)))
theorem gMul_N {A B : Nat} {i j : Int} (h : i.natAbs ≤ A) (h2 : j.natAbs ≤ B) (hA : A < 10 ^ 60) (hB : B < 10 ^ 60) : gMul (.int i) (.int j) = some (.dt (.int (i * j))) := gMul_b (Nat.lt_of_le_of_lt h hA) (Nat.lt_of_le_of_lt h2 hB)
theorem gMul_s {i j : Int} (h : i.natAbs < 1000000000) : gMul (.int i) (.int j) = some (.dt (.int (i * j))) := gMul_c' (by omega) (by omega)
theorem mulN {A B : Nat} {i j : Int} (h : i.natAbs ≤ A) (h2 : j.natAbs ≤ B) : (i * j).natAbs ≤ A * B := by rw [Int.natAbs_mul]; exact Nat.mul_le_mul h h2
theorem sum_bound {B : Nat} : ∀ {xs : List Int}, (∀ x ∈ xs, x.natAbs ≤ B) → xs.sum.natAbs ≤ xs.length * B
  | [], _ => Nat.zero_le _
  | x :: xs, h => by
    have ih := sum_bound (xs := xs) fun y hy => h y (List.mem_cons_of_mem _ hy)
    have h1 := h x (List.mem_cons_self ..)
    rw [List.sum_cons, List.length_cons, Nat.succ_mul]
    omega
theorem intsD_map {α : Type} (as : List α) (h : α → Int) : intsD (as.map fun a => D.int (h a)) = some (as.map h) := by
  induction as with
  | nil => rfl
  | cons a as ih => rw [List.map_cons, List.map_cons, intsD, ih]
theorem gSum_map {α : Type} (as : List α) (h : α → Int) : gSum (.lst (as.map fun a => D.int (h a))) = some (.dt (.int (as.map h).sum)) := by
  dsimp only [gSum]
  rw [intsD_map]
theorem gMax_ii {i j : Int} : gMax [.int i, .int j] = some (.dt (.int (if j > i then j else i))) := (rfl)
theorem gMin_ii {i j : Int} : gMin [.int i, .int j] = some (.dt (.int (if j < i then j else i))) := (rfl)
theorem gInt_b {b : Bool} : gInt (.bl b) = some (.dt (.int (if b then 1 else 0))) := (rfl)
theorem gNe_iS {i : Int} {s : Str} : gNe (.int i) (.str s) = some (.dt (.bl true)) := rfl
theorem gNe_bb {a b : Bool} : gNe (.bl a) (.bl b) = some (.dt (.bl (!decide (a = b)))) := rfl
theorem isi_bb {b : Bool} : gIsi (.bl b) (.ty "bool") = some (.dt (.bl true)) := rfl
theorem gApp {ds : List D} {d : D} (h : ds.length < 16777216) : gAppend (.lst ds) d = some (.lst (ds ++ [d]), .non) := by
  dsimp only [gAppend]
  rw [blt_of (show ds.length < line from h)]
theorem gApp1 {d : D} : gAppend (.lst []) d = some (.lst [d], .non) := gApp (by decide)
/-- rows whose numbers are not too big -/
def Bn (B : Nat) (xs : List Int) : Prop := ∀ x ∈ xs, x.natAbs ≤ B
theorem Bn.le {A B : Nat} {xs : List Int} (h : Bn A xs) (hAB : A ≤ B) : Bn B xs := fun x hx => Nat.le_trans (h x hx) hAB
theorem Bn.map {A B : Nat} {xs : List Int} {f : Int → Int} (h : Bn A xs) (hf : ∀ x : Int, x.natAbs ≤ A → (f x).natAbs ≤ B) : Bn B (xs.map f) := fun x hx => by
  obtain ⟨y, hy, rfl⟩ := List.mem_map.mp hx
  exact hf y (h y hy)
theorem Bn.app {A : Nat} {xs ys : List Int} (h : Bn A xs) (h2 : Bn A ys) : Bn A (xs ++ ys) := fun x hx => (List.mem_append.mp hx).elim (h x) (h2 x)
theorem Bn.getD {A : Nat} {xs : List Int} (h : Bn A xs) (k : Nat) : (xs.getD k 0).natAbs ≤ A := by
  by_cases hk : k < xs.length
  · rw [getD_in hk]; exact h _ (List.getElem_mem hk)
  · rw [getD_out (by omega)]; exact Nat.zero_le _
theorem Bn.mov {A B : Nat} {xs : List Int} {i s : Int} (h : Bn A xs) (hs : s.natAbs ≤ B) : Bn (A + B) (movL xs i s) := fun y hy => by
  rcases movL_mem hy with hy | rfl
  · have := h y hy; omega
  · have := h.getD i.toNat; omega
/-- checks of data tell rows of numbers -/
theorem cntD_e {d : D} (h : cntD d = true) : ∃ i : Int, d = .int i ∧ 0 ≤ i := by
  cases d with
  | int i => exact ⟨i, rfl, of_decide_eq_true h⟩
  | _ => cases h
theorem cntsD_e {n : Nat} {d : D} (h : cntsD n d = true) : ∃ ws : List Int, d = tI ws ∧ ws.length = n ∧ ∀ w ∈ ws, 0 ≤ w := by
  cases d with
  | tup ds =>
    simp only [cntsD, Bool.and_eq_true, decide_eq_true_eq, List.all_eq_true] at h
    obtain ⟨h1, h2⟩ := h
    have : ∀ ds : List D, (∀ d ∈ ds, cntD d = true) → ∃ ws : List Int, ds = ws.map D.int ∧ ∀ w ∈ ws, 0 ≤ w := fun ds => by
      induction ds with
      | nil => exact fun _ => ⟨[], rfl, fun w h => by cases h⟩
      | cons d ds ih =>
        intro h
        obtain ⟨ws, rfl, hw⟩ := ih fun d hd => h d (List.mem_cons_of_mem _ hd)
        obtain ⟨i, rfl, hi⟩ := cntD_e (h d (List.mem_cons_self ..))
        exact ⟨i :: ws, rfl, fun w hw2 => (List.mem_cons.mp hw2).elim (fun e => by rw [e]; exact hi) (hw w)⟩
    obtain ⟨ws, rfl, hw⟩ := this ds h2
    exact ⟨ws, rfl, by rw [List.length_map] at h1; omega, hw⟩
  | _ => cases h
/-- whole numbers in the data are not too long -/
def Bi : D → Prop
  | .int i => i.natAbs < 10 ^ 60
  | _ => True
def Bl : D → Prop
  | .tup ds => ∀ d ∈ ds, Bi d
  | _ => True
theorem pl_bi {d : D} (h : Pl d) (h2 : ∀ i, d = .int i → i.natAbs < 10 ^ 60) : Bi d := by
  cases h with
  | int i => exact h2 i rfl
  | str s => trivial
  | tup ds => trivial
theorem bn_of {ws : List Int} (h2 : Bl (tI ws)) : ∀ w ∈ ws, w.natAbs < 10 ^ 60 := fun x hx => h2 _ (List.mem_map_of_mem (f := D.int) hx)
theorem pls_i {xs : List Int} (h : xs.length ≤ 1000) : Pls (.tup (xs.map D.int)) := ⟨by rw [List.length_map]; exact h, fun d hd => by obtain ⟨x, _, rfl⟩ := List.mem_map.mp hd; exact .int _⟩
theorem bl_i {xs : List Int} {B : Nat} (h : Bn B xs) (hB : B < 10 ^ 60) : Bl (.tup (xs.map D.int)) := fun d hd => by
  obtain ⟨x, hx, rfl⟩ := List.mem_map.mp hd
  exact Nat.lt_of_le_of_lt (h x hx) hB
theorem pls_f {xs : List Int} {f : Int → D} (h : xs.length ≤ 1000) (hf : ∀ x, Pl (f x)) : Pls (.tup (xs.map f)) := ⟨by rw [List.length_map]; exact h, fun d hd => by obtain ⟨x, _, rfl⟩ := List.mem_map.mp hd; exact hf x⟩
theorem bl_f {xs : List Int} {f : Int → D} (hf : ∀ x, Bi (f x)) : Bl (.tup (xs.map f)) := fun d hd => by
  obtain ⟨x, _, rfl⟩ := List.mem_map.mp hd
  exact hf x
theorem pls_s {xs : List Int} (h : xs.length ≤ 900) : Pls (.tup (xs.map D.int ++ [.int 0])) := by
  have e : xs.map D.int ++ [.int 0] = (xs ++ [0]).map D.int := by rw [List.map_append]; rfl
  rw [e]; exact pls_i (by rw [List.length_append]; show _ + 1 ≤ _; omega)
theorem bl_s {xs : List Int} {B : Nat} (h : Bn B xs) (hB : B < 10 ^ 60) : Bl (.tup (xs.map D.int ++ [.int 0])) := by
  have e : xs.map D.int ++ [.int 0] = (xs ++ [0]).map D.int := by rw [List.map_append]; rfl
  rw [e]; exact bl_i (h.app (ys := [0]) fun x hx => by rw [List.mem_singleton.mp hx]; exact Nat.zero_le _) hB
theorem pls_l {xs : List Int} (h : xs.length ≤ 900) : Pls (.tup (xs.map D.int).dropLast) := by
  rw [← List.map_dropLast]; exact pls_i (by rw [List.length_dropLast]; omega)
theorem bl_l {xs : List Int} {B : Nat} (h : Bn B xs) (hB : B < 10 ^ 60) : Bl (.tup (xs.map D.int).dropLast) := by
  rw [← List.map_dropLast]; exact bl_i (fun x hx => h x ((List.dropLast_sublist xs).subset hx)) hB
theorem no_int_s {s : Str} : ∀ i, D.str s = .int i → i.natAbs < 10 ^ 60 := fun i h => by cases h
theorem no_int_t {s : List D} : ∀ i, D.tup s = .int i → i.natAbs < 10 ^ 60 := fun i h => by cases h
/-- a list of data of a kind -/
def AllL (C : D → Prop) (n : Nat) (ds : List D) : Prop := ds.length ≤ n ∧ ∀ d ∈ ds, C d
section
variable {C : D → Prop}
theorem AllL.nil : AllL C 0 [] := ⟨Nat.le_refl _, fun d h => by cases h⟩
theorem AllL.cons {n : Nat} {d : D} {ds : List D} (h : C d) (h2 : AllL C n ds) : AllL C (n + 1) (d :: ds) := ⟨Nat.succ_le_succ h2.1, fun e he => by
  rcases List.mem_cons.mp he with rfl | he
  · exact h
  · exact h2.2 e he⟩
theorem AllL.app {n m : Nat} {ds es : List D} (h : AllL C n ds) (h2 : AllL C m es) : AllL C (n + m) (ds ++ es) := ⟨by rw [List.length_append]; exact Nat.add_le_add h.1 h2.1, fun e he => (List.mem_append.mp he).elim (h.2 e) (h2.2 e)⟩
theorem AllL.mono {n m : Nat} {ds : List D} (h : AllL C n ds) (h2 : n ≤ m) : AllL C m ds := ⟨Nat.le_trans h.1 h2, h.2⟩
theorem AllL.map {C2 : D → Prop} {n : Nat} {ds : List D} {f : D → D} (h : AllL C n ds) (hf : ∀ d, C d → C2 (f d)) : AllL C2 n (ds.map f) := ⟨by rw [List.length_map]; exact h.1, fun d hd => by
  obtain ⟨e, he, rfl⟩ := List.mem_map.mp hd
  exact hf e (h.2 e he)⟩
end
section
variable {E : Exn → SS → Prop} {Q : AV → SS → Prop} {g : D → AE → Option AE} {e : AE → SS → R} {ρ : AE} {S : SS}
theorem mapI {α : Type} {as : List α} {f : α → Int} : (as.map fun a => D.int (f a)) = (as.map f).map D.int := by rw [List.map_map]; rfl
/-- a step over all numbers of a row -/
theorem lc_int (xs : List Int) (f : Int → Int) (hl : xs.length ≤ 1000000) (hs : ∀ x ∈ xs, lcG tY e S (fun _ => False) (fun y S' => y = .int (f x) ∧ S' = S) (g (.int x) ρ)) (hq : Q (.new (.lst ((xs.map f).map D.int))) S) : Wp E Q (eLcJ (lcF g tY e ρ (xs.map D.int) S)) := by
  refine lc_m xs D.int (fun x => .int (f x)) (by omega) hs ?_
  rw [mapI]; exact hq
/-- draws for each item -/
theorem lc_draws {st : Sta} {ds : List D} (Pi : Int → Prop) (hl : ds.length ≤ 1000000) (hs : ∀ d ∈ ds, ∀ st : Sta, lcG tY e [st.ao] (fun _ => False) (fun y S' => ∃ i st', y = .int i ∧ Pi i ∧ S' = [Sta.ao st']) (g d ρ))
    (hq : ∀ (xs : List Int) (st' : Sta), xs.length = ds.length → (∀ x ∈ xs, Pi x) → Q (.new (.lst (xs.map D.int))) [st'.ao]) : Wp E Q (eLcJ (lcF g tY e ρ ds [st.ao])) := by
  refine lc_g D.int (fun _ i => Pi i) (fun S => ∃ st' : Sta, S = [st'.ao]) (by omega) ⟨st, rfl⟩ ?_ ?_
  · rintro k d S hk ⟨st', rfl⟩
    have z := hs d (List.mem_of_getElem? hk) st'
    cases hg : g d ρ with
    | none => rw [hg] at z; exact z.elim
    | some ρ1 =>
      rw [hg, lcG_y] at z
      rw [lcG_y]
      refine z.mono (fun a S' h => ?_) fun _ _ z => z
      obtain ⟨x, S2, hf, i, st2, rfl, h2, rfl⟩ := h
      exact ⟨_, _, hf, i, rfl, h2, st2, rfl⟩
  · rintro xs S' hl hx ⟨st', rfl⟩
    exact hq xs st' hl fun x hx2 => by
      obtain ⟨k, hk, e⟩ := List.mem_iff_getElem.mp hx2
      exact hx k x (by rw [List.getElem?_eq_getElem hk, e])
/-- the same with a drawing state alone, for any kind of items -/
theorem lc_st {α : Type} {st : Sta} {ds : List D} (o : α → D) (Pa : α → Prop) (hl : ds.length ≤ 1000000) (hs : ∀ d ∈ ds, ∀ st : Sta, lcG tY e [st.ao] (fun _ => False) (fun y S' => ∃ a st', y = o a ∧ Pa a ∧ S' = [Sta.ao st']) (g d ρ))
    (hq : ∀ (as : List α) (st' : Sta), as.length = ds.length → (∀ a ∈ as, Pa a) → Q (.new (.lst (as.map o))) [st'.ao]) : Wp E Q (eLcJ (lcF g tY e ρ ds [st.ao])) := by
  refine lc_g o (fun _ a => Pa a) (fun S => ∃ st' : Sta, S = [st'.ao]) (by omega) ⟨st, rfl⟩ ?_ ?_
  · rintro k d S hk ⟨st', rfl⟩
    have z := hs d (List.mem_of_getElem? hk) st'
    cases hg : g d ρ with
    | none => rw [hg] at z; exact z.elim
    | some ρ1 =>
      rw [hg, lcG_y] at z
      rw [lcG_y]
      refine z.mono (fun a S' h => ?_) fun _ _ z => z
      obtain ⟨x, S2, hf, i, st2, rfl, h2, rfl⟩ := h
      exact ⟨_, _, hf, i, rfl, h2, st2, rfl⟩
  · rintro xs S' hl hx ⟨st', rfl⟩
    exact hq xs st' hl fun x hx2 => by
      obtain ⟨k, hk, e⟩ := List.mem_iff_getElem.mp hx2
      exact hx k x (by rw [List.getElem?_eq_getElem hk, e])
end
end Ew

set_option Elab.async false
set_option linter.all false
set_option maxRecDepth 100000
set_option maxHeartbeats 8000000
namespace Ew
open PySem PySem.Spec PyProof.Rows L2
local macro_rules | `(tactic| nomatch "w", $ts,*) => `(tactic| simp only [R_bind_ok, R_bind_exc, R_bind_bad, R_toB_ok, R_toB_exc, R_toB_bad, R_toA_ok, R_toA_exc, R_toA_bad, RA_bind_ok, RA_bind_exc, RA_bind_bad, RA_toR_ok, RA_toR_exc, RA_toR_bad, RA_toI_ok, RA_toI_exc, RA_toI_bad, RB_toR_ok, RB_toR_exc, RB_toR_bad, RB_bind_ok, RB_bind_exc, RB_bind_bad, R_toI_ok, R_toI_exc, R_toI_bad, RO_toR_ok, RO_toR_exc, RO_toR_bad, R_toS_ok, R_toS_exc, R_toS_bad, RB_toS_ok, RB_toS_exc, RB_toS_bad, RI_toS_ok, RI_toS_exc, RI_toS_bad, sSeq_e, SR_seq_nx, SR_seq_rt, SR_seq_bk, SR_seq_ct, SR_seq_exc, SR_seq_bad, sNx_e, sBk_e, sCt_e, sBad_e, sRetN_e, sSet_e, sSetK_e, fz1_d, fz1_o, fz1_n, toD_l, toD_d, toD_f, live_l, live_d, sSetO_e, sSetOK_n, sSetOK_d, sSetOK_o, sDrop_e, sDropK_e, sRet_e, sRetK_e, sIf_e, sIfK_t, sIfK_f, sFor_e, sForK_e, turn_e, turnK_s, gN_e, gT_e, gT_l, gsCons_e, gsK_s, gsNil_e, sPut_e, sPutK1_e, sPutK2_e, sPutK3_e, sPutK4_e, apP_e, apPK_e, apPL_e, sUnp_e, sUnpK_e, sUnpL_e, unpV_d, sUnpM_e, sAug_e, sAugJ_e, sAugK_e, sAugL_e, sAugM_e, clB_0, clB_l, clB_d, clB_f, frz_d, frz_n, frz_o, frzK_e, frzs_nil, frzs_c, frzsK_e, frzsL_e, view_d, view_o, viewK_e, view_n, views_nil, views_c, viewsK_e, viewsL_e, eVar_e, eVarK_d, eVarK_o, eC_e, apR_d, apR_o, ap2_e, ap2V_e, eBin_e, eBinK_e, eBinL_e, tBin_e, tBinK_e, tBinL_e, bl2_e, bl2V_e, blR_e, eUn_e, un1_e, un1V_e, tVal_e, tru_e, truV_e, truW_e, truth_n, truth_b, truth_i, truth_t, truth_l, tNt_e, tNtK_e, tAn_e, tAnK_t, tAnK_f, tO_e, tOK_t, tOK_f, tY_e, eAnd_e, eAndK_t, eAndK_f, eOr_e, eOrK_f, eOrK_t, eNot_e, eNotK_e, eIf_e, eIfK_t, eIfK_f, aNil_e, aCons_e, aConsK_e, aConsL_e, eAp_e, ap_e, apV_e, g1_e, g2_e, eMt_e, eMtK_e, eMtV_e, eMtT_e, eMtL_e, apM_e, apMV_e, m1_e, m0_e, tyD_s, tyD_l, eMt0_e, eMt0K_e, eMt0V_e, eMt0T_e, eMu_e, eMuK_e, eMuV_e, eMuT_e, eMuL_e, tyO_l, tyO_d, apU_e, apUK_e, apUL_e, apUM_e, u1_e, u0_e, eMu0_e, eMu0K_e, eMu0V_e, eMu0T_e, eTup_e, eLst_e, mkT_e, mkL_e, mkTK_0, mkLK_0, mkTK_1, mkLK_1, mkTK_2, mkLK_2, mkTK_3, mkLK_3, mkTK_4, mkLK_4, mkTK_5, mkLK_5, mkTK_6, mkLK_6, mkTK_7, mkLK_7, mkTK_8, mkLK_8, oNone_e, oSome_e, oSomeK_e, eSl_e, eSlK_e, eSlL_e, eSlM_e, apS_e, apSV_e, iSeq_e, iSeqK_e, iSeqV_e, iSeqL_e, items_l, items_t, items_s, iRange_e, gAdd_ii, gSub_ii, gNeg_i, gAbs_i, gInt_i, gLt_ii, gLt_ss, gLe_ii, gLe_ss, gGt_ii, gGt_ss, gGe_ii, gGe_ss, gEq_ii, gNe_ii, gEq_ss, gNe_ss, gLen_l, gLen_t, gList_s, gList_l, gList_t, gTuple_l, gTuple_t, gIx_l, gIx_t, optD_e, atI_lit, gSet_l, gSetLK_e, List.getElem?_cons_zero, List.getElem?_cons_succ, List.getElem?_nil, List.set_cons_zero, List.set_cons_succ, List.length_cons, List.length_nil, List.map_cons, List.map_nil, List.cons_append, List.nil_append, Nat.zero_add, Nat.add_zero, Nat.reduceAdd, Nat.reduceSub, Nat.sub_self, Nat.reduceLT, Nat.reduceLeDiff, Int.reduceLT, Int.reduceLE, Int.reduceNeg, Int.reduceEq, decide_true, decide_false, ixN_lit, List.set_nil, List.replicate, Int.reduceAdd, Int.reduceSub, reduceCtorEq, Bool.not_true, Bool.not_false, List.take_succ_cons, List.take_zero, List.take_nil, clB_ao, wk_e, exq_e, Wp_ok, Wp_exc, Wp_bad, WpB_ok, WpB_exc, WpB_bad, WpA_ok, WpA_exc, WpA_bad, WpI_ok, WpI_exc, WpI_bad, WpO_ok, WpO_exc, WpO_bad, Ws_nx, Ws_rt, Ws_bk, Ws_ct, Ws_exc, Ws_bad, seq_nx, seq_rt, seq_bk, seq_ct, seq_ex, Wp_bind, Wp_toR, Wp_BtoR, Wp_OtoR, WpB_toB, WpB_bind, WpA_toA, WpA_bind, WpI_toI, WpI_AtoI, Ws_toS, Ws_BtoS, Ws_ItoS, Ws_seq, oSq_e, WpO_s, Wp_retS, rtP_nx, rtP_rt, rtP_ex, retS_d, retS_n, retS_o, retS_p, retO_f, retO_l, retO_d, runF_e, cfR_nil, cfR_d, cfR_n, cfR_o, idx_0, idx_s, hs_nil, hs_d, hs_n, hs_o, callF_e, cf1_e, cutR_e, cutX_e, nodB_0, nodB_1, nodB_2, nodB_3, pick_0, pick_c, pickK_e, put_c, put_n, cf2_d, cf2_n, cf2_o, cf2O_e, cf2_x, cfQ_e, cfE_e, Wp_cf2, eCall_k, callK_e, fzQ_d, fzQ_n, lcG_y, eLc_e, eLcI_e, wipeA_nil, wipeA_c, eDnew_e, Nat.reduceBEq, Nat.reduceSub, eGet2_e, eGetI_e, eGetJ_e, eGetK_e, eGetL_e, forP_nx, forP_ct, forP_bk, forP_rt, forP_ex, forP_exq, seq_exq, rtP_exq, cfE_NE, eLcW_e, Wp_eLcI, cutP_nx, cutP_rt, cutP_bk, cutP_ct, cutP_ex, cutP_exq, Int.cast_ofNat_Int, List.length_map, $[$ts:term],*])
local macro_rules | `(tactic| nomatch "w") => `(tactic| simp only [R_bind_ok, R_bind_exc, R_bind_bad, R_toB_ok, R_toB_exc, R_toB_bad, R_toA_ok, R_toA_exc, R_toA_bad, RA_bind_ok, RA_bind_exc, RA_bind_bad, RA_toR_ok, RA_toR_exc, RA_toR_bad, RA_toI_ok, RA_toI_exc, RA_toI_bad, RB_toR_ok, RB_toR_exc, RB_toR_bad, RB_bind_ok, RB_bind_exc, RB_bind_bad, R_toI_ok, R_toI_exc, R_toI_bad, RO_toR_ok, RO_toR_exc, RO_toR_bad, R_toS_ok, R_toS_exc, R_toS_bad, RB_toS_ok, RB_toS_exc, RB_toS_bad, RI_toS_ok, RI_toS_exc, RI_toS_bad, sSeq_e, SR_seq_nx, SR_seq_rt, SR_seq_bk, SR_seq_ct, SR_seq_exc, SR_seq_bad, sNx_e, sBk_e, sCt_e, sBad_e, sRetN_e, sSet_e, sSetK_e, fz1_d, fz1_o, fz1_n, toD_l, toD_d, toD_f, live_l, live_d, sSetO_e, sSetOK_n, sSetOK_d, sSetOK_o, sDrop_e, sDropK_e, sRet_e, sRetK_e, sIf_e, sIfK_t, sIfK_f, sFor_e, sForK_e, turn_e, turnK_s, gN_e, gT_e, gT_l, gsCons_e, gsK_s, gsNil_e, sPut_e, sPutK1_e, sPutK2_e, sPutK3_e, sPutK4_e, apP_e, apPK_e, apPL_e, sUnp_e, sUnpK_e, sUnpL_e, unpV_d, sUnpM_e, sAug_e, sAugJ_e, sAugK_e, sAugL_e, sAugM_e, clB_0, clB_l, clB_d, clB_f, frz_d, frz_n, frz_o, frzK_e, frzs_nil, frzs_c, frzsK_e, frzsL_e, view_d, view_o, viewK_e, view_n, views_nil, views_c, viewsK_e, viewsL_e, eVar_e, eVarK_d, eVarK_o, eC_e, apR_d, apR_o, ap2_e, ap2V_e, eBin_e, eBinK_e, eBinL_e, tBin_e, tBinK_e, tBinL_e, bl2_e, bl2V_e, blR_e, eUn_e, un1_e, un1V_e, tVal_e, tru_e, truV_e, truW_e, truth_n, truth_b, truth_i, truth_t, truth_l, tNt_e, tNtK_e, tAn_e, tAnK_t, tAnK_f, tO_e, tOK_t, tOK_f, tY_e, eAnd_e, eAndK_t, eAndK_f, eOr_e, eOrK_f, eOrK_t, eNot_e, eNotK_e, eIf_e, eIfK_t, eIfK_f, aNil_e, aCons_e, aConsK_e, aConsL_e, eAp_e, ap_e, apV_e, g1_e, g2_e, eMt_e, eMtK_e, eMtV_e, eMtT_e, eMtL_e, apM_e, apMV_e, m1_e, m0_e, tyD_s, tyD_l, eMt0_e, eMt0K_e, eMt0V_e, eMt0T_e, eMu_e, eMuK_e, eMuV_e, eMuT_e, eMuL_e, tyO_l, tyO_d, apU_e, apUK_e, apUL_e, apUM_e, u1_e, u0_e, eMu0_e, eMu0K_e, eMu0V_e, eMu0T_e, eTup_e, eLst_e, mkT_e, mkL_e, mkTK_0, mkLK_0, mkTK_1, mkLK_1, mkTK_2, mkLK_2, mkTK_3, mkLK_3, mkTK_4, mkLK_4, mkTK_5, mkLK_5, mkTK_6, mkLK_6, mkTK_7, mkLK_7, mkTK_8, mkLK_8, oNone_e, oSome_e, oSomeK_e, eSl_e, eSlK_e, eSlL_e, eSlM_e, apS_e, apSV_e, iSeq_e, iSeqK_e, iSeqV_e, iSeqL_e, items_l, items_t, items_s, iRange_e, gAdd_ii, gSub_ii, gNeg_i, gAbs_i, gInt_i, gLt_ii, gLt_ss, gLe_ii, gLe_ss, gGt_ii, gGt_ss, gGe_ii, gGe_ss, gEq_ii, gNe_ii, gEq_ss, gNe_ss, gLen_l, gLen_t, gList_s, gList_l, gList_t, gTuple_l, gTuple_t, gIx_l, gIx_t, optD_e, atI_lit, gSet_l, gSetLK_e, List.getElem?_cons_zero, List.getElem?_cons_succ, List.getElem?_nil, List.set_cons_zero, List.set_cons_succ, List.length_cons, List.length_nil, List.map_cons, List.map_nil, List.cons_append, List.nil_append, Nat.zero_add, Nat.add_zero, Nat.reduceAdd, Nat.reduceSub, Nat.sub_self, Nat.reduceLT, Nat.reduceLeDiff, Int.reduceLT, Int.reduceLE, Int.reduceNeg, Int.reduceEq, decide_true, decide_false, ixN_lit, List.set_nil, List.replicate, Int.reduceAdd, Int.reduceSub, reduceCtorEq, Bool.not_true, Bool.not_false, List.take_succ_cons, List.take_zero, List.take_nil, clB_ao, wk_e, exq_e, Wp_ok, Wp_exc, Wp_bad, WpB_ok, WpB_exc, WpB_bad, WpA_ok, WpA_exc, WpA_bad, WpI_ok, WpI_exc, WpI_bad, WpO_ok, WpO_exc, WpO_bad, Ws_nx, Ws_rt, Ws_bk, Ws_ct, Ws_exc, Ws_bad, seq_nx, seq_rt, seq_bk, seq_ct, seq_ex, Wp_bind, Wp_toR, Wp_BtoR, Wp_OtoR, WpB_toB, WpB_bind, WpA_toA, WpA_bind, WpI_toI, WpI_AtoI, Ws_toS, Ws_BtoS, Ws_ItoS, Ws_seq, oSq_e, WpO_s, Wp_retS, rtP_nx, rtP_rt, rtP_ex, retS_d, retS_n, retS_o, retS_p, retO_f, retO_l, retO_d, runF_e, cfR_nil, cfR_d, cfR_n, cfR_o, idx_0, idx_s, hs_nil, hs_d, hs_n, hs_o, callF_e, cf1_e, cutR_e, cutX_e, nodB_0, nodB_1, nodB_2, nodB_3, pick_0, pick_c, pickK_e, put_c, put_n, cf2_d, cf2_n, cf2_o, cf2O_e, cf2_x, cfQ_e, cfE_e, Wp_cf2, eCall_k, callK_e, fzQ_d, fzQ_n, lcG_y, eLc_e, eLcI_e, wipeA_nil, wipeA_c, eDnew_e, Nat.reduceBEq, Nat.reduceSub, eGet2_e, eGetI_e, eGetJ_e, eGetK_e, eGetL_e, forP_nx, forP_ct, forP_bk, forP_rt, forP_ex, forP_exq, seq_exq, rtP_exq, cfE_NE, eLcW_e, Wp_eLcI, cutP_nx, cutP_rt, cutP_bk, cutP_ct, cutP_ex, cutP_exq, Int.cast_ofNat_Int, List.length_map])

/-! ### tables of numbers by names; forms at points -/
theorem fill_snoc (ps : List (Str × D)) (p : Str × D) (es : List (Key × D)) : fill (ps ++ [p]) es = dput (fill ps es) (.inr p.1) p.2 := by
  unfold fill; rw [List.foldl_append]; rfl
def ptD (pts : List (Str × Int)) : List (Str × D) := pts.map fun q => (q.1, .int q.2)
theorem ptD_snoc (pts : List (Str × Int)) (q : Str × Int) : ptD (pts ++ [q]) = ptD pts ++ [(q.1, .int q.2)] := by unfold ptD; rw [List.map_append]; rfl
theorem ptD_len (pts : List (Str × Int)) : (ptD pts).length = pts.length := by unfold ptD; rw [List.length_map]
theorem pD_pN (pts : List (Str × Int)) : pts.map pD = (ptD pts).map pN := by unfold ptD; rw [List.map_map]; rfl
def wOf (es : List (Key × D)) (n : Str) : Int := match dget es (.inr n) with
  | some (.int x) => x
  | _ => 0
structure Tab (es : List (Key × D)) (ns : List Str) (B : Nat) : Prop where
  get : ∀ n ∈ ns, dget es (.inr n) = some (.int (wOf es n))
  bd : ∀ n ∈ ns, (wOf es n).natAbs < B
theorem look_pt : ∀ {pts : List (Str × Int)} {n : Str}, n ∈ pts.map (·.1) → ∃ x, look (ptD pts) n = some (.int x) ∧ (n, x) ∈ pts
  | p :: pts, n, h => by
    show ∃ x, (match look (ptD pts) n with | some d => some d | none => if p.1 = n then some (.int p.2) else none) = some (.int x) ∧ _
    by_cases hn : n ∈ pts.map (·.1)
    · obtain ⟨x, e, m⟩ := look_pt hn
      rw [e]
      exact ⟨x, rfl, List.mem_cons_of_mem _ m⟩
    · have hp : p.1 = n := by
        rw [List.map_cons] at h
        rcases List.mem_cons.mp h with h | h
        · exact h.symm
        · exact absurd h hn
      have hl : look (ptD pts) n = none := by
        have : ∀ {qs : List (Str × Int)}, n ∉ qs.map (·.1) → look (ptD qs) n = none := fun {qs} => by
          induction qs with
          | nil => exact fun _ => rfl
          | cons q qs ih =>
            intro hq
            rw [List.map_cons, List.mem_cons, not_or] at hq
            show (match look (ptD qs) n with | some d => some d | none => if q.1 = n then some (.int q.2) else none) = none
            rw [ih hq.2]
            exact if_neg fun z => hq.1 z.symm
        exact this hn
      rw [hl]
      dsimp only
      rw [if_pos hp]
      exact ⟨p.2, rfl, by rw [← hp]; exact List.mem_cons_self ..⟩
theorem tab_fill {pts : List (Str × Int)} {B : Nat} (h : ∀ p ∈ pts, p.2.natAbs < B) : Tab (fill (ptD pts) []) (pts.map (·.1)) B := by
  have key : ∀ n ∈ pts.map (·.1), ∃ x, dget (fill (ptD pts) []) (.inr n) = some (.int x) ∧ x.natAbs < B := fun n hn => by
    obtain ⟨x, e, m⟩ := look_pt hn
    refine ⟨x, ?_, h _ m⟩
    rw [dget_fill, e]
  refine ⟨fun n hn => ?_, fun n hn => ?_⟩
  · obtain ⟨x, e, _⟩ := key n hn
    unfold wOf
    rw [e]
  · obtain ⟨x, e, hb⟩ := key n hn
    unfold wOf
    rw [e]; exact hb
theorem fill_pt_len (pts : List (Str × Int)) : (fill (ptD pts) []).length ≤ pts.length := by
  have := fill_len (ptD pts) []
  rw [ptD_len] at this
  simpa using this
theorem gMul_150 {i j : Int} (h : i.natAbs < 10 ^ 150) (h2 : j.natAbs < 10 ^ 150) : gMul (.int i) (.int j) = some (.dt (.int (i * j))) :=
  gMul_n (Nat.lt_of_lt_of_le h (Nat.pow_le_pow_right (by decide) (by decide))) (Nat.lt_of_lt_of_le h2 (Nat.pow_le_pow_right (by decide) (by decide)))
theorem gDiv_b {i j : Int} (h : 0 < j) (h2 : j.natAbs < 2 ^ 200) : gDiv (.int i) (.int j) = some (.dt (.int (i / j))) := by
  refine gDiv_ii ?_
  unfold divOk
  rw [Bool.and_eq_true]
  refine ⟨decide_eq_true h, blt_of ?_⟩
  have := (Nat.log2_lt (n := j.natAbs) (k := 200) (by omega)).mpr h2
  omega
theorem ev_bd {w : Str → Int} {A B : Nat} : ∀ {ps : List (Str × Int)}, (∀ p ∈ ps, p.2.natAbs ≤ A ∧ (w p.1).natAbs ≤ B) → (ev w ps).natAbs ≤ ps.length * (A * B)
  | [], _ => Nat.zero_le _
  | p :: ps, h => by
    have ih := ev_bd (ps := ps) fun q hq => h q (List.mem_cons_of_mem _ hq)
    obtain ⟨h1, h2⟩ := h p (List.mem_cons_self ..)
    have hm : (p.2 * w p.1).natAbs ≤ A * B := by rw [Int.natAbs_mul]; exact Nat.mul_le_mul h1 h2
    show (p.2 * w p.1 + ev w ps).natAbs ≤ (ps.length + 1) * (A * B)
    rw [Nat.succ_mul]
    omega
theorem ev_take {w : Str → Int} {ps : List (Str × Int)} {k : Nat} {p : Str × Int} (h : ps[k]? = some p) : ev w (ps.take (k + 1)) = ev w (ps.take k) + p.2 * w p.1 := by
  rw [List.take_add_one, h, ev_app]
  show _ + (p.2 * w p.1 + 0) = _
  omega
def b_homogeneous : AE → SS → SR :=
(sRet (eBin gAdd (eBin gMul (eVar 1) (eBin gIx (eVar 0) (eC (.int 0)))) (eAp (g1 gSum) (aCons (eLc (([("name", 3), ("coefficient", 4)] : List (Str × Nat)).map (·.2)) (iSeq (eBin gIx (eVar 0) (eC (.int 1)))) (gT (gsCons (gN 3) (gsCons (gN 4) gsNil))) tY (eBin gMul (eVar 4) (eBin gIx (eVar 2) (eVar 3)))) aNil))))
def m_homogeneous : List AV → SS → R := runF 5 b_homogeneous
section
variable {f : Int × List (Str × Int)} {es : List (Key × D)} {ns : List Str} {den : Int}
theorem hom_e (hf : Fo ns (10 ^ 150) f) (hn : ns.length ≤ 20) (ht : Tab es ns (10 ^ 150)) (hd : den.natAbs < 10 ^ 150) : m_homogeneous [.dat (fP f), .dat (.int den), .dat (.dct es)] [] = .ok (.dat (.int (den * f.1 + ev (wOf es) f.2))) [] := by
  refine Ret.e ?_
  unfold Ret m_homogeneous b_homogeneous
  have gm := gMul_150 hd hf.c
  nomatch "w", fP_e, gm
  refine lc_m f.2 pD (fun p => .int (p.2 * wOf es p.1)) (by have := hf.len; omega) (fun p hp => ?_) ?_
  · have hp := hf.n p hp
    have gx := gIx_d (es := es) (k := .str p.1) (d := .int (wOf es p.1)) keyD_s (ht.get _ hp.1)
    have gm := gMul_150 hp.2 (ht.bd _ hp.1)
    nomatch "w", pD_e, gx, gm
    exact ⟨by trivial, by trivial⟩
  · have gs := gSum_map f.2 fun p => p.2 * wOf es p.1
    nomatch "w", gs
    exact ⟨by trivial, by trivial⟩
theorem at_loop {P : Po} {S : SS} {a : AV} (hf : Fo ns (10 ^ 150) f) (ht : Tab es ns (10 ^ 150)) (hv : view a S = some (.dct es)) (ha : eVarK S (some (some a)) = .ok a S)
    (hq : ∀ x y, P.nx [some (.dat (.tup [.int f.1, .tup (f.2.map pD)])), some (.dat (.int den)), some a, some (.dat (.int (den * f.1 + ev (wOf es) f.2))), x, y] S) :
    Ws P (forD (turn (gT (gsCons (gN 4) (gsCons (gN 5) gsNil))) (sSet 3 (eBin gAdd (eVar 3) (eBin gMul (eVar 5) (eBin gIx (eVar 2) (eVar 4)))))) (f.2.map pD) [some (.dat (.tup [.int f.1, .tup (f.2.map pD)])), some (.dat (.int den)), some a, some (.dat (.int (den * f.1))), none, none] S) := by
  refine for_w3 3 4 5 rfl rfl rfl (fun k x y z S' => S' = S ∧ x = some (.dat (.int (den * f.1 + ev (wOf es) (f.2.take k))))) ⟨rfl, by
    have z : ev (wOf es) (f.2.take 0) = 0 := rfl
    rw [z, Int.add_zero]⟩ ?_ ?_
  · rintro k d x y z S' hk ⟨rfl, rfl⟩
    rw [List.getElem?_map] at hk
    cases hp : f.2[k]? with
    | none => rw [hp] at hk; cases hk
    | some p =>
    rw [hp] at hk
    cases hk
    have hp2 := hf.n p (List.mem_of_getElem? hp)
    have gx := gIx_d (es := es) (k := .str p.1) (d := .int (wOf es p.1)) keyD_s (ht.get _ hp2.1)
    have gm := gMul_150 hp2.2 (ht.bd _ hp2.1)
    nomatch "w", pD_e, ha, hv, gx, gm
    refine ⟨_, _, _, rfl, by trivial, ?_⟩
    rw [ev_take hp, ← Int.add_assoc]
  · rintro x y z S' ⟨rfl, rfl⟩
    rw [List.length_map, List.take_length]
    exact hq y z
theorem at_e (hf : Fo ns (10 ^ 150) f) (ht : Tab es ns (10 ^ 150)) (hd : den.natAbs < 10 ^ 150) : m_law_at [.dat (fP f), .dat (.int den), .dat (.dct es)] [] = .ok (.dat (.int (den * f.1 + ev (wOf es) f.2))) [] := by
  refine Ret.e ?_
  unfold Ret m_law_at b_law_at
  have gm := gMul_150 hd hf.c
  nomatch "w", fP_e, gm
  refine at_loop hf ht rfl rfl fun x y => ?_
  nomatch "w"
  exact ⟨by trivial, by trivial⟩
theorem at_o (hf : Fo ns (10 ^ 150) f) (ht : Tab es ns (10 ^ 150)) (hd : den.natAbs < 10 ^ 150) : m_law_at [.dat (fP f), .dat (.int den), .own 0] [.dct es] = .ok (.dat (.int (den * f.1 + ev (wOf es) f.2))) [.dct es] := by
  have z : Wp NE (fun a S => a = .dat (.int (den * f.1 + ev (wOf es) f.2)) ∧ S = [.dct es]) (m_law_at [.dat (fP f), .dat (.int den), .own 0] [.dct es]) := by
    unfold m_law_at b_law_at
    have gm := gMul_150 hd hf.c
    nomatch "w", fP_e, gm
    refine at_loop hf ht rfl rfl fun x y => ?_
    nomatch "w"
    exact ⟨by trivial, by trivial⟩
  obtain ⟨a, S, e, rfl, rfl⟩ := z.eq
  exact e
end
/-! ### the names of forms -/
def allP (fs : List (Int × List (Str × Int))) : List (Str × Int) := fs.flatMap (·.2)
def nmK (fs : List (Int × List (Str × Int))) : List Str := sortT (keysOf (allP fs))
theorem allP_in {fs : List (Int × List (Str × Int))} {ns : List Str} {B : Nat} (h : ∀ f ∈ fs, Fo ns B f) : ∀ p ∈ allP fs, p.1 ∈ ns := fun p hp => by
  obtain ⟨f, hf, hp⟩ := List.mem_flatMap.mp hp
  exact ((h f hf).n p hp).1
theorem nmK_mem {fs : List (Int × List (Str × Int))} {n : Str} : n ∈ nmK fs ↔ n ∈ (allP fs).map (·.1) := by
  unfold nmK
  rw [(sortT_perm _).mem_iff, keysOf_mem]
theorem nmK_nodup (fs : List (Int × List (Str × Int))) : (nmK fs).Nodup := (sortT_perm _).nodup_iff.mpr (keysOf_nodup _)
theorem nmK_len {fs : List (Int × List (Str × Int))} {ns : List Str} {B : Nat} (h : ∀ f ∈ fs, Fo ns B f) : (nmK fs).length ≤ ns.length := by
  unfold nmK
  rw [(sortT_perm _).length_eq]
  exact keys_in (allP_in h)
theorem nmK_fo {fs : List (Int × List (Str × Int))} {ns : List Str} {B : Nat} {f : Int × List (Str × Int)} (h : Fo ns B f) (hf : f ∈ fs) : Fo (nmK fs) B f :=
  ⟨h.nf, h.c, fun p hp => ⟨nmK_mem.mpr (List.mem_map_of_mem (List.mem_flatMap.mpr ⟨f, hf, hp⟩)), (h.n p hp).2⟩⟩
theorem nmK_sub {fs : List (Int × List (Str × Int))} {ns : List Str} {B : Nat} (h : ∀ f ∈ fs, Fo ns B f) : ∀ n ∈ nmK fs, n ∈ ns := fun n hn => by
  obtain ⟨p, hp, rfl⟩ := List.mem_map.mp (nmK_mem.mp hn)
  exact allP_in h p hp
theorem allP_take {fs : List (Int × List (Str × Int))} {k : Nat} {f : Int × List (Str × Int)} (h : fs[k]? = some f) : allP (fs.take (k + 1)) = allP (fs.take k) ++ f.2 := by
  unfold allP
  rw [List.take_add_one, h, List.flatMap_append]
  show _ ++ (f.2 ++ []) = _
  rw [List.append_nil]
def b_law_names : AE → SS → SR :=
(sSeq (sSetO 1 (eLst aNil))
(sSeq (sFor (iSeq (eVar 0)) (gN 2)
(sFor (iSeq (eBin gIx (eVar 2) (eC (.int 1)))) (gT (gsCons (gN 3) (gsCons (gN 4) gsNil)))
(sIf (tBin (gInX true) (eVar 3) (eVar 1)) (sDrop (eMu "list" (u1 gAppend) (eVar 1) (aCons (eVar 3) aNil)))
sNx)))
(sRet (eAp (g1 gSortA) (aCons (eVar 1) aNil)))))
def m_law_names : List AV → SS → R := runF 5 b_law_names
def b_names_in : AE → SS → SR :=
(sSeq (sSetO 1 eDnew)
(sSeq (sFor (iSeq (eVar 0)) (gN 2)
(sFor (iSeq (eBin gIx (eVar 2) (eC (.int 1)))) (gT (gsCons (gN 3) (gsCons (gN 4) gsNil)))
(sPut gSet (eVar 1) (eVar 3) (eVar 4))))
(sRet (eAp (g1 gTuple) (aCons (eAp (g1 gSortA) (aCons (eVar 1) aNil)) aNil)))))
def m_names_in : List AV → SS → R := runF 5 b_names_in
theorem keys_take {ps qs : List (Str × Int)} {k : Nat} {p : Str × Int} (h : qs[k]? = some p) : keysOf (ps ++ qs.take (k + 1)) = addK (keysOf (ps ++ qs.take k)) p.1 := by
  rw [List.take_add_one, h, ← List.append_assoc]
  exact keysOf_snoc _ _
section
variable {fs : List (Int × List (Str × Int))} {ns : List Str} {B : Nat}
theorem keys_sub (h : ∀ f ∈ fs, Fo ns B f) {k : Nat} {f : Int × List (Str × Int)} (hf : f ∈ fs) (j : Nat) : (keysOf (allP (fs.take k) ++ f.2.take j)).length ≤ ns.length :=
  keys_in fun p hp => by
    rcases List.mem_append.mp hp with hp | hp
    · obtain ⟨g, hg, hp⟩ := List.mem_flatMap.mp hp
      exact ((h g (List.mem_of_mem_take hg)).n p hp).1
    · exact ((h f hf).n p (List.mem_of_mem_take hp)).1
theorem law_names_e (hl : fs.length ≤ 1000) (hn : ns.length ≤ 20) (h : ∀ f ∈ fs, Fo ns B f) {d : D} (hd : itemsD d = some (fs.map fP)) : m_law_names [.dat d] [] = .ok (.new (.lst ((nmK fs).map D.str))) [] := by
  have z : Wp NE (fun a S => a = .new (.lst ((nmK fs).map D.str)) ∧ S = []) (m_law_names [.dat d] []) := by
    unfold m_law_names b_law_names
    nomatch "w", hd
    refine for_w3 2 3 4 rfl rfl rfl (fun k x y z S => S = [.lst ((keysOf (allP (fs.take k))).map D.str)]) rfl ?_ ?_
    · rintro k d x y z S hk rfl
      rw [List.getElem?_map] at hk
      cases hf : fs[k]? with
      | none => rw [hf] at hk; cases hk
      | some f =>
      rw [hf] at hk
      cases hk
      have hm := List.mem_of_getElem? hf
      nomatch "w", fP_e
      refine for_w2 3 4 rfl rfl (fun j y z S => S = [.lst ((keysOf (allP (fs.take k) ++ f.2.take j)).map D.str)]) (by rw [List.take_zero, List.append_nil]) ?_ ?_
      · rintro j d y z S hj rfl
        rw [List.getElem?_map] at hj
        cases hp : f.2[j]? with
        | none => rw [hp] at hj; cases hj
        | some p =>
        rw [hp] at hj
        cases hj
        have kl := keys_sub h hm (k := k) j
        have gi := gNin_ex (s := p.1) (ns := keysOf (allP (fs.take k) ++ f.2.take j))
        have ek := keys_take (ps := allP (fs.take k)) hp
        rw [ek]
        generalize keysOf (allP (fs.take k) ++ f.2.take j) = ks at *
        nomatch "w", pD_e, gi
        by_cases hin : p.1 ∈ ks
        · nomatch "w", hin
          refine ⟨_, _, rfl, ?_⟩
          rw [show addK ks p.1 = ks from if_pos hin]
        · nomatch "w", hin, gApp (show (ks.map D.str).length < 16777216 by rw [List.length_map]; omega)
          refine ⟨_, _, rfl, ?_⟩
          rw [show addK ks p.1 = ks ++ [p.1] from if_neg hin, List.map_append]; rfl
      · rintro y z S rfl
        rw [List.length_map, List.take_length, ← allP_take hf]
        nomatch "w"
        exact ⟨_, _, _, rfl, by trivial⟩
    · rintro x y z S rfl
      rw [List.length_map, List.take_length]
      have kl : (keysOf (allP fs)).length < 64 := Nat.lt_of_le_of_lt (keys_in (allP_in h)) (by omega)
      nomatch "w", gSortA_l kl
      exact ⟨rfl, by trivial⟩
  obtain ⟨a, S, e, rfl, rfl⟩ := z.eq
  exact e
theorem names_in_e (hl : fs.length ≤ 1000) (hn : ns.length ≤ 20) (h : ∀ f ∈ fs, Fo ns B f) {d : D} (hd : itemsD d = some (fs.map fP)) : m_names_in [.dat d] [] = .ok (.dat (.tup ((nmK fs).map D.str))) [] := by
  refine Ret.e ?_
  unfold Ret m_names_in b_names_in
  nomatch "w", hd
  refine for_w3 2 3 4 rfl rfl rfl (fun k x y z S => ∃ g, S = [.dct (dE (keysOf (allP (fs.take k))) g)]) ⟨fun _ => 0, rfl⟩ ?_ ?_
  · rintro k d x y z S hk ⟨g, rfl⟩
    rw [List.getElem?_map] at hk
    cases hf : fs[k]? with
    | none => rw [hf] at hk; cases hk
    | some f =>
    rw [hf] at hk
    cases hk
    have hm := List.mem_of_getElem? hf
    nomatch "w", fP_e
    refine for_w2 3 4 rfl rfl (fun j y z S => ∃ g, S = [.dct (dE (keysOf (allP (fs.take k) ++ f.2.take j)) g)]) ⟨g, by rw [List.take_zero, List.append_nil]⟩ ?_ ?_
    · rintro j d y z S hj ⟨g, rfl⟩
      rw [List.getElem?_map] at hj
      cases hp : f.2[j]? with
      | none => rw [hp] at hj; cases hj
      | some p =>
      rw [hp] at hj
      cases hj
      have kl := keys_sub h hm (k := k) j
      have ek := keys_take (ps := allP (fs.take k)) hp
      rw [ek]
      generalize keysOf (allP (fs.take k) ++ f.2.take j) = ks at *
      have gs := gSet_d (es := dE ks g) (k := .str p.1) (d := .int p.2) keyD_s (by unfold dE; rw [List.length_map]; omega)
      rw [dput_dE] at gs
      nomatch "w", pD_e, gs
      exact ⟨_, _, rfl, _, rfl⟩
    · rintro y z S ⟨g, rfl⟩
      rw [List.length_map, List.take_length, ← allP_take hf]
      nomatch "w"
      exact ⟨_, _, _, rfl, g, rfl⟩
  · rintro x y z S ⟨g, rfl⟩
    rw [List.length_map, List.take_length]
    have kl : (keysOf (allP fs)).length < 64 := Nat.lt_of_le_of_lt (keys_in (allP_in h)) (by omega)
    nomatch "w", gSorted_dE (f := g) kl
    exact ⟨rfl, by trivial⟩
end
/-- a dict comprehension over pairs -/
theorem dc_w {E : Exn → SS → Prop} {Q : AV → SS → Prop} {g : D → AE → Option AE} {ek ev : AE → SS → R} {ρ : AE} {S : SS} {pts : List (Str × D)} (hl : pts.length ≤ 100000)
    (hs : ∀ p ∈ pts, ∃ ρ1, g (pN p) ρ = some ρ1 ∧ ek ρ1 S = .ok (.dat (.str p.1)) S ∧ ev ρ1 S = .ok (.dat p.2) S) (hq : Q (.new (.dct (fill pts []))) S) : Wp E Q (eDcJ (dcF g tY ek ev ρ (pts.map pN) [] S)) := by
  have e := dcF_fill (g := g) (ek := ek) (ev := ev) (ρ0 := ρ) (S := S) (fun p => match g (pN p) ρ with | some x => x | none => []) pts [] (by show 0 + _ ≤ _; omega)
    (fun p hp => by obtain ⟨ρ1, e, _⟩ := hs p hp; rw [e]) (fun p hp => by obtain ⟨ρ1, e, e2, _⟩ := hs p hp; rw [e]; exact e2) (fun p hp => by obtain ⟨ρ1, e, _, e3⟩ := hs p hp; rw [e]; exact e3)
  rw [e, eDcJ_e]
  exact ⟨hq⟩
theorem blsD_map' {α : Type} (as : List α) (p : α → Bool) : blsD (as.map fun a => D.bl (p a)) = some (as.map p) := by
  induction as with
  | nil => rfl
  | cons a as ih => rw [List.map_cons, List.map_cons, blsD, ih]
theorem gAny_map {α : Type} (as : List α) (p : α → Bool) : gAny (.lst (as.map fun a => D.bl (p a))) = some (.dt (.bl (as.any p))) := by
  dsimp only [gAny]
  rw [blsD_map']
  dsimp only
  rw [List.any_map]
  rfl
theorem gIsN_n : gIsN false .non .non = some (.dt (.bl true)) := (rfl)
theorem gIsN_d {es : List (Key × D)} : gIsN false (.dct es) .non = some (.dt (.bl false)) := (rfl)
end Ew

set_option Elab.async false
set_option linter.all false
set_option maxRecDepth 100000
set_option maxHeartbeats 4000000
namespace Ew
open PySem PySem.Spec PyProof.Rows L2

/-! ### enumerate(tuple) -/
theorem meets_enum1 {v : Value} {o : Obj} {H : Heap → Prop} (B : Begins v o H) :
    Meets (Builtin.«enumerate.__new__» ⟨[.type "enumerate", v], []⟩) (fun _ R s => H s.heap ∧
      R (.ok (.ret (.ref (s.heap.push o).objs.size))) { s with heap := (s.heap.push o).push { cls := .type "enumerate", data := .fields #[.none, .bool false, .ref s.heap.objs.size, rawInt 0, .none, .none] } }) :=
  .of_wp fun prog w A R s h => by
    obtain ⟨hp, g, d, tk, os⟩ := s; obtain ⟨h1, h⟩ := h
    have hsub := sub_enumerate
    have q1 : ∀ {A' : Around} {E : Value → Shared → Prop} {Q : Value → Shared → Prop}, Q (.ref hp.objs.size) ⟨hp.push o, g, d, tk, os⟩ → wpAny (model prog w) A' (pyIter v) Q E ⟨hp, g, d, tk, os⟩ :=
      fun q => B.iter prog w _ _ ⟨hp, g, d, tk, os⟩ _ h1 q
    wp_walk using q1
    refine wpAny_stack_any fun st => wpAny_pure ?_
    split
    · rename_i c _ _ _ _ _
      cases (c == Value.type "enumerate")
      · wp_walk using q1
        exact ⟨_, rfl, h⟩
      · wp_walk using q1
        exact ⟨_, rfl, h⟩
    · wp_walk using q1
      exact ⟨_, rfl, h⟩
section
variable {prog : Program} {w : World} {A : Around} {E : Value → Shared → Prop} {s : Shared}
theorem call_enum1 {v : Value} {o : Obj} {H : Heap → Prop} {Q : Value → Shared → Prop} (B : Begins v o H) (h1 : H s.heap)
    (h : ∀ h', IsEnum h' (s.heap.objs.size + 1) s.heap.objs.size 0 .none → h'.get? s.heap.objs.size = some o → h'.objs.size = s.heap.objs.size + 2 →
      (∀ b o, s.heap.get? b = some o → h'.get? b = some o) → Q (.ref (s.heap.objs.size + 1)) { s with heap := h' }) :
    wpAny (model prog w) A (call (.type "enumerate") [v]) Q E s := by
  refine callType_new F.called_enumerate (by decide) (F.typeCall_enumerate_1 _) (F.newCall_enumerate_1 _) (fun obj => F.args_object_init_2 obj _) F.entry_enumerate_new
    (meets_enum1 B) ⟨h1, ?_⟩
  have hz : (s.heap.push o).objs.size = s.heap.objs.size + 1 := Heap.size_push ..
  show _ ∧ _
  rw [hz]
  have he : IsEnum ((s.heap.push o).push { cls := .type "enumerate", data := .fields #[.none, .bool false, .ref s.heap.objs.size, rawInt 0, .none, .none] }) (s.heap.objs.size + 1) s.heap.objs.size 0 .none := by
    have := Heap.get?_push_size (s.heap.push o) (o := { cls := .type "enumerate", data := .fields #[.none, .bool false, .ref s.heap.objs.size, rawInt 0, .none, .none] }) rfl
    rw [hz] at this; exact this
  refine ⟨⟨_, he, rfl⟩, h _ he (Heap.get?_push_of_some _ (Heap.get?_push_size _ B.free)) (by rw [Heap.size_push, hz]) fun b o x => Heap.get?_push_of_some _ (Heap.get?_push_of_some _ x)⟩
end
def IteT (K : PySem.W.Frag) (a : Addr) : It :=
  ⟨fun i H => ∃ (xs : List V) (x : V), SqT K H a xs ∧ xs[i]? = some x, fun i H v H' => ∃ T x, v = .ref T ∧ H T = none ∧ H' = upd H T (.tup [.int (i : Nat), x]) ∧ ∀ xs, SqT K H a xs → xs[i]? = some x, fun i H => ∃ xs : List V, SqT K H a xs ∧ xs.length ≤ i⟩
theorem turn_enumT {P : Program} {w : World} {K : PySem.W.Frag} {elts : List Expr} {kk : Nat} {tpos : Pos} (a e it : Addr) :
    Turn P w K (.Tuple elts kk tpos) (IteT K a) [e, it] e (fun i h => (∃ old, IsEnum h e it ((i : Nat) : Int) old) ∧ h.IsTupleIter it a i ∧ e ≠ it ∧ a ≠ it ∧ a ≠ e) where
  mem := by simp
  obj := fun i h st b hb => by
    obtain ⟨⟨old, he⟩, ⟨o, ho, hc, hd⟩, _⟩ := st
    have e' : b = e ∨ b = it := by simpa using hb
    rcases e' with z | z
    · rw [z]; exact ⟨_, he, fun v q => nomatch q⟩
    · rw [z]; exact ⟨o, ho, fun v q => by rw [hd] at q; cases q⟩
  keep := fun i h h' st k => let ⟨⟨old, he⟩, hi, hne⟩ := st; ⟨⟨old, k e (by simp) _ he⟩, hi.at fun o q => k it (by simp) o q, hne⟩
  item := by
    intro X hP hw hK hc i pins s σ H E I hf st hg
    subst hP hw hK
    obtain ⟨⟨old, he⟩, hit, hne, hai, hae⟩ := st
    obtain ⟨xs, x, hq, hx⟩ := hg
    obtain ⟨its, rv, p, hz⟩ := I.tuple hq
    obtain ⟨u, hu, ru⟩ := rv.get hx
    have hel : e < s.heap.objs.size := Heap.lt_size he
    have hil : it < s.heap.objs.size := by obtain ⟨_, q, _⟩ := hit; exact Heap.lt_size q
    have D := Draws.tuple (prog := X.prog) (w := X.w) (A := X.A.in1) (I.ok.hd hc) it a hai its.toArray
    have hin : i < its.toArray.size := by
      have := (List.getElem?_eq_some_iff.mp hu).1
      simpa using this
    refine wpAny_pyNext_enum_itemC D he ⟨hit, p⟩ hin hne (by simp only [List.mem_cons, List.not_mem_nil, or_false, not_or]; exact ⟨hne, Ne.symm hae⟩) fun y h' tk hP ho hst' hT hsz hk => ?_
    have hy : y = u := by
      have hP : its.toArray[i]? = some y := hP
      have : its[i]? = some y := by simpa using hP
      rw [hu] at this; cases this; rfl
    subst hy
    refine ⟨_, rfl, wpAny_letOwnedTupleGo_enum (s := { s with heap := h', toks := tk + 1 }) ho fun h'' he' sb => ?_⟩
    have hT2 : h''.get? s.heap.objs.size = some { cls := .type "tuple", data := .seq #[.int i tk, y] } := (sb.2 _ (Nat.ne_of_gt hel)).trans hT
    have new : ObjOk X.prog X.w (upd H s.heap.objs.size (.tup [.int (i : Nat), x])) h'' s.heap.objs.size (.tup [.int (i : Nat), x]) :=
      ⟨by show 2 ≤ sizeLine; decide, [.int i tk, y], .cons ⟨_, rfl⟩ (.cons ru .nil), ⟨_, hT2, rfl, _, rfl⟩⟩
    have I1 : Inv X pins σ (upd H s.heap.objs.size (.tup [.int (i : Nat), x])) { s with heap := h'', toks := tk + 1 } :=
      I.turnedNew (ch := [e, it]) (fun b ob hb q => (sb.2 b (fun z => hb (by simp [z]))).trans (hk b ob (fun z => hb (by simp [z])) (fun z => hb (by simp [z])) q)) hf (Nat.le_refl _) new
    refine ⟨.ref s.heap.objs.size, _, I1, rfl, ⟨_, x, rfl, I.hok.fresh (Nat.le_refl _), rfl, fun ys hy => by rw [I.tuple_inj hy hq]; exact hx⟩, ⟨⟨y, ?_⟩, hst'.1.at fun o q => (sb.2 it (Ne.symm hne)).trans q, hne, hai, hae⟩, fun b hb => ?_⟩
    · have e1 : ((i + 1 : Nat) : Int) = (i : Int) + 1 := by omega
      rw [e1]; exact he'
    · have hb' : b < s.heap.objs.size := by
        have e' : b = e ∨ b = it := by simpa using hb
        rcases e' with z | z
        · rw [z]; exact hel
        · rw [z]; exact hil
      rw [upd_ne (Nat.ne_of_lt hb')]
      exact (hf b hb).1
  done := by
    intro X hP hw hK hc i pins s σ H E I hf st hg
    subst hP hw hK
    obtain ⟨⟨old, he⟩, hit, hne, hai, hae⟩ := st
    obtain ⟨xs, hq, hx⟩ := hg
    obtain ⟨its, rv, p, hz⟩ := I.tuple hq
    obtain ⟨f0, f1, f2, f3, f4, f5⟩ := hf it (by simp)
    have hl := rv.length
    have hit2 : s.heap.IsTupleIter it a i := hit
    have D : Draws X.prog X.w X.A.in1 it [it, a] 0 (fun _ _ => False) (fun j h => h.IsTupleIter it a i ∧ h.IsTuple a its.toArray) := {
      live := fun _ _ st => let ⟨o, ho, _⟩ := st.1; ⟨o, ho⟩
      frame := fun _ _ _ st hk => ⟨st.1.at fun o e => hk it (by simp) o e, st.2.at fun o e => hk a (by simp) o e⟩
      item := fun j s Q E hi st hQ => absurd hi (Nat.not_lt_zero _)
      done := fun s Q E st hE => wpAny_nextOf_tuple_end (I.ok.hd hc) st.1 st.2 (by simp; omega) hE }
    exact wpAny_pyNext_enum_endD D he ⟨hit, p⟩ fun h' eb => ⟨rfl, I.turned (t' := s.toks) (fun b o hb q => eb b o hb q) f0 f1 f3 f4 f5⟩
  self := fun A i s Q E st h => let ⟨⟨_, he⟩, _⟩ := st; wpAny_pyIter_enum he h
/-- enumerate(x), x a list or a tuple -/
def tEnumA (K : PySem.W.Frag) (ta : TA) : TI := fun σ H R => ta σ H fun vs H1 => ∃ a xs, vs = [.ref a] ∧ ((SqL K H1 a xs ∧ R (Ite K a) H1) ∨ (SqT K H1 a xs ∧ R (IteT K a) H1))
theorem pi_enumA {X : Cx} {e : Expr} {ta : TA} {p pos tpos : Pos} {elts : List Expr} {kk : Nat} (hg : Gl X "enumerate") (hm : X.mg "enumerate" = none) (ha : PA X [e] ta) (hs : starEach [e] X.env = [(false, eval e X.env)] := by rfl) :
    PI X (.Tuple elts kk tpos) (.Call (.Name "enumerate" p) [e] [] pos) (tEnumA X.K ta) := by
  refine ⟨fun pins s σ H R I h => ?_⟩
  refine Call_ (ld_blt I hg hm boot_enumerate (PyProof.Rows.callWith_type1 (thn (ha.run pos pins s σ H _ I h) fun us s1 ⟨vs, H1, I1, r1, q1⟩ => ?_) hs rfl))
  obtain ⟨a, xs, ex, q⟩ := q1
  subst ex
  cases r1 with
  | cons r rr =>
    cases rr
    cases r
    have fpk : ∀ b ∈ [s1.heap.objs.size + 1, s1.heap.objs.size], FpOk X pins H1 b := fun b hb => by
      have e' : b = s1.heap.objs.size + 1 ∨ b = s1.heap.objs.size := by simpa using hb
      have hle : s1.heap.objs.size ≤ b := by
        rcases e' with z | z
        · rw [z]; exact Nat.le_add_right _ _
        · rw [z]; exact Nat.le_refl _
      exact I1.fpOk hle (I1.hok.fresh hle)
    rcases q with ⟨hq, q⟩ | ⟨hq, q⟩
    · obtain ⟨its, rv, p', hz⟩ := I1.list hq
      refine call_enumerate_list p'.isList fun h' he hit hsz hk => wpAny_pyIter_enum he ?_
      have I2 : Inv X pins σ H1 { s1 with heap := h' } := I1.kept (t' := s1.toks) hk
      exact ⟨s1.heap.objs.size + 1, [s1.heap.objs.size + 1, s1.heap.objs.size], _, _, H1, rfl, I2, turn_enum a (s1.heap.objs.size + 1) s1.heap.objs.size, ⟨⟨.none, he⟩, hit, Nat.succ_ne_self _⟩, fpk, q⟩
    · obtain ⟨its, rv, p', hz⟩ := I1.tuple hq
      have hal : a < s1.heap.objs.size := by obtain ⟨_, q, _⟩ := id p'; exact Heap.lt_size q
      refine call_enum1 (begins_tuple a its.toArray) p' fun h' he hit hsz hk => wpAny_pyIter_enum he ?_
      have I2 : Inv X pins σ H1 { s1 with heap := h' } := I1.kept (t' := s1.toks) hk
      exact ⟨s1.heap.objs.size + 1, [s1.heap.objs.size + 1, s1.heap.objs.size], _, _, H1, rfl, I2, turn_enumT a (s1.heap.objs.size + 1) s1.heap.objs.size, ⟨⟨.none, he⟩, ⟨_, hit, rfl, rfl⟩, Nat.succ_ne_self _, Nat.ne_of_lt hal, Nat.ne_of_lt (Nat.lt_succ_of_lt hal)⟩, fpk, q⟩
/-! ### the mirror -/
def enD (ds : List D) : List D := (List.range ds.length).zip ds |>.map fun p => .tup [.int (p.1 : Nat), p.2]
def iEnumK : Option (List D × SS) → RI := fun v => match v with
  | some ([.lst ds], S) => .ok (enD ds) S
  | some ([.tup ds], S) => .ok (enD ds) S
  | _ => .bad
def iEnumR : List AV → SS → RI := fun as S => iEnumK (frzs as S)
def iEnu (f : AE → SS → RA) : AE → SS → RI := fun ρ S => (f ρ S).toI iEnumR
theorem enD_len {ds : List D} : (enD ds).length = ds.length := by unfold enD; rw [List.length_map, List.length_zip, List.length_range, Nat.min_self]
theorem enD_at {ds : List D} {i : Nat} {d : D} (h : ds[i]? = some d) : (enD ds)[i]? = some (.tup [.int (i : Nat), d]) := by
  unfold enD
  have hi : i < ds.length := (List.getElem?_eq_some_iff.mp h).1
  rw [List.getElem?_map, (List.getElem?_zip_eq_some (z := (i, d))).mpr ⟨List.getElem?_range hi, h⟩]; rfl
section
variable {X : Cx} {W : WX} {K : PySem.W.Frag}
theorem walk_el {m0 : Mem} {H0 : Hp} {a : Addr} {xs : List V} {ds : List D} (ca : m0.P a) (ha : H0 a = some (.lst xs)) (ra : RepL K m0.P H0 xs ds) : WalkD K (Ite K a) (enD ds) m0 H0 := fun m H s => by
  have sa : SqL K H a xs := .of (s.keep a _ ha (.inr (.inl ca)))
  have r1 := ra.mono s.stay
  have l1 := r1.length
  rw [enD_len]
  refine ⟨fun i hi => ⟨xs, xs[i]'(by omega), sa, by simp⟩, ⟨xs, sa, by omega⟩, fun i x H1 hi ⟨T, u, e, hT, eH, y1⟩ => ?_⟩
  subst e eH
  obtain ⟨d, h2, h3⟩ := r1.get (y1 xs sa)
  have st := (step_upd (m := m) (o := .tup [.int (i : Nat), u]) hT).stay (K := K)
  exact ⟨.inr ⟨T, _, hT, rfl⟩, .tup [.int (i : Nat), d], enD_at h2, .tup (.of upd_same) (.cons (.int _) (.cons (Rep.mono st h3) .nil))⟩
theorem walk_et {m0 : Mem} {H0 : Hp} {a : Addr} {xs : List V} {ds : List D} (ha : SqT K H0 a xs) (ra : RepL K m0.P H0 xs ds) : WalkD K (IteT K a) (enD ds) m0 H0 := fun m H s => by
  have sa : SqT K H a xs := (s.stay (K := K)).sqt ha
  have r1 := ra.mono s.stay
  have l1 := r1.length
  rw [enD_len]
  refine ⟨fun i hi => ⟨xs, xs[i]'(by omega), sa, by simp⟩, ⟨xs, sa, by omega⟩, fun i x H1 hi ⟨T, u, e, hT, eH, y1⟩ => ?_⟩
  subst e eH
  obtain ⟨d, h2, h3⟩ := r1.get (y1 xs sa)
  have st := (step_upd (m := m) (o := .tup [.int (i : Nat), u]) hT).stay (K := K)
  exact ⟨.inr ⟨T, _, hT, rfl⟩, .tup [.int (i : Nat), d], enD_at h2, .tup (.of upd_same) (.cons (.int _) (.cons (Rep.mono st h3) .nil))⟩
theorem ji_enu {e : Expr} {p pos tpos : Pos} {elts : List Expr} {kk : Nat} {f : AE → SS → RA} (hm : X.mg "enumerate" = none) (ja : JA X W [e] f) (hg : Gl X "enumerate" := by rfl)
    (hs : starEach [e] X.env = [(false, eval e X.env)] := by rfl) :
    JI X W (.Tuple elts kk tpos) (.Call (.Name "enumerate" p) [e] [] pos) (iEnu f) := fun ρ S => by
  refine PI.imp (pi_enumA hg hm (ja ρ S) hs) fun σ H Q ⟨m, w, en, q⟩ => ⟨m, w, en, ?_⟩
  unfold iEnu at q
  cases hf : f ρ S with
  | bad => rw [hf] at q; exact q.elim
  | exc x S1 => rw [hf] at q; exact q
  | ok as S1 =>
    rw [hf] at q
    intro vs m1 H1 s1 w1 a1 f1
    dsimp only [RA.toI, iEnumR] at q
    cases hz : frzs as S1 with
    | none => rw [hz] at q; exact q.elim
    | some z =>
      obtain ⟨dd, S2⟩ := z
      rw [hz] at q
      obtain ⟨P', g, s2, w2, r⟩ := frzs_ok s1 w1 (L2.Paired.mapP a1 fun _ _ z => z.q) f1 hz
      unfold iEnumK at q
      split at q
      · rename_i e
        cases e
        cases r with
        | cons ra rr =>
          cases rr
          cases ra with
          | lst c1 h1 r1 => exact ⟨_, _, rfl, .inl ⟨.of h1, q _ _ _ s2 w2 (walk_el (m0 := ⟨m1.L, P'⟩) c1 h1 r1)⟩⟩
      · rename_i e
        cases e
        cases r with
        | cons ra rr =>
          cases rr
          cases ra with
          | tup h1 r1 => exact ⟨_, _, rfl, .inr ⟨h1, q _ _ _ s2 w2 (walk_et (m0 := ⟨m1.L, P'⟩) h1 r1)⟩⟩
      · exact q.elim
theorem iEnu_e {f : AE → SS → RA} {ρ : AE} {S : SS} : iEnu f ρ S = RA.toI (f ρ S) iEnumR := (rfl)
theorem iEnumR_e {as : List AV} {S : SS} : iEnumR as S = iEnumK (frzs as S) := (rfl)
theorem iEnumK_l {ds : List D} {S : SS} : iEnumK (some ([.lst ds], S)) = .ok (enD ds) S := (rfl)
theorem iEnumK_t {ds : List D} {S : SS} : iEnumK (some ([.tup ds], S)) = .ok (enD ds) S := (rfl)
end
end Ew

set_option Elab.async false
set_option linter.all false
set_option maxRecDepth 100000
set_option maxHeartbeats 4000000
namespace Ew
open PySem PySem.Spec PyProof.Rows L2

/-! ### lists of own objects -/
def lnF (g : D → AE → Option AE) (t : AE → SS → RB) (e : AE → SS → R) (ρ0 : AE) : List D → SS → Option (List Nat × SS)
  | [], S => some ([], S)
  | d :: ds, S => match g d ρ0 with
    | some ρ => (match t ρ S with
      | .ok true S1 => (match e ρ S1 with
        | .ok (.new o) S2 => (match lnF g t e ρ0 ds (S2 ++ [o]) with
          | some (xs, S4) => some (S2.length :: xs, S4)
          | none => none)
        | _ => none)
      | .ok false S1 => lnF g t e ρ0 ds S1
      | _ => none)
    | none => none
def eLn (vs : List Nat) (it : AE → SS → RI) (g : D → AE → Option AE) (t : AE → SS → RB) (e : AE → SS → R) : AE → SS → R := fun ρ S => match it ρ S with
  | .ok ds S1 => (match lnF g t e (wipeA ρ vs) ds S1 with
    | some (xs, S2) => (match decide (xs.length ≤ line) with
      | true => .ok (.nst xs) S2
      | false => .bad)
    | none => .bad)
  | .exc x S1 => .exc x S1
  | .bad => .bad
section
variable {X : Cx} {W : WX}
theorem ln_ok {iter : Expr} {tg : Expr} {it : AE → SS → RI} {is : List Nat} {g : D → AE → Option AE} {t : AE → SS → RB} {e : AE → SS → R} {vs : List Nat} (hi : ∀ i, i ∈ is → i ∈ vs) (ρ : AE) (S : SS) (σ : L2.St) (H : Hp) (Q : VK)
    (q : tR (kx X W) ρ S (eLn vs it g t e ρ S) σ H Q) : tLc (tRI (kx X W) ρ S (it ρ S)) (tGu X.K is g) (tTu ⟨X.K, X.mg, W0⟩ t) (tEu ⟨X.K, X.mg, W0⟩ e) vs σ H Q := by
  obtain ⟨m, w, en, q⟩ := q
  refine ⟨m, w, en, ?_⟩
  unfold eLn at q
  cases hit : it ρ S with
  | bad => rw [hit] at q; exact q.elim
  | exc x S1 => rw [hit] at q; exact q
  | ok ds S1 =>
    rw [hit] at q
    dsimp only at q
    intro J m1 H1 s1 w1 wk Dl hD
    cases hl : lnF g t e (wipeA ρ vs) ds S1 with
    | none => rw [hl] at q; exact q.elim
    | some z =>
      obtain ⟨xs, S2⟩ := z
      rw [hl] at q
      dsimp only at q
      split at q
      · rename_i hline
        have hline : xs.length ≤ line := of_decide_eq_true hline
        have hn := w1.new hD
        refine ⟨fun i mm H' => mm = ds.length - i ∧ i ≤ ds.length ∧ ∃ m' S' acc accD rest, Step m1 H1 m' H' ∧ Wd X.K m' H' S' ∧ Dl ∉ m'.L ∧ ¬ m'.P Dl ∧ H' Dl = some (.lst acc) ∧ NstL m' acc accD ∧ lnF g t e (wipeA ρ vs) (ds.drop i) S' = some (rest, S2) ∧ accD ++ rest = xs,
          ⟨ds.length, rfl, Nat.zero_le _, m1, S1, [], [], xs, step_upd hD, w1.step (step_upd hD) (fun p hp => by
            obtain ⟨u, hu, _⟩ := w1.there hp
            rw [upd_ne (ne_of_none hu hD)]), hn.1, hn.2, upd_same, ⟨rfl, fun j i e => by simp at e⟩, hl, rfl⟩, ?_⟩
        rintro i mm H' ⟨rfl, hile, m', S', acc, accD, rest, s', w', hL, hP, hacc, racc, hlc, hxs⟩
        obtain ⟨go, stop, yl⟩ := wk m' H' s'
        by_cases hlt : i < ds.length
        · refine .inr ⟨go i hlt, fun H2 => ∃ m' S' acc accD rest, Step m1 H1 m' H2 ∧ Wd X.K m' H2 S' ∧ Dl ∉ m'.L ∧ ¬ m'.P Dl ∧ H2 Dl = some (.lst acc) ∧ NstL m' acc accD ∧ lnF g t e (wipeA ρ vs) (ds.drop (i + 1)) S' = some (rest, S2) ∧ accD ++ rest = xs,
            fun H2 h2 => ⟨ds.length - (i + 1), by omega, rfl, hlt, h2⟩, fun x H2 hy => ?_⟩
          obtain ⟨hst, d, hd, hr⟩ := yl i x H2 hlt hy
          have st := step_tup (m := m') hst
          have w2 := wd_tup w' hst
          have ed : ds.drop i = d :: ds.drop (i + 1) := by
            rw [List.drop_eq_getElem_cons hlt]
            congr 1
            rw [List.getElem?_eq_getElem hlt] at hd
            exact Option.some.inj hd
          rw [ed] at hlc
          unfold lnF at hlc
          split at hlc
          · rename_i ρ2 eg
            have en2 : EnvR X.K m' H2 (L2.wipe σ vs) (wipeA ρ vs) := ((en.mono s1).mono (s'.trans st)).wipe vs
            refine ⟨d, _, ρ2, eg, m', S', w2, en2, hr, fun σ3 en3 off => ⟨wipe_off off hi, ρ2, S', m', w2, en3, ?_⟩⟩
            have hD2 : H2 Dl = some (.lst acc) := st.keep Dl _ hacc (.inl hL)
            have r2 := racc.mono st
            split at hlc
            · rename_i S3 et
              rw [et]
              intro m3 H3 s3 w3
              refine iteT ⟨ρ2, S3, m3, w3, en3.mono s3, ?_⟩
              have L3 : Dl ∉ m3.L := fun z => by
                obtain ⟨ps, el, fr⟩ := s3.ext
                rw [el] at z
                rcases List.mem_append.mp z with z | z
                · exact hL z
                · rw [fr _ z] at hD2; cases hD2
              have P3 : ¬ m3.P Dl := fun z => by
                rcases s3.fr _ z with z | z | z
                · exact hP z
                · exact hL z
                · rw [z] at hD2; cases hD2
              have hD3 : H3 Dl = some (.lst acc) := s3.keep Dl _ hD2 (.inl hL)
              split at hlc
              · rename_i o S4 ee
                rw [ee]
                split at hlc
                · rename_i xs' S6 er
                  cases hlc
                  intro y m4 H4 s4 w4 a4 f4
                  obtain ⟨p, rfl, _⟩ := id a4
                  obtain ⟨s5, w5, a5⟩ := own_ok s4 w4 a4 f4
                  have hp0 : H3 p = none := f4 p rfl
                  have np : Dl ≠ p := fun z => by
                    rw [← z, hD3] at hp0; cases hp0
                  have L4 : Dl ∉ m4.L ++ [p] := fun z => by
                    rcases List.mem_append.mp z with z | z
                    · obtain ⟨ps, el, fr⟩ := s4.ext
                      rw [el] at z
                      rcases List.mem_append.mp z with z | z
                      · exact L3 z
                      · rw [fr _ z] at hD3; cases hD3
                    · exact np (List.mem_singleton.mp z)
                  have P4 : ¬ m4.P Dl := fun z => by
                    rcases s4.fr _ z with z | z | z
                    · exact P3 z
                    · exact L3 z
                    · rw [z] at hD3; cases hD3
                  have hD4 : H4 Dl = some (.lst acc) := s4.keep Dl _ hD3 (.inl L3)
                  have s15 := ((s'.trans st).trans s3).trans s5
                  refine ⟨acc, hD4, ?_, ?_⟩
                  · have e1 := r2.len
                    have e2 : accD.length < xs.length := by rw [← hxs, List.length_append, List.length_cons]; omega
                    rw [e1]
                    exact line_lt (by omega)
                  · obtain ⟨t1, t2, t3⟩ := grow_ok (K := X.K) (u := .lst []) (acc' := acc ++ [.ref p]) hD s15 w5 L4 P4 hD4
                    refine ⟨⟨m4.L ++ [p], m4.P⟩, S4 ++ [o], acc ++ [.ref p], accD ++ [S4.length], xs', t1, t2, L4, P4, upd_same, ?_, er, by rw [List.append_assoc]; exact hxs⟩
                    have r5 := (r2.mono s3).mono s5
                    obtain ⟨q5, eq5, hq5⟩ := a5
                    cases eq5
                    refine ⟨by rw [List.length_append, List.length_append, r5.len]; rfl, fun j i e => ?_⟩
                    by_cases hj : j < accD.length
                    · rw [List.getElem?_append_left hj] at e
                      obtain ⟨q, h1, h2⟩ := r5.at_ j i e
                      exact ⟨q, h1, by rw [List.getElem?_append_left (by rw [r5.len]; exact hj)]; exact h2⟩
                    · rw [List.getElem?_append_right (by omega)] at e
                      have hz : j - accD.length = 0 := by
                        have := (List.getElem?_eq_some_iff.mp e).1
                        simp at this; omega
                      rw [hz] at e
                      cases e
                      refine ⟨p, hq5, ?_⟩
                      rw [List.getElem?_append_right (by rw [r5.len]; omega), r5.len, hz]; rfl
                · cases hlc
              · cases hlc
            · rename_i S3 et
              rw [et]
              intro m3 H3 s3 w3
              have L3 : Dl ∉ m3.L := fun z => by
                obtain ⟨ps, el, fr⟩ := s3.ext
                rw [el] at z
                rcases List.mem_append.mp z with z | z
                · exact hL z
                · rw [fr _ z] at hD2; cases hD2
              have P3 : ¬ m3.P Dl := fun z => by
                rcases s3.fr _ z with z | z | z
                · exact hP z
                · exact hL z
                · rw [z] at hD2; cases hD2
              exact iteF ⟨m3, S3, acc, accD, rest, (s'.trans st).trans s3, w3, L3, P3, s3.keep Dl _ hD2 (.inl hL), r2.mono s3, hlc, hxs⟩
            · cases hlc
          · cases hlc
        · have hi2 : i = ds.length := by omega
          subst hi2
          rw [List.drop_length] at hlc
          cases hlc
          rw [List.append_nil] at hxs
          subst hxs
          have g : ∀ b, m'.P b → (m'.P b ∨ b = Dl) := fun _ c => .inl c
          have stp : Stay X.K m'.P H' (fun b => m'.P b ∨ b = Dl) H' := ⟨fun _ _ h _ => h, fun _ _ _ h => h, g⟩
          have s9 := s1.trans s'
          refine .inl ⟨stop, q _ ⟨m'.L, fun b => m'.P b ∨ b = Dl⟩ H' ⟨s9.ext, s9.keep, fun b c => .inl (s9.phi b c), fun b c => ?_, s9.trk⟩ ⟨w'.len, w'.nd, fun n p o e1 e2 => (w'.obj n p o e1 e2).mono (m' := ⟨m'.L, fun b => m'.P b ∨ b = Dl⟩) stp Grow.of rfl, fun n p o e1 e2 l => ?_, fun b c => ?_⟩ ⟨Dl, acc, rfl, .inr rfl, hacc, ⟨racc.len, racc.at_⟩⟩ trivial⟩
          · rcases c with c | rfl
            · exact s9.fr b c
            · exact .inr (.inr (s1.none hD))
          · rintro (c | rfl)
            · exact w'.sep n p o e1 e2 l c
            · exact hL (List.mem_of_getElem? e1)
          · rcases c with c | rfl
            · exact w'.phi b c
            · exact ⟨_, hacc⟩
      · exact q.elim
theorem js_setLn {i : Nat} {y : Str} {py : Pos} {elt tg iter : Expr} {ifs : List Expr} {scope : Scope} {own : List (Str × Nat)} {pos spos : Pos} {it : AE → SS → RI} {is : List Nat} {g : D → AE → Option AE} {t : AE → SS → RB} {e : AE → SS → R} (hc : X.calm = true) (hN : X.N.Nodup) (ji : JI X W tg iter it) (ok : BlkOk X.N X.env.scope scope own) (hin : ∀ i, i ∈ is → i ∈ own.map (·.2))
    (jg : Blk X scope fun Y => JG Y tg is g) (jt : Blk X scope fun Y => JTs Y W0 ifs t) (je : Blk X scope fun Y => JE Y W0 elt e)
    (hsw : swapsWith (.ListComp elt [⟨tg, iter, ifs, 0⟩] scope pos) (some (.Name y py)) spos.line X.env = pure true) (hy : X.N[i]? = some y := by rfl) (hyl : X.env.scope.names.lookup y = some .local := by rfl) (hs : ∀ x, foldedSetIterable iter X.env x = pure x := by intro _; rfl) :
    JS X W (.Assign [.Name y py] (.ListComp elt [⟨tg, iter, ifs, 0⟩] scope pos) spos) (sSet i (eLn (own.map (·.2)) it g t e)) := fun ρ S =>
  PS.imp (ps_setLc hc hN hy hyl hsw (ji ρ S) ok (fun s H C cl fp => pg_u (jg s H C cl fp)) (fun s H C cl fp => pts_u (jt s H C cl fp)) (fun s H C cl fp => pe_u (je s H C cl fp)) hs) fun D σ H ⟨m, w, en, q⟩ => ln_ok (iter := iter) (tg := tg) hin ρ S σ H _ ⟨m, w, en, R.toS_ok en q fun a S1 v m1 H1 s1 w1 a1 f1 q => by
    obtain ⟨P', g, s2, w2, a2⟩ := fz1_ok s1 w1 a1 f1
    exact q _ _ _ s2 w2 ((en.mono s2).set a2)⟩

/-- a name that stands for such a list -/
def eVarN (i : Nat) : AE → SS → R := fun ρ S => match ρ[i]? with
  | some (some (.nst is)) => .ok (.nst is) S
  | _ => .bad
theorem je_varN (i : Nat) {x : Str} {pos : Pos} (hN : X.N[i]? = some x := by rfl) (hv : Vis X.env.scope x := by first | exact Or.inl rfl | exact Or.inr (Or.inl rfl) | exact Or.inr (Or.inr rfl)) (hd : (x == ("__debug__" : Str)) = false := by decide)
    (hcd : (x == ("__classdict__" : Str)) = false := by decide) : JE X W (.Name x pos) (eVarN i) := fun ρ S => by
  refine PE.imp (pe_var hN hv hd hcd) fun σ H Q ⟨m, w, en, q⟩ => ?_
  unfold eVarN at q
  split at q
  · rename_i d e
    obtain ⟨v, h1, h2⟩ := en.at_ i _ e
    exact ⟨v, h1, q v m H (.refl _ _) w h2 trivial⟩
  · exact q.elim
/-- its item -/
def apIxN : AV → AV → SS → R
  | .nst is, y, S => (match view y S with
    | some (.int j) => (match decide (0 ≤ j), is[j.toNat]? with
      | true, some n => .ok (.own n) S
      | _, _ => .bad)
    | _ => .bad)
  | _, _, _ => .bad
def eIxN (f h : AE → SS → R) : AE → SS → R := fun ρ S => (f ρ S).bind fun x S1 => (h ρ S1).bind fun y S2 => apIxN x y S2
theorem je_ixN {a b : Expr} {pos : Pos} {f h : AE → SS → R} (hu : X.A.units + 1 < cLine) (ja : JE X W a f) (jb : JE X W b h) (hs : PlainIx b := by exact fun _ _ => rfl) : JE X W (.Subscript a b pos) (eIxN f h) := fun ρ S => by
  obtain ⟨ta, tb, ha, hb, i⟩ := two ja jb (g := apIxN) (rr := rIxAll X.K) (fun σ m H S x y u w Q w1 a1 a2 q => by
    unfold apIxN at q
    split at q
    · rename_i is y'
      split at q
      · rename_i j hj
        split at q
        · rename_i n h0 hn
          obtain ⟨p, xs, rfl, c, hp, nl⟩ := a1
          obtain ⟨q', hq1, hq2⟩ := nl.at_ _ _ hn
          have h0 : 0 ≤ j := of_decide_eq_true h0
          obtain ⟨k, rfl⟩ := Int.eq_ofNat_of_zero_le h0
          rw [Int.toNat_natCast] at hq2
          have rv := view_rep w1 a2 hj
          cases r_int rv
          exact .inl (.inl ⟨p, xs, _, .ref q', rfl, rfl, .of hp, atI_nat hq2, q _ m H (.refl _ _) w1 ⟨q', rfl, hq1⟩ trivial⟩)
        · exact q.elim
      · exact q.elim
    · exact q.elim) ρ S
  exact PE.imp (pe_ix (ix_all hu) ha hb hs) i
/-- the list and its items come to rest -/
def sRetV (i : Nat) : AE → SS → SR := fun ρ S => match ρ[i]? with
  | some (some (.nst is)) => (match frzs (is.map AV.own) S with
    | some (ds, S') => .rt (.dat (.lst ds)) S'
    | none => .bad)
  | _ => .bad
theorem nst_paired {K : PySem.W.Frag} {m : Mem} {H : Hp} : ∀ {xs : List V} {is : List Nat}, NstL m xs is → Paired (AVQ K m H) xs (is.map AV.own)
  | [], [], _ => .nil
  | [], _ :: _, h => by have := h.len; simp at this
  | _ :: _, [], h => by have := h.len; simp at this
  | x :: xs, i :: is, h => by
    refine .cons ?_ (nst_paired ⟨by have := h.len; simpa using this, fun j k e => ?_⟩)
    · obtain ⟨q, h1, h2⟩ := h.at_ 0 i rfl
      cases h2
      exact ⟨q, rfl, h1⟩
    · obtain ⟨q, h1, h2⟩ := h.at_ (j + 1) k (by simpa using e)
      exact ⟨q, h1, by simpa using h2⟩
theorem own_free {H : Hp} : ∀ {xs : List V} {is : List Nat}, xs.length = is.length → Paired (AVF H) xs (is.map AV.own)
  | [], [], _ => .nil
  | [], _ :: _, h => by simp at h
  | _ :: _, [], h => by simp at h
  | x :: xs, i :: is, h => .cons trivial (own_free (by simpa using h))
theorem js_retV (i : Nat) {x : Str} {pos pos2 : Pos} (hN : X.N[i]? = some x := by rfl) (hv : Vis X.env.scope x := by first | exact Or.inl rfl | exact Or.inr (Or.inl rfl) | exact Or.inr (Or.inr rfl)) (hd : (x == ("__debug__" : Str)) = false := by decide)
    (hcd : (x == ("__classdict__" : Str)) = false := by decide) : JS X W (.Return (some (.Name x pos)) pos2) (sRetV i) := fun ρ S => by
  refine PS.imp (ps_ret (pe_var hN hv hd hcd)) fun D σ H ⟨m, w, en, q⟩ => ?_
  unfold sRetV at q
  split at q
  · rename_i is e
    obtain ⟨v, h1, h2⟩ := en.at_ i _ e
    obtain ⟨p, xs, rfl, c, hp, nl⟩ := h2
    split at q
    · rename_i ds S' ef
      obtain ⟨P', g, s2, w2, r⟩ := frzs_ok (.refl m H) w (nst_paired nl) (own_free nl.len) ef
      exact ⟨_, h1, q _ _ _ s2 w2 (.lst (g _ c) hp r) trivial⟩
    · exact q.elim
  · exact q.elim
/-! ### any(xs) of ints -/
theorem truth_ints {prog : Program} {w : World} {A : Around} {is : List Int} {its : List Value} (e : Vals (is.map V.int) its) :
    TruthOf prog w A (fun i v => its.toArray[i]? = some v) (fun i => decide (is.getD i 0 ≠ 0)) := fun i v s Q E hv hq => by
  have hv' : its[i]? = some v := by simpa using hv
  have hi : i < is.length := by
    have h1 := (List.getElem?_eq_some_iff.mp hv').1
    have h2 := e.length
    rw [List.length_map] at h2
    omega
  obtain ⟨u, hu, ru⟩ := e.get (i := i) (x := .int is[i]) (by rw [List.getElem?_map, List.getElem?_eq_getElem hi]; rfl)
  rw [hv'] at hu
  cases hu
  obtain ⟨t, rfl⟩ := ru
  have hg : is.getD i 0 = is[i] := by rw [List.getD_eq_getElem?_getD, List.getElem?_eq_getElem hi]; rfl
  have hq' : Q (decide (is.getD i 0 ≠ 0)) s := hq
  rw [hg] at hq'
  refine truthy_int ?_
  have eb : (is[i] != 0) = decide (is[i] ≠ 0) := by
    by_cases h : is[i] = 0
    · rw [h]; rfl
    · rw [decide_eq_true h]; exact bne_iff_ne.mpr h
  rw [eb]
  exact hq'
theorem any_rangeI : ∀ is : List Int, (List.range is.length).any (fun i => decide (is.getD i 0 ≠ 0)) = is.any fun i => decide (i ≠ 0)
  | [] => rfl
  | b :: bs => by
    rw [List.length_cons, List.range_succ_eq_map, List.any_cons, List.any_map, List.any_cons, ← any_rangeI bs]
    all_goals rfl
def rAny2 (K : PySem.W.Frag) : List V → Hp → VK → Prop := fun vs H Q => rAny K vs H Q ∨ ∃ (a : Addr) (is : List Int), vs = [V.ref a] ∧ SqL K H a (is.map V.int) ∧ Q (.bl (is.any fun i => decide (i ≠ 0))) H
theorem cr_any2 (hc : X.calm = true) : CallR X (.builtin "any") (rAny2 X.K) := by
  intro pins s σ H vs us Q I r h
  rcases h with h | h
  · exact cr_any hc pins s σ H vs us Q I r h
  obtain ⟨a, is, rfl, hs, q⟩ := h
  obtain ⟨its, rv, hl, _⟩ := I.list hs
  rw [Vals.ref1 r]
  refine call_any_walk (iter_any hl.isList fun s₂ e2 st hne => ?_)
  subst e2
  refine ⟨_, _, _, _, _, _, _, rfl, Walks.list (A := X.A.in1) (I.ok.hd hc) _ a hne its.toArray, st, truth_ints rv, fun h' tk hk => ?_⟩
  refine ⟨.bl _, H, I.kept fun b o eo => hk b o (fun hmem => ?_) (Heap.get?_push_of_some _ eo), ?_, q⟩
  · rcases List.mem_cons.mp hmem with e1 | hmem
    · exact absurd (e1 ▸ Heap.lt_size eo) (Nat.lt_irrefl _)
    · cases hmem
  · show Value.bool _ = Value.bool _
    rw [← any_rangeI, List.size_toArray, ← rv.length, List.length_map]
def gAny2 : D → Option RD
  | .lst ds => (match intsD ds with
    | some is => some (.dt (.bl (is.any fun i => decide (i ≠ 0))))
    | none => gAny (.lst ds))
  | _ => none
theorem cv_any2 {K : PySem.W.Frag} : CallV K (rAny2 K) (g1 gAny2) := by
  intro P H vs ds z Q hv g q
  match ds with
  | [] => cases g
  | _ :: _ :: _ => cases g
  | [d] =>
  obtain ⟨v, rfl, h⟩ := p1 hv
  cases d <;> try (cases g; done)
  rename_i es
  dsimp only [g1, gAny2] at g
  split at g
  · rename_i is e
    obtain ⟨a, xs, rfl, h1, r1⟩ := id h
    cases g
    rw [ints_ok r1 e] at h1
    exact .inr ⟨a, is, rfl, .of h1, q _ _ (nv (.bl _))⟩
  · exact .inl (cv_any P H [v] [.lst es] z Q hv g q)
/-! ### row[i] += e, the row an object of our own -/
theorem pget_list : PGet X (rIxL X.K) := by
  intro pins s σ H o i ov iv Q I ro ri h
  obtain ⟨p, xs, j, z, rfl, rfl, hq, he, q⟩ := h
  cases ro
  obtain ⟨t, rfl⟩ := ri
  obtain ⟨its, r, pl, hz⟩ := I.list hq
  obtain ⟨k, h1, h2, h3, h4, h5⟩ := atI_get he
  obtain ⟨w, ew, rw'⟩ := r.get h2
  have hl := r.length
  have hn := line63
  have fin : EP X pins σ Q w s := ⟨z, H, I, rw', q⟩
  by_cases h0 : 0 ≤ j
  · have hj : j.toNat = k := by
      rw [seqIndex_of h0 h5] at h1
      exact Option.some.inj h1
    exact wpAny_getItem_list pl.isList h0 (by omega) (by rw [hj]; simpa using ew) fin
  · have hj : (j + (its.toArray.size : Int)).toNat = k := by
      rw [seqIndex_neg (by omega) h4] at h1
      rw [List.size_toArray, ← hl]
      exact Option.some.inj h1
    exact wpAny_getItem_list_neg pl.isList (by omega) (by rw [List.size_toArray] <;> omega) (by omega) (by rw [hj]; simpa using ew) fin
def sAugS (g : D → D → Option D) (fo fi fe : AE → SS → R) : AE → SS → SR := fun ρ S => (fo ρ S).toS ρ fun x S1 => (fi ρ S1).toS ρ fun y S2 => match x, view y S2 with
  | .own n, some (.int j) => (match S2[n]? with
    | some (.lst ds) => (match atI ds j with
      | some d => (fe ρ S2).toS ρ fun a S3 => (match view a S3 with
        | some e => (match g d e with
          | some z => apP gSet ρ (.own n) (.dat (.int j)) z S3
          | none => .bad)
        | none => .bad)
      | none => .bad)
    | _ => .bad)
  | _, _ => .bad
theorem js_augS {op : Operator} {ti : TIp} {g : D → D → Option D} {o i e : Expr} {pos pos' : Pos} {fo fi fe : AE → SS → R} (hu : X.A.units + 1 < cLine) (ho : PIp X op ti) (hv : IpV X.K ti g) (jo : JE X W o fo) (ji : JE X W i fi) (je : JE X W e fe)
    (ha : ∀ ov iv new, augStore i ov iv new = (do holding [new, ov, iv] (setItem ov iv new); release [new, ov, iv] []; pure .next) := by intros; rfl) : JS X W (.AugAssign (.Subscript o i pos') op e pos) (sAugS g fo fi fe) := fun ρ S => by
  cases hfo : fo ρ S with
  | bad => exact PS.imp (ps_augS (jo ρ S) (ji ρ S) pget_list (je ρ S) ho (set_all hu) ha) fun D σ H ⟨m, w, en, q⟩ => by unfold sAugS at q; rw [hfo] at q; exact q.elim
  | exc x S1 => exact PS.imp (ps_augS (jo ρ S) (ji ρ S) pget_list (je ρ S) ho (set_all hu) ha) fun D σ H ⟨m, w, en, q⟩ => ⟨m, w, en, by
      unfold sAugS at q; rw [hfo] at q ⊢
      exact fun m1 H1 s1 w1 => q σ m1 H1 s1 w1 (en.mono s1)⟩
  | ok x S1 =>
    cases hfi : fi ρ S1 with
    | bad => exact PS.imp (ps_augS (jo ρ S) (ji ρ S1) pget_list (je ρ S1) ho (set_all hu) ha) fun D σ H ⟨m, w, en, q⟩ => by unfold sAugS at q; rw [hfo] at q; dsimp only [R.toS] at q; rw [hfi] at q; exact q.elim
    | exc y S2 => exact PS.imp (ps_augS (jo ρ S) (ji ρ S1) pget_list (je ρ S1) ho (set_all hu) ha) fun D σ H ⟨m, w, en, q⟩ => ⟨m, w, en, by
        unfold sAugS at q; rw [hfo] at q ⊢
        dsimp only [R.toS] at q
        rw [hfi] at q
        intro vo m1 H1 s1 w1 a1 f1
        exact ⟨m1, w1, en.mono s1, by rw [hfi]; exact fun m2 H2 s2 w2 => q σ m2 H2 (s1.trans s2) w2 ((en.mono s1).mono s2)⟩⟩
    | ok y S2 =>
      refine PS.imp (ps_augS (jo ρ S) (ji ρ S1) pget_list (je ρ S2) ho (set_all hu) ha) fun D σ H ⟨m, w, en, q⟩ => ⟨m, w, en, ?_⟩
      unfold sAugS at q
      rw [hfo] at q ⊢
      dsimp only [R.toS] at q
      rw [hfi] at q
      intro vo m1 H1 s1 w1 a1 f1
      have en1 := en.mono s1
      refine ⟨m1, w1, en1, ?_⟩
      rw [hfi]
      intro vi m2 H2 s2 w2 a2 f2
      have en2 := en1.mono s2
      dsimp only at q
      split at q
      · rename_i n j hj
        have a1' := (AVR.mono s2 a1 : AVR X.K m2 H2 vo (.own n))
        obtain ⟨p, rfl, hp⟩ := a1'
        have rv := view_rep w2 a2 hj
        cases r_int rv
        split at q
        · rename_i ds hds
          split at q
          · rename_i d hd
            obtain ⟨xs, hx, rx⟩ := w2.obj n p _ hp hds
            obtain ⟨v, hv1, rv1⟩ := at_rep rx hd
            refine ⟨p, xs, j, v, rfl, rfl, .of hx, hv1, m2, w2, en2, R.toS_ok en2 (SQ.back (s1.trans s2) q) fun a S3 u m3 H3 s3 w3 a3 f3 q => ?_⟩
            split at q
            · rename_i e1 he
              split at q
              · rename_i z hz
                refine hv m3.P H3 v u d e1 z _ (Rep.mono s3.stay rv1) (view_rep w3 a3 he) hz fun v' r' => ?_
                have hp3 : m3.L[n]? = some p := by
                  obtain ⟨ps, el, _⟩ := s3.ext
                  rw [el, List.getElem?_append_left (List.getElem?_eq_some_iff.mp hp).1]; exact hp
                have q := SQ.back s3 q
                dsimp only [apP, view] at q
                split at q
                · rename_i oo hoo
                  split at q
                  · rename_i o' hl hg
                    have ob := (w3.obj n p oo hp3 hoo).c hl
                    refine sv_set m3.P H3 p oo (.int j) v' (.int j) z o' _ ob hl (w3.sep n p oo hp3 hoo (AO.live_sp hl)) (.int j) r' hg fun u oo' => ?_
                    obtain ⟨s5, w5⟩ := mut_ok w3 hp3 hoo hl oo'
                    exact q σ _ _ s5 w5 ((en2.mono s3).mono s5)
                  · exact q.elim
                · exact q.elim
              · exact q.elim
            · exact q.elim
          · exact q.elim
        · exact q.elim
      · exact q.elim
end
/-! ### xs.extend(a tuple) -/
open AutoSeq1 (wpAny_loadPart') in
theorem list_extend_tup (l : Addr) (items : Array Value) (n : Nat) (b : Addr) (items2 : Array Value) (n2 : Nat) (dct : Option Addr) (sl : Array (Option Value)) (hs0 : ¬(!items.isEmpty && Builtin.List.listTooLong (items.size + items2.size)) = true) (hs1 : items.size ≤ sizeLine) (hs2 : items.size + items2.size ≤ sizeLine + 1) :
    Meets (Builtin.«list.extend» ⟨[.ref l, .ref b], []⟩) (fun _ R s => s.heap.get? l = some { cls := .type "list", dict := none, data := .seq items n, slots := #[] } ∧ s.heap.get? b = some { cls := .type "tuple", dict := dct, data := .seq items2 n2, slots := sl } ∧ R (.ok (.ret Value.none)) { s with heap := s.heap.update l (Obj.mapSeq fun x => x ++ items2), toks := s.toks }) :=
  .of_wp fun prog w A R s h => by
    obtain ⟨hp, g, d, tk, os⟩ := s; obtain ⟨hl, hb, h⟩ := h; have f1 := AutoSeq1.idx_int; have f2 := AutoSeq1.sub_tuple_tuple; have f3 := AutoSeq1.sub_list_list; have f4 := AutoSeq1.sub_tuple_list; have f5 := AutoSeq1.sub_list_tuple;
    have hz' : (items ++ items2).size ≤ sizeLine + 1 := by rw [Array.size_append]; exact hs2
    wp_walk using (wpAny_updateSeq hl rfl (hz := hs1) (_hz' := hz')), wpAny_loadPart' hl, wpAny_loadPart' hb; exact ⟨_, rfl, h⟩
section
variable {X : Cx} {W : WX}
def rExtendA (K : PySem.W.Frag) : V → List V → Hp → VK → Prop := fun x vs H Q => rExtend x vs H Q ∨ ∃ l b xs zs, x = .ref l ∧ vs = [.ref b] ∧ H l = some (.lst xs) ∧ SqT K H b zs ∧ xs.length + zs.length ≤ sizeLine ∧ Q .non (upd H l (.lst (xs ++ zs)))
theorem mt_extendA : MtM X "list.extend" (rExtendA X.K) := by
  intro pins s σ H x vs v us Q I rx rv h
  rcases h with h | h
  · exact mt_extend pins s σ H x vs v us Q I rx rv h
  obtain ⟨l, b, xs, zs, rfl, rfl, hH, hB, hz, q⟩ := h
  cases rx
  obtain ⟨u, rfl, ru⟩ := rv.one
  cases ru
  obtain ⟨z, its, n, r, hl, e⟩ := I.lstM hH
  obtain ⟨its2, r2, p2, _⟩ := I.tuple hB
  have hl2 := r2.length
  obtain ⟨⟨c, dct, dt, sl⟩, e2, hc, n2, hd⟩ := p2
  replace hc : c = .type "tuple" := hc
  replace hd : dt = .seq its2.toArray n2 := hd
  subst hc hd
  have hsz : its.toArray.size + its2.toArray.size ≤ sizeLine := by rw [List.size_toArray, List.size_toArray]; omega
  have hlong : ¬ (!its.toArray.isEmpty && Builtin.List.listTooLong (its.toArray.size + its2.toArray.size)) = true := by
    rw [notLongL hsz, Bool.and_false]
    exact Bool.false_ne_true
  refine call_meets F.slot_list_extend ⟨_, e, rfl⟩ F.entry_list_extend (F.args_list_extend_2 _ _)
    (list_extend_tup l its.toArray n b its2.toArray n2 dct sl hlong (by rw [List.size_toArray]; omega) (by omega)) ⟨e, e2, ?_⟩
  refine ⟨.non, _, I.lset (its' := its ++ its2) hH e (by simp) (r.append r2) ?_, rfl, q⟩
  rw [List.length_append]
  omega
def gExtendA : AO → D → Option (AO × D)
  | .lst ds, .tup es => (match Nat.ble (ds.length + es.length) line with
    | true => some (.lst (ds ++ es), .non)
    | false => none)
  | o, d => gExtend o d
theorem uv_extendA {K : PySem.W.Frag} : MuV K (rExtendA K) (u1 gExtendA) := by
  intro P H p o vs ds o' d Q oo hl np r g q
  have other : u1 gExtend o ds = some (o', d) → rExtendA K (.ref p) vs H Q := fun g => .inl (uv_extend P H p o vs ds o' d Q oo hl np r g q)
  match ds with
  | [] => cases g
  | _ :: _ :: _ => cases g
  | [e] =>
  cases o with
  | dct _ => exact other (by cases e <;> exact g)
  | fz _ => exact other (by cases e <;> exact g)
  | nx _ => exact other (by cases e <;> exact g)
  | lst ds =>
    cases e with
    | tup es =>
      cases r with
      | cons r rr =>
      cases rr
      obtain ⟨xs, h1, r1⟩ := oo
      cases r with
      | tup h2 r2 =>
      dsimp only [u1, gExtendA] at g
      split at g
      · rename_i c
        cases g
        refine .inr ⟨p, _, xs, _, rfl, rfl, h1, h2, by rw [r1.length, r2.length]; exact line_le (ble_ok c), q _ _ ⟨_, upd_same, ?_⟩ .non⟩
        exact RepL.mono (mut_stay h1 (fun z => z) np) (r1.append r2)
      · cases g
    | lst es => exact other g
    | non => exact other g
    | bl _ => exact other g
    | int _ => exact other g
    | str _ => exact other g
    | dct _ => exact other g
    | scr _ => exact other g
    | ty _ => exact other g
    | opq => exact other g
theorem gExtendA_t {ds es : List D} (h : ds.length + es.length ≤ 16777216) : gExtendA (.lst ds) (.tup es) = some (.lst (ds ++ es), .non) := by
  dsimp only [gExtendA]
  rw [show Nat.ble (ds.length + es.length) line = true from ble_of h]
end
end Ew

set_option Elab.async false
set_option linter.all false
set_option maxRecDepth 100000
set_option maxHeartbeats 8000000
namespace Ew
open PySem PySem.Spec PyProof.Rows L2

/-! ### equations for rows of own objects -/
def eVarNK (S : SS) : Option (Option AV) → R := fun v => match v with
  | some (some (.nst is)) => .ok (.nst is) S
  | _ => .bad
theorem eVarN_e {i : Nat} {ρ : AE} {S : SS} : eVarN i ρ S = eVarNK S ρ[i]? := by unfold eVarN eVarNK; rfl
theorem eVarNK_e {is : List Nat} {S : SS} : eVarNK S (some (some (.nst is))) = .ok (.nst is) S := (rfl)
def eIxNL (x : AV) : AV → SS → R := fun y S => apIxN x y S
def eIxNK (h : AE → SS → R) (ρ : AE) : AV → SS → R := fun x S1 => (h ρ S1).bind (eIxNL x)
theorem eIxN_e {f h : AE → SS → R} {ρ : AE} {S : SS} : eIxN f h ρ S = R.bind (f ρ S) (eIxNK h ρ) := (rfl)
theorem eIxNK_e {h : AE → SS → R} {ρ : AE} {S : SS} {x : AV} : eIxNK h ρ x S = R.bind (h ρ S) (eIxNL x) := (rfl)
theorem eIxNL_e {S : SS} {x y : AV} : eIxNL x y S = apIxN x y S := (rfl)
theorem apIxN_e {S : SS} {is : List Nat} {u n : Nat} (h : is[u]? = some n) : apIxN (.nst is) (.dat (.int (u : Nat))) S = .ok (.own n) S := by
  unfold apIxN
  dsimp only [view]
  rw [decide_eq_true (Int.natCast_nonneg u), Int.toNat_natCast, h]
theorem rgN_at {u n : Nat} (h : u < n) : (List.range n)[u]? = some u := by rw [List.getElem?_range h]
def sAugS6 (g : D → D → Option D) (ρ : AE) (n : Nat) (j : Int) (d : D) : AV → SS → SR := fun a S3 => match view a S3 with
  | some e => (match g d e with
    | some z => apP gSet ρ (.own n) (.dat (.int j)) z S3
    | none => .bad)
  | none => .bad
def sAugS8 (ρ : AE) (n : Nat) (j : Int) (S3 : SS) : Option D → SR := fun v => match v with
  | some z => apP gSet ρ (.own n) (.dat (.int j)) z S3
  | none => .bad
def sAugS7 (g : D → D → Option D) (ρ : AE) (n : Nat) (j : Int) (d : D) (S3 : SS) : Option D → SR := fun v => match v with
  | some e => sAugS8 ρ n j S3 (g d e)
  | none => .bad
def sAugS5 (g : D → D → Option D) (fe : AE → SS → R) (ρ : AE) (n : Nat) (j : Int) (S2 : SS) : Option D → SR := fun v => match v with
  | some d => (fe ρ S2).toS ρ (sAugS6 g ρ n j d)
  | none => .bad
def sAugS4 (g : D → D → Option D) (fe : AE → SS → R) (ρ : AE) (n : Nat) (j : Int) (S2 : SS) : Option AO → SR := fun v => match v with
  | some (.lst ds) => sAugS5 g fe ρ n j S2 (atI ds j)
  | _ => .bad
def sAugS3 (g : D → D → Option D) (fe : AE → SS → R) (ρ : AE) (n : Nat) (S2 : SS) : Option D → SR := fun v => match v with
  | some (.int j) => sAugS4 g fe ρ n j S2 S2[n]?
  | _ => .bad
def sAugS2 (g : D → D → Option D) (fe : AE → SS → R) (ρ : AE) (x : AV) : AV → SS → SR := fun y S2 => match x, view y S2 with
  | .own n, some (.int j) => (match S2[n]? with
    | some (.lst ds) => (match atI ds j with
      | some d => (fe ρ S2).toS ρ fun a S3 => (match view a S3 with
        | some e => (match g d e with
          | some z => apP gSet ρ (.own n) (.dat (.int j)) z S3
          | none => .bad)
        | none => .bad)
      | none => .bad)
    | _ => .bad)
  | _, _ => .bad
def sAugS1 (g : D → D → Option D) (fi fe : AE → SS → R) (ρ : AE) : AV → SS → SR := fun x S1 => (fi ρ S1).toS ρ (sAugS2 g fe ρ x)
theorem sAugS_e {g : D → D → Option D} {fo fi fe : AE → SS → R} {ρ : AE} {S : SS} : sAugS g fo fi fe ρ S = R.toS (fo ρ S) ρ (sAugS1 g fi fe ρ) := (rfl)
theorem sAugS1_e {g : D → D → Option D} {fi fe : AE → SS → R} {ρ : AE} {S : SS} {x : AV} : sAugS1 g fi fe ρ x S = R.toS (fi ρ S) ρ (sAugS2 g fe ρ x) := (rfl)
theorem sAugS2_e {g : D → D → Option D} {fe : AE → SS → R} {ρ : AE} {S : SS} {n : Nat} {j : Int} : sAugS2 g fe ρ (.own n) (.dat (.int j)) S = sAugS4 g fe ρ n j S S[n]? := by
  unfold sAugS2 sAugS4
  dsimp only [view]
  cases S[n]? with
  | none => rfl
  | some o =>
    cases o with
    | lst ds => dsimp only; cases atI ds j <;> rfl
    | _ => rfl
theorem sAugS4_e {g : D → D → Option D} {fe : AE → SS → R} {ρ : AE} {S : SS} {n : Nat} {j : Int} {ds : List D} : sAugS4 g fe ρ n j S (some (.lst ds)) = sAugS5 g fe ρ n j S (atI ds j) := (rfl)
theorem sAugS5_e {g : D → D → Option D} {fe : AE → SS → R} {ρ : AE} {S : SS} {n : Nat} {j : Int} {d : D} : sAugS5 g fe ρ n j S (some d) = R.toS (fe ρ S) ρ (sAugS6 g ρ n j d) := (rfl)
theorem sAugS6_e {g : D → D → Option D} {ρ : AE} {S : SS} {n : Nat} {j : Int} {d : D} {a : AV} : sAugS6 g ρ n j d a S = sAugS7 g ρ n j d S (view a S) := by
  unfold sAugS6 sAugS7
  cases view a S with
  | none => rfl
  | some e => dsimp only; unfold sAugS8; cases g d e <;> rfl
theorem sAugS7_e {g : D → D → Option D} {ρ : AE} {S : SS} {n : Nat} {j : Int} {d e : D} : sAugS7 g ρ n j d S (some e) = sAugS8 ρ n j S (g d e) := (rfl)
theorem sAugS8_e {ρ : AE} {S : SS} {n : Nat} {j : Int} {z : D} : sAugS8 ρ n j S (some z) = apP gSet ρ (.own n) (.dat (.int j)) z S := (rfl)
theorem hAdd_ii {i j : Int} : hAdd (.int i) (.int j) = some (.int (i + j)) := (rfl)
/-! ### rows of ints -/
def rowO (r : List Int) : AO := .lst (r.map D.int)
theorem rowO_e (r : List Int) : rowO r = .lst (r.map D.int) := rfl
def addA (r : List Int) (j : Nat) (x : Int) : List Int := r.set j (r.getD j 0 + x)
theorem addA_len {r : List Int} {j : Nat} {x : Int} : (addA r j x).length = r.length := by unfold addA; rw [List.length_set]
theorem row_at {rs : List (List Int)} {u : Nat} (h : u < rs.length) : (rs.map rowO)[u]? = some (.lst ((rs.getD u []).map D.int)) := by
  rw [List.getElem?_map, List.getD_eq_getElem?_getD, List.getElem?_eq_getElem h]; rfl
theorem int_at {r : List Int} {j : Nat} (h : j < r.length) : atI (r.map D.int) (j : Int) = some (.int (r.getD j 0)) := by
  refine atI_nat ?_
  rw [List.getElem?_map, List.getD_eq_getElem?_getD, List.getElem?_eq_getElem h]; rfl
theorem gSet_row {r : List Int} {j : Nat} {x : Int} (h : j < r.length) : gSet (.lst (r.map D.int)) (.int (j : Nat)) (.int (r.getD j 0 + x)) = some (.lst ((addA r j x).map D.int)) := by
  have e : ixN (r.map D.int).length (j : Int) = some j := by
    unfold ixN
    rw [if_pos (by omega), if_pos (by rw [List.length_map]; omega), Int.toNat_natCast]
  rw [gSet_l, e, gSetLK_e]
  unfold addA
  rw [List.map_set]
theorem row_set {rs : List (List Int)} {u : Nat} {r : List Int} : (rs.map rowO).set u (.lst (r.map D.int)) = (rs.set u r).map rowO := by rw [List.map_set]; rfl
theorem set_set {α : Type} {xs : List α} {i : Nat} {a b : α} : (xs.set i a).set i b = xs.set i b := by rw [List.set_set]
theorem getD_set {α : Type} {xs : List α} {i : Nat} {a d : α} (h : i < xs.length) : (xs.set i a).getD i d = a := by
  rw [List.getD_eq_getElem?_getD, List.getElem?_set_self h]; rfl
theorem set_getD {α : Type} {xs : List α} {i : Nat} {d : α} : xs.set i (xs.getD i d) = xs := by
  refine List.ext_getElem? fun j => ?_
  by_cases e : i = j
  · subst e
    by_cases h : i < xs.length
    · rw [List.getElem?_set_self h, List.getD_eq_getElem?_getD, List.getElem?_eq_getElem h]; rfl
    · rw [List.getElem?_eq_none (by rw [List.length_set]; omega), List.getElem?_eq_none (by omega)]
  · rw [List.getElem?_set_ne e]
def zerR (n : Nat) : List Int := List.replicate n 0
theorem zer_fl (n : Nat) : (List.replicate n [D.int 0]).flatten = (zerR n).map D.int := by
  unfold zerR
  rw [List.map_replicate]
  induction n with
  | zero => rfl
  | succ n ih => rw [List.replicate_succ, List.flatten_cons, ih, List.replicate_succ]; rfl
theorem gMul_l0 {ds : List D} {n : Int} (h : (decide (n < 9223372036854775808) && decide (-9223372036854775808 ≤ n) && Nat.ble (ds.length * n.toNat) line) = true) : gMul (.lst ds) (.int n) = some (.ob (.lst (List.replicate n.toNat ds).flatten)) := by
  dsimp only [gMul]; rw [h]
theorem zerR_mul {n : Nat} (h : n ≤ 1000) : gMul (.lst [.int 0]) (.int (n : Nat)) = some (.ob (.lst ((zerR n).map D.int))) := by
  have a1 : decide (((n : Nat) : Int) < 9223372036854775808) = true := decide_eq_true (by omega)
  have a2 : decide (-9223372036854775808 ≤ ((n : Nat) : Int)) = true := decide_eq_true (by omega)
  have a3 : Nat.ble ([D.int 0].length * ((n : Nat) : Int).toNat) line = true := ble_of (by rw [Int.toNat_natCast, List.length_cons, List.length_nil, Nat.zero_add, Nat.one_mul]; exact Nat.le_trans h (by decide))
  have z := gMul_l0 (ds := [D.int 0]) (n := (n : Nat)) (by rw [a1, a2, a3, Bool.and_self, Bool.and_self])
  rw [Int.toNat_natCast, zer_fl] at z
  exact z
/-- the list of fresh rows -/
theorem lnF_rows {α : Type} {g : D → AE → Option AE} {e : AE → SS → R} {ρ : AE} (i : α → D) (f : α → List Int) : ∀ (as : List α) (S : SS), (∀ a ∈ as, ∃ ρ1, g (i a) ρ = some ρ1 ∧ ∀ S, e ρ1 S = .ok (.new (rowO (f a))) S) →
    lnF g tY e ρ (as.map i) S = some (List.range' S.length as.length, S ++ (as.map f).map rowO)
  | [], S, _ => by rw [List.map_nil, lnF, List.map_nil, List.map_nil, List.append_nil]; rfl
  | a :: as, S, h => by
    obtain ⟨ρ1, e1, e2⟩ := h a (List.mem_cons_self ..)
    have ih := lnF_rows i f as (S ++ [rowO (f a)]) fun b hb => h b (List.mem_cons_of_mem _ hb)
    rw [List.map_cons, lnF, e1]
    dsimp only [tY]
    rw [e2]
    dsimp only
    rw [ih]
    dsimp only
    rw [List.length_append, List.map_cons, List.map_cons, List.append_assoc]; first | done | rfl
def eLnK (vs : List Nat) (g : D → AE → Option AE) (t : AE → SS → RB) (e : AE → SS → R) (ρ : AE) : RI → R := fun r => match r with
  | .ok ds S1 => (match lnF g t e (wipeA ρ vs) ds S1 with
    | some (xs, S2) => (match decide (xs.length ≤ line) with
      | true => .ok (.nst xs) S2
      | false => .bad)
    | none => .bad)
  | .exc x S1 => .exc x S1
  | .bad => .bad
def eLnJ : Option (List Nat × SS) → R := fun r => match r with
  | some (xs, S2) => (match decide (xs.length ≤ line) with
    | true => .ok (.nst xs) S2
    | false => .bad)
  | none => .bad
theorem eLn_e {vs : List Nat} {it : AE → SS → RI} {g : D → AE → Option AE} {t : AE → SS → RB} {e : AE → SS → R} {ρ : AE} {S : SS} : eLn vs it g t e ρ S = eLnK vs g t e ρ (it ρ S) := by unfold eLn eLnK; rfl
theorem eLnK_e {vs : List Nat} {g : D → AE → Option AE} {t : AE → SS → RB} {e : AE → SS → R} {ρ : AE} {ds : List D} {S : SS} : eLnK vs g t e ρ (.ok ds S) = eLnJ (lnF g t e (wipeA ρ vs) ds S) := by
  rfl
theorem eLnJ_e {xs : List Nat} {S : SS} (h : xs.length ≤ 16777216) : eLnJ (some (xs, S)) = .ok (.nst xs) S := by
  unfold eLnJ
  dsimp only
  rw [decide_eq_true (show xs.length ≤ line from h)]
def sRetVJ : Option (List D × SS) → SR := fun r => match r with
  | some (ds, S') => .rt (.dat (.lst ds)) S'
  | none => .bad
def sRetVK (S : SS) : Option (Option AV) → SR := fun v => match v with
  | some (some (.nst is)) => sRetVJ (frzs (is.map AV.own) S)
  | _ => .bad
theorem sRetV_e {i : Nat} {ρ : AE} {S : SS} : sRetV i ρ S = sRetVK S ρ[i]? := by
  unfold sRetV sRetVK
  cases ρ[i]? with
  | none => rfl
  | some a =>
    cases a with
    | none => rfl
    | some v =>
      cases v with
      | nst is =>
        dsimp only
        cases frzs (is.map AV.own) S <;> rfl
      | _ => rfl
theorem sRetVK_e {is : List Nat} {S : SS} : sRetVK S (some (some (.nst is))) = sRetVJ (frzs (is.map AV.own) S) := (rfl)
theorem sRetVJ_e {ds : List D} {S : SS} : sRetVJ (some (ds, S)) = .rt (.dat (.lst ds)) S := (rfl)
def fzR (rs : List (List Int)) (S : SS) : SS := rs.foldl (fun S _ => S) S
/-- the rows come to rest -/
theorem frzs_rows (pre : SS) : ∀ (rs : List (List Int)) (post : SS), ∃ mid, mid.length = rs.length ∧ frzs ((List.range' pre.length rs.length).map AV.own) (pre ++ rs.map rowO ++ post) = some (rs.map fun r => .lst (r.map D.int), pre ++ mid ++ post)
  | [], post => ⟨[], rfl, rfl⟩
  | r :: rs, post => by
    obtain ⟨mid, hm, ih⟩ := frzs_rows (pre ++ [.fz (.lst (r.map D.int))]) rs post
    refine ⟨.fz (.lst (r.map D.int)) :: mid, by rw [List.length_cons, List.length_cons, hm], ?_⟩
    rw [List.length_cons, List.range'_succ, List.map_cons, List.map_cons, List.map_cons, frzs]
    have e : (pre ++ rowO r :: rs.map rowO ++ post)[pre.length]? = some (rowO r) := by
      rw [List.append_assoc, List.getElem?_append_right (Nat.le_refl _), Nat.sub_self]; rfl
    have e2 : frz (.own pre.length) (pre ++ rowO r :: rs.map rowO ++ post) = some (.lst (r.map D.int), pre ++ [.fz (.lst (r.map D.int))] ++ rs.map rowO ++ post) := by
      dsimp only [frz]
      rw [e]
      dsimp only
      have e3 : (pre ++ rowO r :: rs.map rowO ++ post).set pre.length (.fz (rowO r).toD) = pre ++ [.fz (.lst (r.map D.int))] ++ rs.map rowO ++ post := by
        rw [List.append_assoc, List.set_append_right (h := Nat.le_refl _), Nat.sub_self, List.append_assoc, List.append_assoc]; rfl
      rw [e3]; rfl
    rw [e2]
    dsimp only
    rw [List.length_append] at ih
    rw [show pre.length + 1 = pre.length + [AO.fz (.lst (r.map D.int))].length from rfl, ih]
    dsimp only
    rw [List.append_assoc, List.append_assoc, List.append_assoc]
    rfl
theorem frzs_all (rs : List (List Int)) : ∃ S', frzs ((List.range' 0 rs.length).map AV.own) (rs.map rowO) = some (rs.map fun r => .lst (r.map D.int), S') := by
  obtain ⟨mid, _, e⟩ := frzs_rows [] rs []
  rw [List.nil_append, List.append_nil] at e
  exact ⟨_, e⟩
theorem gAny2_r {r : List Int} : gAny2 (.lst (r.map D.int)) = some (.dt (.bl (r.any fun i => decide (i ≠ 0)))) := by
  dsimp only [gAny2]
  rw [show r.map D.int = r.map fun i => D.int i from rfl, intsD_map]
  dsimp only
  rw [List.map_id']
end Ew

set_option Elab.async false
set_option linter.all false
set_option maxRecDepth 100000
set_option maxHeartbeats 4000000
namespace Ew
open PySem PySem.Spec PyProof.Rows L2

/-! ### own errors: raised with a text, caught, asked for their class -/
structure ECls (K : PySem.W.Frag) (mg : Str → Option Value) (x : Str) (C : Addr) : Prop where
  g : mg x = some (.ref C)
  q : PySem.W.excIn K C [.type "ValueError", .type "Exception", .type "BaseException", .type "object"] "ValueError.__new__" = true
  k : PySem.W.keepIn K (.ref C) = true
  s : PySem.W.subIn K (.ref C) (.type "BaseException") = some true
  t : PySem.W.typeIn K (.ref C) = some (.type "type")
  e : ExcC K C
def sRaise (x : Str) : AE → SS → SR := fun ρ S => .exc ⟨x, []⟩ ρ S
section
variable {X : Cx} {W : WX} {C C0 : Addr} {x : Str}
theorem js_raise {m : Str} {j : Nat} {p p2 pos pos2 : Pos} (hc : X.calm = true) (tk : Takes X W) (E : ECls X.K X.mg x C) (hg : Gl X x := by rfl) (hdb : (x == ("__debug__" : Str)) = false := by decide) :
    JS X W (.Raise (some (.Call (.Name x p) [.Constant (.str m) j p2] [] pos)) none pos2) (sRaise x) := fun ρ S =>
  PS.imp (ps_raise hc tk (pmk_own PySem.F.excBase_ValueError E.q E.g E.k (raises_own E.s E.t) hg hdb)) fun D σ H ⟨m, w, en, q⟩ => q σ m H (.refl _ _) w en _ _ ⟨C, E.g, rfl, rfl⟩
/-- a test of the error that the suite holds (at a, in slot i) -/
def PB (X : Cx) (a : Addr) (i : Nat) (e : Expr) (b : Bool) : Prop := PE X e fun σ H Q => (∃ σ0 : L2.St, σ = σ0.set i (some (.ref a))) ∧ Q (.bl b) H
variable {Y : Cx} {a : Addr} {i : Nat} {e1 e2 : Expr} {b1 b2 : Bool} {pos : Pos} {rest : List Expr}
theorem pb_one {op} (h : PB Y a i e1 b1) : PB Y a i (.BoolOp op [e1] pos) b1 := pe_one h
theorem pb_and (h : PB Y a i e1 b1) (h2 : PB Y a i (.BoolOp .And (e2 :: rest) pos) b2) : PB Y a i (.BoolOp .And (e1 :: e2 :: rest) pos) (b1 && b2) :=
  PE.imp (pe_and h h2) fun σ H Q ⟨h1, q⟩ => ⟨h1, b1, rfl, by
    cases b1 with
    | true => exact ⟨h1, q⟩
    | false => exact q⟩
theorem pb_or (h : PB Y a i e1 b1) (h2 : PB Y a i (.BoolOp .Or (e2 :: rest) pos) b2) : PB Y a i (.BoolOp .Or (e1 :: e2 :: rest) pos) (b1 || b2) :=
  PE.imp (pe_or h h2) fun σ H Q ⟨h1, q⟩ => ⟨h1, b1, rfl, by
    cases b1 with
    | true => exact q
    | false => exact ⟨h1, q⟩⟩
theorem pb_not (h : PB Y a i e1 b1) : PB Y a i (.UnaryOp .Not e1 pos) (!b1) :=
  PE.imp (pe_not h) fun σ H Q ⟨h1, q⟩ => ⟨h1, b1, rfl, q⟩
theorem pe_hold {n : Str} {np : Pos} (hN : Y.N[i]? = some n) (hv : Vis Y.env.scope n) (hd : (n == ("__debug__" : Str)) = false := by decide) (hcd : (n == ("__classdict__" : Str)) = false := by decide) :
    PE Y (.Name n np) fun σ H Q => (∃ σ0 : L2.St, σ = σ0.set i (some (.ref a))) ∧ Q (.ref a) H := by
  refine ⟨fun pins s σ H Q I h => ?_⟩
  obtain ⟨⟨σ0, rfl⟩, q⟩ := h
  have hl := I.len
  rw [List.length_set] at hl
  exact (pe_var hN hv hd hcd).run pins s _ H Q I ⟨.ref a, List.getElem?_set_self (by rw [hl]; exact (List.getElem?_eq_some_iff.mp hN).1), q⟩
/-- isinstance(e, C), C an own class -/
theorem pb_isO {oe : Obj} {pn : List (Addr × Obj)} {n c : Str} {Cc : Addr} {p p2 np : Pos} {b : Bool} (E : ExcC X.K C) (hz : Zc (.ref C) none oe) (hf : ∃ vs, oe.data = .fields vs) (hN : X.N[i]? = some n) (hv : Vis X.env.scope n)
    (hc : X.mg c = some (.ref Cc)) (hk : PySem.W.kitOne X.K (.ref C) (.ref Cc) = some b) (hm : X.mg "isinstance" = none) (hgi : Gl X "isinstance" := by rfl) (hgc : Gl X c := by rfl)
    (hd : (n == ("__debug__" : Str)) = false := by decide) (hcd : (n == ("__classdict__" : Str)) = false := by decide) (hdc : (c == ("__debug__" : Str)) = false := by decide) :
    PB (X.suite a ((a, oe) :: pn)) a i (.Call (.Name "isinstance" p) [.Name n np, .Name c p2] [] pos) b :=
  PE.imp (pe_callB (X := X.suite a ((a, oe) :: pn)) (call_isE E hz hf) hgi hm (by decide +kernel) (pa_cons (pe_hold (a := a) hN hv hd hcd) (pa_cons (pe_glob (v := .ref Cc) hgc hc rfl hdc) pa_nil))) fun σ H Q ⟨h1, q⟩ => by
    exact ⟨h1, .ref Cc, .ref Cc, b, rfl, fun u r => r, hk, q⟩
/-- isinstance(e, T), T a built-in class -/
theorem pb_isT {oe : Obj} {pn : List (Addr × Obj)} {n c : Str} {T : String} {p p2 np : Pos} {b : Bool} (E : ExcC X.K C) (hz : Zc (.ref C) none oe) (hf : ∃ vs, oe.data = .fields vs) (hN : X.N[i]? = some n) (hv : Vis X.env.scope n)
    (hc : X.mg c = none) (hbc : bootBuiltins c = some (.type T)) (hk : PySem.W.kitOne X.K (.ref C) (.type T) = some b) (hm : X.mg "isinstance" = none) (hgi : Gl X "isinstance" := by rfl) (hgc : Gl X c := by rfl)
    (hd : (n == ("__debug__" : Str)) = false := by decide) (hcd : (n == ("__classdict__" : Str)) = false := by decide) (hdc : (c == ("__debug__" : Str)) = false := by decide) (hcn : c ≠ "__name__" := by decide) :
    PB (X.suite a ((a, oe) :: pn)) a i (.Call (.Name "isinstance" p) [.Name n np, .Name c p2] [] pos) b :=
  PE.imp (pe_callB (X := X.suite a ((a, oe) :: pn)) (call_isE E hz hf) hgi hm (by decide +kernel) (pa_cons (pe_hold (a := a) hN hv hd hcd) (pa_cons (pe_bltn (v := .ty T) hgc hc hbc rfl hcn hdc) pa_nil))) fun σ H Q ⟨h1, q⟩ => by
    exact ⟨h1, .ty T, .type T, b, rfl, fun u r => r, hk, q⟩
/-- try: body / except C0 as e: return test -/
def sTryB (x : Str) (b : Bool) (f : AE → SS → SR) : AE → SS → SR := fun ρ S => match f ρ S with
  | .exc e _ S' => (match e.fld, decide (e.cls = x) with
    | [], true => .rt (.dat (.bl b)) S'
    | _, _ => .bad)
  | r => r
theorem js_tryB {f : AE → SS → SR} {body : List Stmt} {n c : Str} {np rp pos' pos2 : Pos} {e : Expr} {b : Bool} (hs : X.stack = X.env :: X.outer) (hf : X.env.frame = some X.env.locals) (hN : X.N.Nodup) (hi : X.N[i]? = some n) (hln : X.env.kindOf n = some .local)
    (tk : Takes X W) (E : ECls X.K X.mg x C) (hc : X.mg c = some (.ref C0)) (hx : PySem.W.exmOne X.K (.ref C) (.ref C0) = some true)
    (hb : ∀ (pn : List (Addr × Obj)) (xe : Value → Shared → Prop) (W' : WX), Takes (X.tr pn xe) W' → PassesOwn (model X.prog X.w) X.A X.env xe → JSs (X.tr pn xe) W' body f)
    (hsu : ∀ (a : Addr) (oe : Obj) (pn : List (Addr × Obj)), Zc (.ref C) none oe → (∃ vs, oe.data = .fields vs) → PB (X.suite a ((a, oe) :: pn)) a i e b)
    (hg : Gl X c := by rfl) (hdb : (c == ("__debug__" : Str)) = false := by decide) :
    JS X W (.Try body [.ExceptHandler (some (.Name c np)) (some n) [.Return (some e) rp] pos'] [] [] pos2) (sTryB x b f) := fun ρ S => by
  refine PS.imp (ps_try_as (i := i) (tb := fun W' => tS ⟨X.K, X.mg, W'⟩ ρ S (f ρ S)) (ts := fun a cls d D σ H => cls = .ref C ∧ d = none ∧ (∃ σ0 : L2.St, σ = σ0.set i (some (.ref a))) ∧ D.rt (.bl b) H) (Wout := fun _ _ _ _ => False) hs hf hN hi hln ⟨hg, hdb, .inl hc⟩ (tk.imp fun _ _ _ _ z => z.elim)
    (fun W' pn xe tk' po' => hb pn xe W' tk' po' ρ S) (fun a oe cls d pn hz hf' => ?_)) fun D σ H ⟨m, w, en, q⟩ => ⟨m, w, en, ?_⟩
  · refine ⟨fun pins s σ H D I h => ?_⟩
    obtain ⟨rfl, rfl, h1, h2⟩ := h
    exact (pss_one (ps_ret (hsu a oe pn hz hf'))).run pins s σ H D I ⟨h1, h2⟩
  · unfold sTryB at q
    cases hr : f ρ S with
    | nx ρ' S' => rw [hr] at q; exact q
    | bk ρ' S' => rw [hr] at q; exact q
    | ct ρ' S' => rw [hr] at q; exact q
    | rt a' S' => rw [hr] at q; exact q
    | bad => rw [hr] at q; exact q.elim
    | exc e' ρ' S' =>
      rw [hr] at q
      obtain ⟨cl, fl⟩ := e'
      intro σ' m' H' s' w' en' cc dd xr
      obtain ⟨C', h1, rfl, h3⟩ := xr
      cases fl with
      | cons _ _ => exact q.elim
      | nil =>
        by_cases ec : cl = x
        · subst ec
          have e1 : decide (cl = cl) = true := decide_eq_true rfl
          dsimp only at q
          rw [e1] at q
          have hC : C' = C := by
            have := h1.symm.trans E.g
            cases this; rfl
          subst hC
          refine ⟨true, hx, fun _ a' _ => ⟨rfl, h3, ⟨σ', rfl⟩, ?_⟩, fun z => by cases z⟩
          exact q _ m' H' s' w' (.bl b) trivial
        · have e1 : decide (cl = x) = false := decide_eq_false ec
          dsimp only at q
          rw [e1] at q
          exact q.elim
/-! the same, as the printer wants it -/
def EExm (K : PySem.W.Frag) (mg : Str → Option Value) (x c : Str) : Prop := ∃ C C0, mg x = some (.ref C) ∧ mg c = some (.ref C0) ∧ PySem.W.exmOne K (.ref C) (.ref C0) = some true
def EKit (K : PySem.W.Frag) (mg : Str → Option Value) (x c : Str) (b : Bool) : Prop := ∃ C C0, mg x = some (.ref C) ∧ mg c = some (.ref C0) ∧ PySem.W.kitOne K (.ref C) (.ref C0) = some b
def EKitT (K : PySem.W.Frag) (mg : Str → Option Value) (x : Str) (T : String) (b : Bool) : Prop := ∃ C, mg x = some (.ref C) ∧ PySem.W.kitOne K (.ref C) (.type T) = some b
theorem js_raiseX {m : Str} {j : Nat} {p p2 pos pos2 : Pos} (hc : X.calm = true) (tk : Takes X W) (E : ∃ C, ECls X.K X.mg x C) (hg : Gl X x := by rfl) (hdb : (x == ("__debug__" : Str)) = false := by decide) :
    JS X W (.Raise (some (.Call (.Name x p) [.Constant (.str m) j p2] [] pos)) none pos2) (sRaise x) := E.elim fun C E => js_raise hc tk E hg hdb
theorem pb_isX {oe : Obj} {pn : List (Addr × Obj)} {n c : Str} {p p2 np : Pos} {b : Bool} (hC : X.mg x = some (.ref C)) (hk : EKit X.K X.mg x c b) (E : ExcC X.K C) (hz : Zc (.ref C) none oe) (hf : ∃ vs, oe.data = .fields vs) (hm : X.mg "isinstance" = none) (hN : X.N[i]? = some n := by rfl) (hv : Vis X.env.scope n := by exact Or.inl rfl)
    (hgi : Gl X "isinstance" := by rfl) (hgc : Gl X c := by rfl)
    (hd : (n == ("__debug__" : Str)) = false := by decide) (hcd : (n == ("__classdict__" : Str)) = false := by decide) (hdc : (c == ("__debug__" : Str)) = false := by decide) :
    PB (X.suite a ((a, oe) :: pn)) a i (.Call (.Name "isinstance" p) [.Name n np, .Name c p2] [] pos) b := by
  obtain ⟨C', C1, h1, h2, h3⟩ := hk
  have := h1.symm.trans hC
  cases this
  exact pb_isO E hz hf hN hv h2 h3 hm hgi hgc hd hcd hdc
theorem pb_isXT {oe : Obj} {pn : List (Addr × Obj)} {n c : Str} {T : String} {p p2 np : Pos} {b : Bool} (hC : X.mg x = some (.ref C)) (hk : EKitT X.K X.mg x T b) (E : ExcC X.K C) (hz : Zc (.ref C) none oe) (hf : ∃ vs, oe.data = .fields vs) (hm : X.mg "isinstance" = none) (hc : X.mg c = none) (hbc : bootBuiltins c = some (.type T)) (hN : X.N[i]? = some n := by rfl) (hv : Vis X.env.scope n := by exact Or.inl rfl)
    (hgi : Gl X "isinstance" := by rfl) (hgc : Gl X c := by rfl)
    (hd : (n == ("__debug__" : Str)) = false := by decide) (hcd : (n == ("__classdict__" : Str)) = false := by decide) (hdc : (c == ("__debug__" : Str)) = false := by decide) (hcn : c ≠ "__name__" := by decide) :
    PB (X.suite a ((a, oe) :: pn)) a i (.Call (.Name "isinstance" p) [.Name n np, .Name c p2] [] pos) b := by
  obtain ⟨C', h1, h3⟩ := hk
  have := h1.symm.trans hC
  cases this
  exact pb_isT E hz hf hN hv hc hbc h3 hm hgi hgc hd hcd hdc hcn
theorem js_tryX {f : AE → SS → SR} {body : List Stmt} {n c : Str} {np rp pos' pos2 : Pos} {e : Expr} {b : Bool} (i : Nat) (hs : X.stack = X.env :: X.outer) (hf : X.env.frame = some X.env.locals) (hN : X.N.Nodup) (hi : X.N[i]? = some n) (hln : X.env.kindOf n = some .local)
    (tk : Takes X W) (E : ∃ C, ECls X.K X.mg x C) (hx : EExm X.K X.mg x c)
    (hb : ∀ (pn : List (Addr × Obj)) (xe : Value → Shared → Prop) (W' : WX), Takes (X.tr pn xe) W' → PassesOwn (model X.prog X.w) X.A X.env xe → JSs (X.tr pn xe) W' body f)
    (hsu : ∀ C, X.mg x = some (.ref C) → ExcC X.K C → ∀ (a : Addr) (oe : Obj) (pn : List (Addr × Obj)), Zc (.ref C) none oe → (∃ vs, oe.data = .fields vs) → PB (X.suite a ((a, oe) :: pn)) a i e b)
    (hg : Gl X c := by rfl) (hdb : (c == ("__debug__" : Str)) = false := by decide) :
    JS X W (.Try body [.ExceptHandler (some (.Name c np)) (some n) [.Return (some e) rp] pos'] [] [] pos2) (sTryB x b f) := by
  obtain ⟨C, E⟩ := E
  obtain ⟨C', C0, h1, h2, h3⟩ := hx
  have := h1.symm.trans E.g
  cases this
  exact js_tryB hs hf hN hi hln tk E h2 h3 hb (hsu _ E.g E.e) hg hdb
end
/-- the context of a body -/
theorem Cxt.tr {X : Cx} {W : WX} {k : Nat} (c : Cxt X W k) {pn : List (Addr × Obj)} {xe : Value → Shared → Prop} {W' : WX} (tk : Takes (X.tr pn xe) W') (po : PassesOwn (model X.prog X.w) X.A X.env xe) : Cxt (X.tr pn xe) W' k := ⟨tk, po, c.room⟩
end Ew

set_option Elab.async false
set_option linter.all false
set_option maxRecDepth 100000
set_option maxHeartbeats 4000000
namespace Ew
open PySem PySem.Spec PyProof.Rows L2

/-! ### a def that is asked with the error that a suite holds -/
theorem call_isP {Y : Cx} {a D : Addr} {oe : Obj} (C : ExcC Y.K D) (hp : (a, oe) ∈ Y.pn) (hz : Zc (.ref D) none oe) (hf : ∃ vs, oe.data = .fields vs) : CallR Y (.builtin "isinstance") (rIsE Y.K D a) := by
  intro pins s σ H xs us Q I r h
  obtain ⟨c, cv, b, rfl, hcv, e, q⟩ := h
  cases r with
  | cons rx rr =>
    cases rr with
    | cons rt rr =>
      cases rr
      cases rx
      have ec := hcv _ rt
      subst ec
      obtain ⟨hget, _⟩ := I.pin (a, oe) (List.mem_append.mpr (.inl hp))
      obtain ⟨vs, hv⟩ := hf
      have J : PySem.W.InstAt s.heap a oe D none := by
        obtain ⟨oc, od, oda, osl⟩ := oe
        obtain ⟨h1, h2⟩ := hz
        dsimp only at h1 h2 hv
        subst h1 h2 hv
        exact ⟨hget, rfl, rfl, trivial⟩
      exact PySem.W.kia_one (PySem.W.handS_kitx_exc C.hg C.hk C.hs C.hd C.ha C.hn C.ht C.hm) I.kIn J e (fun z => nomatch z) fun tk => ⟨.bl b, H, I.kept (t' := tk) fun _ _ z => z, rfl, q⟩
section
variable {Y : Cx} {a C : Addr} {oe : Obj} {i : Nat} {x : Str}
/-- isinstance(e, c) in a context where the error is pinned -/
theorem pb_isP {n c : Str} {p p2 np pos : Pos} {b : Bool} (hp : (a, oe) ∈ Y.pn) (hC : Y.mg x = some (.ref C)) (hk : EKit Y.K Y.mg x c b) (E : ExcC Y.K C) (hz : Zc (.ref C) none oe) (hf : ∃ vs, oe.data = .fields vs) (hm : Y.mg "isinstance" = none) (hN : Y.N[i]? = some n := by rfl) (hv : Vis Y.env.scope n := by exact Or.inl rfl)
    (hgi : Gl Y "isinstance" := by rfl) (hgc : Gl Y c := by rfl)
    (hd : (n == ("__debug__" : Str)) = false := by decide) (hcd : (n == ("__classdict__" : Str)) = false := by decide) (hdc : (c == ("__debug__" : Str)) = false := by decide) :
    PB Y a i (.Call (.Name "isinstance" p) [.Name n np, .Name c p2] [] pos) b := by
  obtain ⟨C', C1, h1, h2, h3⟩ := hk
  have := h1.symm.trans hC
  cases this
  exact PE.imp (pe_callB (X := Y) (call_isP E hp hz hf) hgi hm (by decide +kernel) (pa_cons (pe_hold (a := a) hN hv hd hcd) (pa_cons (pe_glob (v := .ref C1) hgc h2 rfl hdc) pa_nil))) fun σ H Q ⟨h1, q⟩ => by
    exact ⟨h1, .ref C1, .ref C1, b, rfl, fun u r => r, h3, q⟩
/-- the same as a test -/
def TB (Y : Cx) (a : Addr) (i : Nat) (e : Expr) (b : Bool) : Prop := PT Y e fun σ H Q => (∃ σ0 : L2.St, σ = σ0.set i (some (.ref a))) ∧ Q b H
def WB (Y : Cx) (a : Addr) (i : Nat) (e : Expr) (b : Bool) : Prop := PW Y e fun σ H Q => (∃ σ0 : L2.St, σ = σ0.set i (some (.ref a))) ∧ Q b H
variable {e1 e2 : Expr} {b1 b2 : Bool} {pos : Pos} {rest : List Expr}
theorem PT.imp' {t u : TT} {e : Expr} (h : PT Y e t) (k : ∀ σ H Q, u σ H Q → t σ H Q) : PT Y e u := ⟨fun pins s σ H Q I hu => h.run pins s σ H Q I (k σ H Q hu)⟩
theorem PW.imp' {t u : TT} {e : Expr} (h : PW Y e t) (k : ∀ σ H Q, u σ H Q → t σ H Q) : PW Y e u := ⟨fun wh pins s σ H Q I hu => h.run wh pins s σ H Q I (k σ H Q hu)⟩
theorem tb_val (h : PB Y a i e1 b1) (he : ∀ whole, isTrue e1 Y.env whole = (do let v ← whole; standAt e1.pos; holding [v] (truthy v)) := by intro _; rfl) : TB Y a i e1 b1 := PT.imp' (pt_val h he) fun σ H Q ⟨h1, q⟩ => ⟨h1, b1, rfl, q⟩
theorem tb_w {e : Expr} (h : WB Y a i e b1) : TB Y a i e b1 := PW.pt h
theorem wb_or1 (h : TB Y a i e1 b1) : WB Y a i (.BoolOp .Or [e1] pos) b1 := pw_or1 h
theorem wb_or (h : TB Y a i e1 b1) (h2 : WB Y a i (.BoolOp .Or (e2 :: rest) pos) b2) : WB Y a i (.BoolOp .Or (e1 :: e2 :: rest) pos) (b1 || b2) :=
  PW.imp' (pw_or h h2) fun σ H Q ⟨h1, q⟩ => ⟨h1, by
    cases b1 with
    | true => exact q
    | false => exact ⟨h1, q⟩⟩
/-- statements: what they answer -/
def SB (Y : Cx) (a : Addr) (i : Nat) (ss : List Stmt) (b : Bool) : Prop := PSs Y ss fun D σ H => (∃ σ0 : L2.St, σ = σ0.set i (some (.ref a))) ∧ D.rt (.bl b) H
theorem sb_ret {e : Expr} {b : Bool} (h : PB Y a i e b) : SB Y a i [.Return (some e) pos] b := pss_one (ps_ret h)
theorem sb_if {c : Expr} {r : Expr} {p2 : Pos} {b : Bool} {ss : List Stmt} (hc : TB Y a i c false) (hr : PE Y r (tC (.bl true))) (h : SB Y a i ss b) : SB Y a i (.If c [.Return (some r) p2] [] pos :: ss) b := by
  refine PSs.imp (pss_cons (ps_if hc (pss_one (ps_ret hr)) pss_nil) h) fun D σ H ⟨h1, q⟩ => ?_
  exact ⟨h1, h1, q⟩
end
/-- what the def promises: asked with the error (of class C), it answers b -/
structure FnE (P : Program) (w : World) (K : PySem.W.Frag) (mg : Str → Option Value) (base : Heap) (k : Nat) (f : Addr) (fd : FuncData) (n : Str) (C : Addr) (b : Bool) : Prop where
  run : ∀ (A : Around) (outer : List Env) (s : Shared) (H : Hp) (args : Args) (us : List Value) (Q : VK) (E : XK) (p : Addr × Obj), L2H.RoomH k A → L2H.PinOk outer H s p → Zc (.ref C) none p.2 → (∃ vs, p.2.data = .fields vs) → Env0 P w K mg base A outer s H → BindsTo s fd args (([n] : List Str).zip us) → Vals [.ref p.1] us → Q (.bl b) H →
    codeAny (model P w) A (.call (.ref f) args) (CR (L2.CX P w) outer P w H s Q E) s
theorem fnE_ok {P : Program} {w : World} {K : PySem.W.Frag} {mg : Str → Option Value} {base : Heap} {k : Nat} {x qual n : Str} {st : Stmt} {f C : Addr} {fd : FuncData} {N : List Str} {b : Bool} (F : Fun K x qual st f fd) (S : FnScope N [n] (defScope st))
    (hbody : ∀ (cdv : Value) (A : Around) (outer : List Env) (s : Shared) (H : Hp) (E : XK) (p : Addr × Obj), Zc (.ref C) none p.2 → (∃ vs, p.2.data = .fields vs) →
      SB (L2H.cxH (L2.CX P w) P w K mg base N qual (defScope st) f cdv A outer s H E p) p.1 0 (defBody st) b) : FnE P w K mg base (k + 1) f fd n C b := by
  obtain ⟨oc, od, kV, doc, pm, an, cdv, ct, osl, rfl, lk, hcd⟩ := F.ex
  refine ⟨fun A outer s H args us Q E p hr hpin hz hf e0 hb r hq => ?_⟩
  have KX : K.In s.heap := e0.mod.kin.keeps fun b o e => (e0.bs b o e).1
  have lim : s.heap.NoLimit := e0.mod.nolimit.keeps fun b o e => (e0.bs b o e).1
  have hkind : ∀ y ∈ ([n] : List Str).zip us, (defScope st).names.lookup y.1 = some .local ∨ ((defScope st).names.lookup y.1 = some .cell ∧ ((cellsFrom (s.heap.objs.size + 1) (defScope st).names []).lookup y.1).isSome = true) := fun ⟨n, v⟩ hy => by
    rcases S.par n (List.of_mem_zip hy).1 with q | q
    · exact .inl q
    · exact .inr ⟨q, PySem.W.cellsFrom_some _ _ _ (.inl q)⟩
  refine codeAny_call_function hr.depth (KX _ _ lk) rfl S.co S.gen rfl (PySem.W.codeRec_of KX hcd) (hb _ _ _ _ ?_)
  refine wpAny_newFunctionEnv_cells S.kind hkind fun env he s1 x => ?_
  subst he
  refine ⟨lim.keeps x.toInCall.keep, codeAny_func ?_⟩
  have I : Inv (L2H.cxH (L2.CX P w) P w K mg base N qual (defScope st) f cdv A outer s H E p) [] (L2.start N [.ref p.1]) H s1 := L2H.inv_startH S hpin e0 rfl r x
  have hN : 0 < N.length := by
    have := congrArg List.length S.pre
    rw [List.length_take] at this
    have l1 : ([n] : List Str).length = 1 := rfl
    omega
  have hst : ∃ σ0 : L2.St, L2.start N [.ref p.1] = σ0.set 0 (some (.ref p.1)) := ⟨L2.start N [V.ref p.1], rfl⟩
  refine wpAny_mono ((hbody cdv A outer s H E p hz hf).run [] s1 (L2.start N [.ref p.1]) H { nx := fun _ H' => Q .non H', rt := Q } I ⟨hst, hq⟩) (fun fl s' hs => ?_) fun e s' hs => hs
  have fin : ∀ {σ' : L2.St} {H' : Hp} {v : V} {u : Value}, Inv (L2H.cxH (L2.CX P w) P w K mg base N qual (defScope st) f cdv A outer s H E p) [] σ' H' s' → RelV v u → Q v H' → CE outer P w H s Q u s' :=
    fun {σ' H' v u} J rv q => ⟨v, H', J.os, J.bare, J.base, J.hok, rv, q⟩
  cases fl with
  | ret u =>
    obtain ⟨v, σ', H', J, rv, q⟩ := hs
    exact fin J rv q
  | next =>
    obtain ⟨σ', H', J, q⟩ := hs
    exact fin (v := V.non) (u := Value.none) J rfl q
  | brk =>
    obtain ⟨_, _, _, q⟩ := hs
    exact False.elim q
  | cont =>
    obtain ⟨_, _, _, q⟩ := hs
    exact False.elim q
/-- f(e) in the suite -/
theorem pb_callE {X : Cx} {a C f : Addr} {oe : Obj} {pn : List (Addr × Obj)} {k i : Nat} {fd : FuncData} {x m n : Str} {b : Bool} {p np pos : Pos} (F : FnE X.prog X.w X.K X.mg X.base k f fd m C b) (hr : Room k X.A) (hb : Binds X.K fd [m] []) (hm : X.mg x = some (.ref f)) (hk : PySem.W.keepIn X.K (.ref f) = true)
    (hz : Zc (.ref C) none oe) (hf : ∃ vs, oe.data = .fields vs) (hN : X.N[i]? = some n := by rfl) (hv : Vis X.env.scope n := by exact Or.inl rfl) (hg : Gl X x := by rfl)
    (hd : (n == ("__debug__" : Str)) = false := by decide) (hcd : (n == ("__classdict__" : Str)) = false := by decide) (hdx : (x == ("__debug__" : Str)) = false := by decide) :
    PB (X.suite a ((a, oe) :: pn)) a i (.Call (.Name x p) [.Name n np] [] pos) b := by
  refine ⟨fun pins s σ H Q I h => ?_⟩
  obtain ⟨h1, q⟩ := h
  refine wpAny_Call_Name_kw (ld_glob (X := X.suite a ((a, oe) :: pn)) I hg hm ?_ hdx)
  refine PySem.W.callWith_K (h₀ := X.base) I.ok.mod.kin hk (thn ((pa_cons (pe_hold (Y := X.suite a ((a, oe) :: pn)) (a := a) (i := i) hN hv hd hcd) pa_nil).run pos pins s σ H (fun vs H1 => vs = [.ref a] ∧ Q (.bl b) H1) I ⟨h1, rfl, q⟩) fun us s1 ⟨vs, H1, I1, r, ev, q⟩ => ⟨I1.kIn, ?_⟩)
  subst ev
  have bb := hb s1 us I1.kIn (by rw [List.append_nil, ← r.length]; rfl)
  rw [List.append_nil] at bb
  have P1 := I1.pin (a, oe) (List.mem_append_left _ List.mem_cons_self)
  have hpin : L2H.PinOk X.stack H1 s1 (a, oe) := ⟨P1.1, P1.2.1, fun hm => (List.mem_cons.mp (I1.stkSub a hm)).elim P1.2.2.1 P1.2.2.2.1, P1.2.2.2.2⟩
  refine wpAny_call (codeAny_mono (F.run (X.A.mark (some (.ref a))) X.stack s1 H1 ⟨us, []⟩ us Q (fun _ _ _ => False) (a, oe) ⟨hr.dp, hr.un⟩ hpin hz hf I1.env0 bb r q) fun r s' hq => ?_)
  cases r with
  | error e =>
    have hq : L2.CX X.prog X.w X.stack H1 s1 (fun _ _ _ => False) e s' := hq
    obtain ⟨_, _, _, _, _, _, _, _, _, _, _, _, z⟩ := hq
    exact z.elim
  | ok fl =>
    cases fl with
    | ret u => exact I1.after hq
    | next => exact False.elim hq
    | brk => exact False.elim hq
    | cont => exact False.elim hq
end Ew

set_option Elab.async false
set_option linter.all false
set_option maxRecDepth 100000
set_option maxHeartbeats 8000000
namespace Lw
open PySem PySem.Spec PyProof.Rows L2 Ew
def k_DIGITS : D := (.str "0123456789")
def k_BASE : D := (.int (10000000000000000000000000000000000000000000000000000000000000000))
def b_law_char : AE → SS → SR :=
(sSeq (sSet 1 (eC (.str " !\"#$&'()*+,-./0123456789:;<=>?@ABCDEFGHIJKLMNOPQRSTUVWXYZ[\\]^_`")))
(sSeq (sSet 1 (eBin gAdd (eVar 1) (eC (.str "abcdefghijklmnopqrstuvwxyz{|}~"))))
(sRet (eBin gIx (eVar 1) (eCall 2 Ew.m_law_draw (aCons (eVar 0) (aCons (eAp (g1 gLen) (aCons (eVar 1) aNil)) aNil)))))))
def m_law_char : List AV → SS → R := runF 2 b_law_char
def b_law_changed : AE → SS → SR :=
(sSeq (sSet 2 (eCall 2 Ew.m_law_draw (aCons (eVar 0) (aCons (eBin gAdd (eAp (g1 gLen) (aCons (eVar 1) aNil)) (eC (.int 1))) aNil))))
(sSeq (sSet 3 (eCall 1 m_law_char (aCons (eVar 0) aNil)))
(sSeq (sIf (tBin gEq (eCall 2 Ew.m_law_draw (aCons (eVar 0) (aCons (eC (.int 3)) aNil))) (eC (.int 0))) (sSet 3 (eAp (g1 gStr) (aCons (eCall 2 Ew.m_law_draw (aCons (eVar 0) (aCons (eC (.int 10)) aNil))) aNil)))
sNx)
(sSeq (sSet 4 (eCall 2 Ew.m_law_draw (aCons (eVar 0) (aCons (eC (.int 4)) aNil))))
(sSeq (sIf (tBin gEq (eVar 4) (eC (.int 0))) (sRet (eBin gAdd (eBin gAdd (eSl gSl (eVar 1) oNone (oSome (eVar 2))) (eVar 3)) (eSl gSl (eVar 1) (oSome (eVar 2)) oNone)))
sNx)
(sSeq (sIf (tBin gEq (eVar 4) (eC (.int 1))) (sRet (eBin gAdd (eBin gAdd (eSl gSl (eVar 1) oNone (oSome (eVar 2))) (eVar 3)) (eSl gSl (eVar 1) (oSome (eBin gAdd (eVar 2) (eC (.int 1)))) oNone)))
sNx)
(sSeq (sIf (tBin gEq (eVar 4) (eC (.int 2))) (sRet (eBin gAdd (eSl gSl (eVar 1) oNone (oSome (eVar 2))) (eSl gSl (eVar 1) (oSome (eBin gAdd (eVar 2) (eC (.int 1)))) oNone)))
sNx)
(sRet (eVar 1)))))))))
def m_law_changed : List AV → SS → R := runF 5 b_law_changed
def b_law_text : AE → SS → SR :=
(sSeq (sSet 1 (eCall 2 Ew.m_law_draw (aCons (eVar 0) (aCons (eC (.int 4)) aNil))))
(sSeq (sIf (tBin gEq (eVar 1) (eC (.int 0))) (sSeq (sSet 2 (eLst (aCons (eC (.str "")) (aCons (eC (.str "-")) (aCons (eC (.str "-0")) (aCons (eC (.str "00")) (aCons (eC (.str "0")) (aCons (eC (.str "+1")) (aCons (eC (.str " 1")) (aCons (eC (.str "1 ")) (aCons (eC (.str "1_0")) (aCons (eC (.str "--1")) (aCons (eC (.str "0x1")) (aCons (eC (.str "1.0")) (aCons (eC (.str "1e3")) (aCons (eC (.str "- 1")) (aCons (eC (.str "0-")) (aCons (eC (.str "01")) (aCons (eC (.str "-01")) aNil)))))))))))))))))))
(sSeq (sSet 2 (eBin gAdd (eVar 2) (eLst (aCons (eC (.str "1-")) (aCons (eC (.str "_1")) (aCons (eC (.str "1__0")) (aCons (eC (.str "o")) (aCons (eC (.str "1,000")) (aCons (eC (.str "-00")) (aCons (eC (.str "-+1")) (aCons (eC (.str "1 000")) aNil)))))))))))
(sRet (eBin gIx (eVar 2) (eCall 2 Ew.m_law_draw (aCons (eVar 0) (aCons (eAp (g1 gLen) (aCons (eVar 2) aNil)) aNil)))))))
sNx)
(sSeq (sIf (tBin gEq (eVar 1) (eC (.int 1))) (sRet (eMt "str" (m1 gJoin) (eC (.str "")) (aCons (eLc (([("k", 4)] : List (Str × Nat)).map (·.2)) (iRange (aCons (eCall 2 Ew.m_law_draw (aCons (eVar 0) (aCons (eC (.int 6)) aNil))) aNil)) (gN 4) tY (eBin gIx (eC (.str "0012-+ _9.")) (eCall 2 Ew.m_law_draw (aCons (eVar 0) (aCons (eC (.int 10)) aNil))))) aNil)))
sNx)
(sSeq (sSet 3 (eAp (g1 gStr) (aCons (eBin gAdd (eC (.int 1)) (eCall 2 Ew.m_law_draw (aCons (eVar 0) (aCons (eC (.int 9)) aNil)))) aNil)))
(sSeq (sSet 3 (eBin gAdd (eVar 3) (eMt "str" (m1 gJoin) (eC (.str "")) (aCons (eLc (([("k", 4)] : List (Str × Nat)).map (·.2)) (iRange (aCons (eCall 2 Ew.m_law_draw (aCons (eVar 0) (aCons (eC (.int 90)) aNil))) aNil)) (gN 4) tY (eAp (g1 gStr) (aCons (eCall 2 Ew.m_law_draw (aCons (eVar 0) (aCons (eC (.int 10)) aNil))) aNil))) aNil))))
(sSeq (sIf (tBin gEq (eCall 2 Ew.m_law_draw (aCons (eVar 0) (aCons (eC (.int 6)) aNil))) (eC (.int 0))) (sSet 3 (eBin gMul (eVar 3) (eC (.int 50))))
sNx)
(sSeq (sIf (tBin gEq (eCall 2 Ew.m_law_draw (aCons (eVar 0) (aCons (eC (.int 2)) aNil))) (eC (.int 0))) (sSet 3 (eBin gAdd (eC (.str "-")) (eVar 3)))
sNx)
(sRet (eCall 2 m_law_changed (aCons (eVar 0) (aCons (eVar 3) aNil)))))))))))
def m_law_text : List AV → SS → R := runF 5 b_law_text
def b_read_integer : AE → SS → SR :=
(sSeq (sSet 1 (eVar 0))
(sSeq (sIf (tBin gEq (eSl gSl (eVar 0) oNone (oSome (eC (.int 1)))) (eC (.str "-"))) (sSet 1 (eSl gSl (eVar 0) (oSome (eC (.int 1))) oNone))
sNx)
(sSeq (sIf (tO (tBin gEq (eVar 1) (eC (.str ""))) (tAn (tBin gEq (eBin gIx (eVar 1) (eC (.int 0))) (eC (.str "0"))) (tBin gNe (eVar 0) (eC (.str "0"))))) (sRaise "BadText")
sNx)
(sSeq (sFor (iSeq (eVar 1)) (gN 2)
(sIf (tBin (gInX true) (eVar 2) (eC k_DIGITS)) (sRaise "BadText")
sNx))
(sSeq (sSet 3 (eBin gMod (eAp (g1 gLen) (aCons (eVar 1) aNil)) (eC (.int 64))))
(sSeq (sSet 4 (eC (.int 0)))
(sSeq (sIf (tBin gGt (eVar 3) (eC (.int 0))) (sSet 4 (eAp (g1 gInt) (aCons (eSl gSl (eVar 1) oNone (oSome (eVar 3))) aNil)))
sNx)
(sSeq (sFor (iRange (aCons (eVar 3) (aCons (eAp (g1 gLen) (aCons (eVar 1) aNil)) (aCons (eC (.int 64)) aNil)))) (gN 5)
(sSet 4 (eBin gAdd (eBin gMul (eVar 4) (eC k_BASE)) (eAp (g1 gInt) (aCons (eSl gSl (eVar 1) (oSome (eVar 5)) (oSome (eBin gAdd (eVar 5) (eC (.int 64))))) aNil)))))
(sSeq (sIf (tBin gEq (eBin gIx (eVar 0) (eC (.int 0))) (eC (.str "-"))) (sRet (eUn gNeg (eVar 4)))
sNx)
(sRet (eVar 4)))))))))))
def m_read_integer : List AV → SS → R := runF 6 b_read_integer
def b_law_is_written : AE → SS → SR :=
(sSeq (sSet 1 (eVar 0))
(sSeq (sIf (tBin gEq (eSl gSl (eVar 0) oNone (oSome (eC (.int 1)))) (eC (.str "-"))) (sSet 1 (eSl gSl (eVar 0) (oSome (eC (.int 1))) oNone))
sNx)
(sSeq (sIf (tO (tBin gEq (eVar 1) (eC (.str ""))) (tAn (tBin gEq (eBin gIx (eVar 1) (eC (.int 0))) (eC (.str "0"))) (tBin gNe (eVar 0) (eC (.str "0"))))) (sRet (eC (.bl false)))
sNx)
(sRet (eAp (g1 gAll) (aCons (eLc (([("char", 2)] : List (Str × Nat)).map (·.2)) (iSeq (eVar 1)) (gN 2) tY (eBin (gInX false) (eVar 2) (eC (.str "0123456789")))) aNil))))))
def m_law_is_written : List AV → SS → R := runF 3 b_law_is_written
def b_law_refuses : AE → SS → SR :=
(sSeq (sTryB "BadText" true (sDrop (eCall 1 m_read_integer (aCons (eVar 0) aNil))))
(sRet (eC (.bl false))))
def m_law_refuses : List AV → SS → R := runF 2 b_law_refuses
def b_law_worth : AE → SS → SR :=
(sSeq (sSet 1 (eC (.int 0)))
(sSeq (sSet 2 (eBin gMod (eAp (g1 gLen) (aCons (eVar 0) aNil)) (eC (.int 6))))
(sSeq (sIf (tBin gGt (eVar 2) (eC (.int 0))) (sSet 1 (eAp (g1 gInt) (aCons (eSl gSl (eVar 0) oNone (oSome (eVar 2))) aNil)))
sNx)
(sSeq (sFor (iRange (aCons (eVar 2) (aCons (eAp (g1 gLen) (aCons (eVar 0) aNil)) (aCons (eC (.int 6)) aNil)))) (gN 3)
(sSet 1 (eBin gAdd (eBin gMul (eVar 1) (eC (.int 1000000))) (eAp (g1 gInt) (aCons (eSl gSl (eVar 0) (oSome (eVar 3)) (oSome (eBin gAdd (eVar 3) (eC (.int 6))))) aNil)))))
(sRet (eVar 1))))))
def m_law_worth : List AV → SS → R := runF 4 b_law_worth
def b_law_integer : AE → SS → SR :=
(sSeq (sIf (tBin gEq (eSl gSl (eVar 0) oNone (oSome (eC (.int 1)))) (eC (.str "-"))) (sRet (eUn gNeg (eCall 1 m_law_worth (aCons (eSl gSl (eVar 0) (oSome (eC (.int 1))) oNone) aNil))))
sNx)
(sRet (eCall 1 m_law_worth (aCons (eVar 0) aNil))))
def m_law_integer : List AV → SS → R := runF 1 b_law_integer
def b_law : AE → SS → SR :=
(sSeq (sSetO 1 (eCall 1 Ew.m_law_start (aCons (eVar 0) aNil)))
(sSeq (sSet 2 (eCall 1 m_law_text (aCons (eVar 1) aNil)))
(sSeq (sIf (tNt (tVal (eCall 1 m_law_is_written (aCons (eVar 2) aNil)))) (sRet (eCall 1 m_law_refuses (aCons (eVar 2) aNil)))
sNx)
(sSeq (sSet 3 (eCall 1 m_read_integer (aCons (eVar 2) aNil)))
(sRet (eAnd (eAp (g2 gIsi) (aCons (eVar 3) (aCons (eC (.ty "int")) aNil))) (eAnd (eNot (eAp (g2 gIsi) (aCons (eVar 3) (aCons (eC (.ty "bool")) aNil)))) (eBin gEq (eVar 3) (eCall 1 m_law_integer (aCons (eVar 2) aNil))))))))))
def m_law : List AV → SS → R := runF 4 b_law
end Lw

set_option Elab.async false
set_option linter.all false
set_option maxRecDepth 100000
set_option maxHeartbeats 8000000
namespace Lw
open PySem PySem.Spec PyProof.Rows L2 Ew
def topS (i : Nat) : Stmt := PySem.Challenge.pw_endwithin_k01_read_integer.main.body.getD i (.Pass ⟨0, 0, 0, 0⟩)
abbrev s_law_start : Stmt := topS 17
theorem sc_law_start : FnScope ["script"] ["script"] (defScope s_law_start) := ⟨rfl, rfl, rfl, by decide +kernel, rfl, by decide +kernel, by decide +kernel⟩
abbrev s_law_draw : Stmt := topS 18
theorem sc_law_draw : FnScope ["state", "most", "found", "cell", "mixed"] ["state", "most"] (defScope s_law_draw) := ⟨rfl, rfl, rfl, by decide +kernel, rfl, by decide +kernel, by decide +kernel⟩
abbrev s_law_char : Stmt := topS 19
theorem sc_law_char : FnScope ["state", "chars"] ["state"] (defScope s_law_char) := ⟨rfl, rfl, rfl, by decide +kernel, rfl, by decide +kernel, by decide +kernel⟩
abbrev s_law_changed : Stmt := topS 20
theorem sc_law_changed : FnScope ["state", "text", "at", "char", "kind"] ["state", "text"] (defScope s_law_changed) := ⟨rfl, rfl, rfl, by decide +kernel, rfl, by decide +kernel, by decide +kernel⟩
abbrev s_law_text : Stmt := topS 21
theorem sc_law_text : FnScope ["state", "pick", "odd", "text", "k"] ["state"] (defScope s_law_text) := ⟨rfl, rfl, rfl, by decide +kernel, rfl, by decide +kernel, by decide +kernel⟩
abbrev s_read_integer : Stmt := topS 15
theorem sc_read_integer : FnScope ["text", "digits", "char", "head", "n", "start"] ["text"] (defScope s_read_integer) := ⟨rfl, rfl, rfl, by decide +kernel, rfl, by decide +kernel, by decide +kernel⟩
abbrev s_law_is_written : Stmt := topS 22
theorem sc_law_is_written : FnScope ["text", "digits", "char"] ["text"] (defScope s_law_is_written) := ⟨rfl, rfl, rfl, by decide +kernel, rfl, by decide +kernel, by decide +kernel⟩
abbrev s_law_refuses : Stmt := topS 26
theorem sc_law_refuses : FnScope ["text", "e"] ["text"] (defScope s_law_refuses) := ⟨rfl, rfl, rfl, by decide +kernel, rfl, by decide +kernel, by decide +kernel⟩
abbrev s_law_worth : Stmt := topS 23
theorem sc_law_worth : FnScope ["text", "number", "start", "at"] ["text"] (defScope s_law_worth) := ⟨rfl, rfl, rfl, by decide +kernel, rfl, by decide +kernel, by decide +kernel⟩
abbrev s_law_integer : Stmt := topS 24
theorem sc_law_integer : FnScope ["text"] ["text"] (defScope s_law_integer) := ⟨rfl, rfl, rfl, by decide +kernel, rfl, by decide +kernel, by decide +kernel⟩
abbrev s_law : Stmt := topS 27
theorem sc_law : FnScope ["script", "state", "text", "back"] ["script"] (defScope s_law) := ⟨rfl, rfl, rfl, by decide +kernel, rfl, by decide +kernel, by decide +kernel⟩
abbrev s_law_other : Stmt := topS 25
theorem sc_law_other : FnScope ["e"] ["e"] (defScope s_law_other) := ⟨rfl, rfl, rfl, by decide +kernel, rfl, by decide +kernel, by decide +kernel⟩
structure G (K : PySem.W.Frag) (mg : Str → Option Value) : Prop where
  b_list : mg "list" = none
  b_int : mg "int" = none
  b_len : mg "len" = none
  b_abs : mg "abs" = none
  b_str : mg "str" = none
  b_range : mg "range" = none
  b_all : mg "all" = none
  b_isinstance : mg "isinstance" = none
  b_ValueError : mg "ValueError" = none
  b_bool : mg "bool" = none
  c_DIGITS : GC K mg "DIGITS" k_DIGITS
  c_BASE : GC K mg "BASE" k_BASE
  e_BadText : ∃ C, ECls K mg "BadText" C
  x_BadText_BadText : EExm K mg "BadText" "BadText"
  k_BadText_EndwithinError : EKit K mg "BadText" "EndwithinError" true
  t_BadText_ValueError : EKitT K mg "BadText" "ValueError" true
  k_BadText_BadLine : EKit K mg "BadText" "BadLine" false
  k_BadText_BadProgram : EKit K mg "BadText" "BadProgram" false
  k_BadText_TooLarge : EKit K mg "BadText" "TooLarge" false
  k_BadText_UnknownName : EKit K mg "BadText" "UnknownName" false
  k_BadText_BadArguments : EKit K mg "BadText" "BadArguments" false
  k_BadText_NotBounded : EKit K mg "BadText" "NotBounded" false
  k_BadText_BadBook : EKit K mg "BadText" "BadBook" false
  k_BadText_NothingBack : EKit K mg "BadText" "NothingBack" false
  k_BadText_NothingAhead : EKit K mg "BadText" "NothingAhead" false
  z : True
section
variable {P : Program} {w : World} {K : PySem.W.Frag} {mg : Str → Option Value} {base : Heap}
theorem oke_law_other (T : G K mg) {f : Addr} {fd : FuncData} (F : Fun K "_law_other" "_law_other" s_law_other f fd) (k : Nat) : ∀ C, mg "BadText" = some (.ref C) → ExcC K C → FnE P w K mg base (k + 1) f fd "e" C false := fun C hC E =>
  fnE_ok F sc_law_other fun cdv A outer s H E' p hz hf => by
    exact (sb_if (tb_w (wb_or (b1 := false) (b2 := false) (tb_val (pb_isP (oe := p.2) (List.mem_singleton.mpr rfl) hC T.k_BadText_BadLine E hz hf T.b_isinstance)) (wb_or (b1 := false) (b2 := false) (tb_val (pb_isP (oe := p.2) (List.mem_singleton.mpr rfl) hC T.k_BadText_BadProgram E hz hf T.b_isinstance)) (wb_or (b1 := false) (b2 := false) (tb_val (pb_isP (oe := p.2) (List.mem_singleton.mpr rfl) hC T.k_BadText_TooLarge E hz hf T.b_isinstance)) (wb_or1 (tb_val (pb_isP (oe := p.2) (List.mem_singleton.mpr rfl) hC T.k_BadText_UnknownName E hz hf T.b_isinstance))))))) pe_bl (sb_if (tb_w (wb_or (b1 := false) (b2 := false) (tb_val (pb_isP (oe := p.2) (List.mem_singleton.mpr rfl) hC T.k_BadText_BadArguments E hz hf T.b_isinstance)) (wb_or (b1 := false) (b2 := false) (tb_val (pb_isP (oe := p.2) (List.mem_singleton.mpr rfl) hC T.k_BadText_NotBounded E hz hf T.b_isinstance)) (wb_or1 (tb_val (pb_isP (oe := p.2) (List.mem_singleton.mpr rfl) hC T.k_BadText_BadBook E hz hf T.b_isinstance)))))) pe_bl (sb_ret (pb_or (b1 := false) (b2 := false) (pb_isP (oe := p.2) (List.mem_singleton.mpr rfl) hC T.k_BadText_NothingBack E hz hf T.b_isinstance) (pb_one (pb_isP (oe := p.2) (List.mem_singleton.mpr rfl) hC T.k_BadText_NothingAhead E hz hf T.b_isinstance))))))
theorem ok_law_start (T : G K mg) {f : Addr} {fd : FuncData} (F : Fun K "_law_start" "_law_start" s_law_start f fd) : FnOk P w K mg base (L2.CX P w) 1 f fd ["script"] (spOf K mg 1 Ew.m_law_start) :=
  fn_ok F sc_law_start fun cdv A outer s H E c => by
    unfold Ew.b_law_start
    exact (jss_one (js_ret (je_lst (ja_cons (je_callT call_list_of cv_list T.b_list (by decide +kernel) (ja_cons (je_var 0) ja_nil)) (ja_cons je_int (ja_cons je_int (ja_cons je_int ja_nil)))))))
theorem ok_law_draw (T : G K mg) {f : Addr} {fd : FuncData} (F : Fun K "_law_draw" "_law_draw" s_law_draw f fd) : FnOk P w K mg base (L2.CX P w) 1 f fd ["state", "most"] (spOf K mg 2 Ew.m_law_draw) :=
  fn_ok F sc_law_draw fun cdv A outer s H E c => by
    unfold Ew.b_law_draw
    exact (jss_cons (js_put (set_all c.hu) sv_set (je_var 0) je_int (je_op op_addAll ov_add (je_ix (ix_all c.hu) ov_ix (je_var 0) je_int) je_int))
(jss_cons (js_if (jt_cmp op_gtA ov_cmp (je_ix (ix_all c.hu) ov_ix (je_var 0) je_int) je_int) (jss_cons (js_set (i := 2) (je_op op_mod ov_mod (je_callT call_intA cv_int T.b_int (by decide +kernel) (ja_cons (je_ix (ix_all c.hu) ov_ix (je_var 0) je_int) ja_nil)) (je_var 1)) sc_law_draw.nd)
(jss_cons (js_put (set_all c.hu) sv_set (je_var 0) je_int (je_op op_fdivW ov_div (je_ix (ix_all c.hu) ov_ix (je_var 0) je_int) (je_var 1)))
(jss_one (js_ret (je_var 2)))))
jss_nil)
(jss_cons (js_set (i := 3) je_int sc_law_draw.nd)
(jss_cons (js_if (jt_cmp op_gtA ov_cmp (je_callB call_len cv_len T.b_len PySem.boot_len (ja_cons (je_ix (ix_all c.hu) ov_ix (je_var 0) je_int) ja_nil)) je_int) (jss_one (js_set (i := 3) (je_callB call_abs cv_abs T.b_abs (by decide +kernel) (ja_cons (je_ix (ix_all c.hu) ov_ix (je_ix (ix_all c.hu) ov_ix (je_var 0) je_int) (je_op op_mod ov_mod (je_callT call_intA cv_int T.b_int (by decide +kernel) (ja_cons (je_ix (ix_all c.hu) ov_ix (je_var 0) je_int) ja_nil)) (je_callB call_len cv_len T.b_len PySem.boot_len (ja_cons (je_ix (ix_all c.hu) ov_ix (je_var 0) je_int) ja_nil)))) ja_nil)) sc_law_draw.nd))
jss_nil)
(jss_cons (js_put (set_all c.hu) sv_set (je_var 0) je_int (je_op op_addAll ov_add (je_ix (ix_all c.hu) ov_ix (je_var 0) je_int) je_int))
(jss_cons (js_if (jt_cmp op_geA ov_cmp (je_var 3) (je_op op_pow ov_pow je_int je_int)) (jss_cons (js_put (set_all c.hu) sv_set (je_var 0) je_int (je_op op_fdivW ov_div (je_var 3) (je_var 1)))
(jss_one (js_ret (je_op op_mod ov_mod (je_callT call_intA cv_int T.b_int (by decide +kernel) (ja_cons (je_var 3) ja_nil)) (je_var 1)))))
jss_nil)
(jss_cons (js_set (i := 4) (je_op op_mod ov_mod (je_callT call_intA cv_int T.b_int (by decide +kernel) (ja_cons (je_op op_addAll ov_add (je_op op_mulAll ov_mul (je_op op_addAll ov_add (je_var 3) je_int) je_int) (je_op op_mulAll ov_mul (je_ix (ix_all c.hu) ov_ix (je_var 0) je_int) je_int)) ja_nil)) je_int) sc_law_draw.nd)
(jss_cons (js_set (i := 4) (je_op op_mod ov_mod (je_callT call_intA cv_int T.b_int (by decide +kernel) (ja_cons (je_op op_addAll ov_add (je_op op_addAll ov_add (je_op op_mulAll ov_mul (je_var 4) je_int) (je_op op_fdivW ov_div (je_var 3) je_int)) (je_ix (ix_all c.hu) ov_ix (je_var 0) je_int)) ja_nil)) je_int) sc_law_draw.nd)
(jss_one (js_ret (je_op op_mod ov_mod (je_op op_fdivW ov_div (je_var 4) je_int) (je_var 1))))))))))))
theorem ok_law_char (T : G K mg) {f : Addr} {fd : FuncData} (F : Fun K "_law_char" "_law_char" s_law_char f fd) (H__law_draw : Fn P w K mg base 1 "_law_draw" 2 Ew.m_law_draw) : FnOk P w K mg base (L2.CX P w) 2 f fd ["state"] (spOf K mg 1 m_law_char) :=
  fn_ok F sc_law_char fun cdv A outer s H E c => by
    unfold b_law_char
    exact (jss_cons (js_set (i := 1) je_str sc_law_char.nd)
(jss_cons (js_set (i := 1) (je_op op_addAll ov_add (je_var 1) je_str) sc_law_char.nd)
(jss_one (js_ret (je_ix (ix_all c.hu) ov_ix (je_var 1) (je_call c H__law_draw (ja_cons (je_var 0) (ja_cons (je_callB call_len cv_len T.b_len PySem.boot_len (ja_cons (je_var 1) ja_nil)) ja_nil))))))))
theorem ok_law_changed (T : G K mg) {f : Addr} {fd : FuncData} (F : Fun K "_law_changed" "_law_changed" s_law_changed f fd) (H__law_char : Fn P w K mg base 2 "_law_char" 1 m_law_char) (H__law_draw : Fn P w K mg base 2 "_law_draw" 2 Ew.m_law_draw) : FnOk P w K mg base (L2.CX P w) 3 f fd ["state", "text"] (spOf K mg 2 m_law_changed) :=
  fn_ok F sc_law_changed fun cdv A outer s H E c => by
    unfold b_law_changed
    exact (jss_cons (js_set (i := 2) (je_call c H__law_draw (ja_cons (je_var 0) (ja_cons (je_op op_addAll ov_add (je_callB call_len cv_len T.b_len PySem.boot_len (ja_cons (je_var 1) ja_nil)) je_int) ja_nil))) sc_law_changed.nd)
(jss_cons (js_set (i := 3) (je_call c H__law_char (ja_cons (je_var 0) ja_nil)) sc_law_changed.nd)
(jss_cons (js_if (jt_cmp (op_eqA c.hu64) ov_eq (je_call c H__law_draw (ja_cons (je_var 0) (ja_cons je_int ja_nil))) je_int) (jss_one (js_set (i := 3) (je_callT call_str_int cv_str T.b_str (by decide +kernel) (ja_cons (je_call c H__law_draw (ja_cons (je_var 0) (ja_cons je_int ja_nil))) ja_nil)) sc_law_changed.nd))
jss_nil)
(jss_cons (js_set (i := 4) (je_call c H__law_draw (ja_cons (je_var 0) (ja_cons je_int ja_nil))) sc_law_changed.nd)
(jss_cons (js_if (jt_cmp (op_eqA c.hu64) ov_eq (je_var 4) je_int) (jss_one (js_ret (je_op op_addAll ov_add (je_op op_addAll ov_add (je_sl sl_all sv_all (je_var 1) jo_none (jo_some (je_var 2))) (je_var 3)) (je_sl sl_all sv_all (je_var 1) (jo_some (je_var 2)) jo_none))))
jss_nil)
(jss_cons (js_if (jt_cmp (op_eqA c.hu64) ov_eq (je_var 4) je_int) (jss_one (js_ret (je_op op_addAll ov_add (je_op op_addAll ov_add (je_sl sl_all sv_all (je_var 1) jo_none (jo_some (je_var 2))) (je_var 3)) (je_sl sl_all sv_all (je_var 1) (jo_some (je_op op_addAll ov_add (je_var 2) je_int)) jo_none))))
jss_nil)
(jss_cons (js_if (jt_cmp (op_eqA c.hu64) ov_eq (je_var 4) je_int) (jss_one (js_ret (je_op op_addAll ov_add (je_sl sl_all sv_all (je_var 1) jo_none (jo_some (je_var 2))) (je_sl sl_all sv_all (je_var 1) (jo_some (je_op op_addAll ov_add (je_var 2) je_int)) jo_none))))
jss_nil)
(jss_one (js_ret (je_var 1))))))))))
theorem ok_law_text (T : G K mg) {f : Addr} {fd : FuncData} (F : Fun K "_law_text" "_law_text" s_law_text f fd) (H__law_changed : Fn P w K mg base 3 "_law_changed" 2 m_law_changed) (H__law_draw : Fn P w K mg base 3 "_law_draw" 2 Ew.m_law_draw) : FnOk P w K mg base (L2.CX P w) 4 f fd ["state"] (spOf K mg 1 m_law_text) :=
  fn_ok F sc_law_text fun cdv A outer s H E c => by
    unfold b_law_text
    exact (jss_cons (js_set (i := 1) (je_call c H__law_draw (ja_cons (je_var 0) (ja_cons je_int ja_nil))) sc_law_text.nd)
(jss_cons (js_if (jt_cmp (op_eqA c.hu64) ov_eq (je_var 1) je_int) (jss_cons (js_set (i := 2) (je_lst (ja_cons je_str (ja_cons je_str (ja_cons je_str (ja_cons je_str (ja_cons je_str (ja_cons je_str (ja_cons je_str (ja_cons je_str (ja_cons je_str (ja_cons je_str (ja_cons je_str (ja_cons je_str (ja_cons je_str (ja_cons je_str (ja_cons je_str (ja_cons je_str (ja_cons je_str ja_nil)))))))))))))))))) sc_law_text.nd)
(jss_cons (js_set (i := 2) (je_op op_addAll ov_add (je_var 2) (je_lst (ja_cons je_str (ja_cons je_str (ja_cons je_str (ja_cons je_str (ja_cons je_str (ja_cons je_str (ja_cons je_str (ja_cons je_str ja_nil)))))))))) sc_law_text.nd)
(jss_one (js_ret (je_ix (ix_all c.hu) ov_ix (je_var 2) (je_call c H__law_draw (ja_cons (je_var 0) (ja_cons (je_callB call_len cv_len T.b_len PySem.boot_len (ja_cons (je_var 2) ja_nil)) ja_nil))))))))
jss_nil)
(jss_cons (js_if (jt_cmp (op_eqA c.hu64) ov_eq (je_var 1) je_int) (jss_one (js_ret (je_mt mt_join mv_join (fun ho ha => pe_bm PySem.F.plainAttrs_str PySem.F.slot_str_join PySem.F.type_str_join mt_join ho ha) je_str (ja_cons (je_lc (own := [("k", 4)]) rfl sc_law_text.nd (ji_range1 T.b_range (ja_cons (je_call c H__law_draw (ja_cons (je_var 0) (ja_cons je_int ja_nil))) ja_nil)) (blkOk_by (by first | (show blkC ["state", "pick", "odd", "text", "k"] (defScope s_law_text) _ _ = true; decide +kernel) | rfl)) (by decide) (fun _ _ _ _ _ => (jg_name sc_law_text.nd)) (blkc c fun _ _ _ _ _ c => jts_nil) (blkc c fun _ _ _ _ _ c => (je_ix (ix_all c.hu) ov_ix je_str (je_call c H__law_draw (ja_cons (je_var 0) (ja_cons je_int ja_nil)))))) ja_nil))))
jss_nil)
(jss_cons (js_set (i := 3) (je_callT call_str_int cv_str T.b_str (by decide +kernel) (ja_cons (je_op op_addAll ov_add je_int (je_call c H__law_draw (ja_cons (je_var 0) (ja_cons je_int ja_nil)))) ja_nil)) sc_law_text.nd)
(jss_cons (js_set (i := 3) (je_op op_addAll ov_add (je_var 3) (je_mt mt_join mv_join (fun ho ha => pe_bm PySem.F.plainAttrs_str PySem.F.slot_str_join PySem.F.type_str_join mt_join ho ha) je_str (ja_cons (je_lc (own := [("k", 4)]) rfl sc_law_text.nd (ji_range1 T.b_range (ja_cons (je_call c H__law_draw (ja_cons (je_var 0) (ja_cons je_int ja_nil))) ja_nil)) (blkOk_by (by first | (show blkC ["state", "pick", "odd", "text", "k"] (defScope s_law_text) _ _ = true; decide +kernel) | rfl)) (by decide) (fun _ _ _ _ _ => (jg_name sc_law_text.nd)) (blkc c fun _ _ _ _ _ c => jts_nil) (blkc c fun _ _ _ _ _ c => (je_callT call_str_int cv_str T.b_str (by decide +kernel) (ja_cons (je_call c H__law_draw (ja_cons (je_var 0) (ja_cons je_int ja_nil))) ja_nil)))) ja_nil))) sc_law_text.nd)
(jss_cons (js_if (jt_cmp (op_eqA c.hu64) ov_eq (je_call c H__law_draw (ja_cons (je_var 0) (ja_cons je_int ja_nil))) je_int) (jss_one (js_set (i := 3) (je_op op_mulAll ov_mul (je_var 3) je_int) sc_law_text.nd))
jss_nil)
(jss_cons (js_if (jt_cmp (op_eqA c.hu64) ov_eq (je_call c H__law_draw (ja_cons (je_var 0) (ja_cons je_int ja_nil))) je_int) (jss_one (js_set (i := 3) (je_op op_addAll ov_add je_str (je_var 3)) sc_law_text.nd))
jss_nil)
(jss_one (js_ret (je_call c H__law_changed (ja_cons (je_var 0) (ja_cons (je_var 3) ja_nil))))))))))))
theorem ok_read_integer (T : G K mg) {f : Addr} {fd : FuncData} (F : Fun K "read_integer" "read_integer" s_read_integer f fd) : FnOk P w K mg base (L2.CX P w) 1 f fd ["text"] (spOf K mg 1 m_read_integer) :=
  fn_ok F sc_read_integer fun cdv A outer s H E c => by
    unfold b_read_integer
    exact (jss_cons (js_set (i := 1) (je_var 0) sc_read_integer.nd)
(jss_cons (js_if (jt_cmp (op_eqA c.hu64) ov_eq (je_sl sl_all sv_all (je_var 0) jo_none (jo_some je_int)) je_str) (jss_one (js_set (i := 1) (je_sl sl_all sv_all (je_var 0) (jo_some je_int) jo_none) sc_read_integer.nd))
jss_nil)
(jss_cons (js_if (jt_w (jw_or (jt_cmp (op_eqA c.hu64) ov_eq (je_var 1) je_str) (jw_or1 (jt_w (jw_and (jt_cmp (op_eqA c.hu64) ov_eq (je_ix (ix_all c.hu) ov_ix (je_var 1) je_int) je_str) (jw_and1 (jt_cmp (op_neA c.hu64) ov_ne (je_var 0) je_str))))))) (jss_one (js_raiseX rfl c.tk T.e_BadText))
jss_nil)
(jss_cons (js_for c.po rfl (ji_seq (je_var 1)) (jg_name sc_read_integer.nd)
(jss_one (js_if (jt_cmp (op_notInX c.hu65) ov_inX (je_var 2) (je_gc T.c_DIGITS)) (jss_one (js_raiseX rfl c.tk T.e_BadText))
jss_nil)))
(jss_cons (js_set (i := 3) (je_op op_mod ov_mod (je_callB call_len cv_len T.b_len PySem.boot_len (ja_cons (je_var 1) ja_nil)) je_int) sc_read_integer.nd)
(jss_cons (js_set (i := 4) je_int sc_read_integer.nd)
(jss_cons (js_if (jt_cmp op_gtA ov_cmp (je_var 3) je_int) (jss_one (js_set (i := 4) (je_callT call_intA cv_int T.b_int (by decide +kernel) (ja_cons (je_sl sl_all sv_all (je_var 1) jo_none (jo_some (je_var 3))) ja_nil)) sc_read_integer.nd))
jss_nil)
(jss_cons (js_for c.po rfl (ji_range3 T.b_range (ja_cons (je_var 3) (ja_cons (je_callB call_len cv_len T.b_len PySem.boot_len (ja_cons (je_var 1) ja_nil)) (ja_cons je_int ja_nil))) (fun ha => pi_range3 (by rfl) T.b_range ha)) (jg_name sc_read_integer.nd)
(jss_one (js_set (i := 4) (je_op op_addAll ov_add (je_op op_mulAll ov_mul (je_var 4) (je_gc T.c_BASE)) (je_callT call_intA cv_int T.b_int (by decide +kernel) (ja_cons (je_sl sl_all sv_all (je_var 1) (jo_some (je_var 5)) (jo_some (je_op op_addAll ov_add (je_var 5) je_int))) ja_nil))) sc_read_integer.nd)))
(jss_cons (js_if (jt_cmp (op_eqA c.hu64) ov_eq (je_ix (ix_all c.hu) ov_ix (je_var 0) je_int) je_str) (jss_one (js_ret (je_un un_neg uv_neg (je_var 4))))
jss_nil)
(jss_one (js_ret (je_var 4))))))))))))
theorem ok_law_is_written (T : G K mg) {f : Addr} {fd : FuncData} (F : Fun K "_law_is_written" "_law_is_written" s_law_is_written f fd) : FnOk P w K mg base (L2.CX P w) 1 f fd ["text"] (spOf K mg 1 m_law_is_written) :=
  fn_ok F sc_law_is_written fun cdv A outer s H E c => by
    unfold b_law_is_written
    exact (jss_cons (js_set (i := 1) (je_var 0) sc_law_is_written.nd)
(jss_cons (js_if (jt_cmp (op_eqA c.hu64) ov_eq (je_sl sl_all sv_all (je_var 0) jo_none (jo_some je_int)) je_str) (jss_one (js_set (i := 1) (je_sl sl_all sv_all (je_var 0) (jo_some je_int) jo_none) sc_law_is_written.nd))
jss_nil)
(jss_cons (js_if (jt_w (jw_or (jt_cmp (op_eqA c.hu64) ov_eq (je_var 1) je_str) (jw_or1 (jt_w (jw_and (jt_cmp (op_eqA c.hu64) ov_eq (je_ix (ix_all c.hu) ov_ix (je_var 1) je_int) je_str) (jw_and1 (jt_cmp (op_neA c.hu64) ov_ne (je_var 0) je_str))))))) (jss_one (js_ret je_bl))
jss_nil)
(jss_one (js_ret (je_callB (cr_all rfl) cv_all T.b_all (by decide +kernel) (ja_cons (je_lc (own := [("char", 2)]) rfl sc_law_is_written.nd (ji_seq (je_var 1)) (blkOk_by (by first | (show blkC ["text", "digits", "char"] (defScope s_law_is_written) _ _ = true; decide +kernel) | rfl)) (by decide) (fun _ _ _ _ _ => (jg_name sc_law_is_written.nd)) (blkc c fun _ _ _ _ _ c => jts_nil) (blkc c fun _ _ _ _ _ c => (je_cmp (op_inX c.hu65) ov_inX (je_var 2) je_str))) ja_nil)))))))
theorem ok_law_refuses (T : G K mg) {f : Addr} {fd : FuncData} (F : Fun K "_law_refuses" "_law_refuses" s_law_refuses f fd) (H_read_integer : Fn P w K mg base 1 "read_integer" 1 m_read_integer) {fe__law_other : Addr} {fde__law_other : FuncData} (H__law_other : ∀ C, mg "BadText" = some (.ref C) → ExcC K C → FnE P w K mg base 1 fe__law_other fde__law_other "e" C false) (hb__law_other : Binds K fde__law_other ["e"] []) (hm__law_other : mg "_law_other" = some (.ref fe__law_other)) (hk__law_other : PySem.W.keepIn K (.ref fe__law_other) = true) : FnOk P w K mg base (L2.CX P w) 2 f fd ["text"] (spOf K mg 1 m_law_refuses) :=
  fn_ok F sc_law_refuses fun cdv A outer s H E c => by
    unfold b_law_refuses
    exact (jss_cons (js_tryX 1 rfl rfl sc_law_refuses.nd rfl rfl c.tk T.e_BadText T.x_BadText_BadText (fun pn xe W' tk po => have c := c.tr tk po; (jss_one (js_expr (je_call c H_read_integer (ja_cons (je_var 0) ja_nil)))))
(fun C hC E a oe pn hz hf => (pb_and (b1 := true) (b2 := true) (pb_isX hC T.k_BadText_EndwithinError E hz hf T.b_isinstance) (pb_and (b1 := true) (b2 := true) (pb_isXT hC T.t_BadText_ValueError E hz hf T.b_isinstance T.b_ValueError (by decide +kernel)) (pb_one (pb_not (b1 := false) (pb_callE (H__law_other C hC E) c.room hb__law_other hm__law_other hk__law_other hz hf)))))))
(jss_one (js_ret je_bl)))
theorem ok_law_worth (T : G K mg) {f : Addr} {fd : FuncData} (F : Fun K "_law_worth" "_law_worth" s_law_worth f fd) : FnOk P w K mg base (L2.CX P w) 1 f fd ["text"] (spOf K mg 1 m_law_worth) :=
  fn_ok F sc_law_worth fun cdv A outer s H E c => by
    unfold b_law_worth
    exact (jss_cons (js_set (i := 1) je_int sc_law_worth.nd)
(jss_cons (js_set (i := 2) (je_op op_mod ov_mod (je_callB call_len cv_len T.b_len PySem.boot_len (ja_cons (je_var 0) ja_nil)) je_int) sc_law_worth.nd)
(jss_cons (js_if (jt_cmp op_gtA ov_cmp (je_var 2) je_int) (jss_one (js_set (i := 1) (je_callT call_intA cv_int T.b_int (by decide +kernel) (ja_cons (je_sl sl_all sv_all (je_var 0) jo_none (jo_some (je_var 2))) ja_nil)) sc_law_worth.nd))
jss_nil)
(jss_cons (js_for c.po rfl (ji_range3 T.b_range (ja_cons (je_var 2) (ja_cons (je_callB call_len cv_len T.b_len PySem.boot_len (ja_cons (je_var 0) ja_nil)) (ja_cons je_int ja_nil))) (fun ha => pi_range3 (by rfl) T.b_range ha)) (jg_name sc_law_worth.nd)
(jss_one (js_set (i := 1) (je_op op_addAll ov_add (je_op op_mulAll ov_mul (je_var 1) je_int) (je_callT call_intA cv_int T.b_int (by decide +kernel) (ja_cons (je_sl sl_all sv_all (je_var 0) (jo_some (je_var 3)) (jo_some (je_op op_addAll ov_add (je_var 3) je_int))) ja_nil))) sc_law_worth.nd)))
(jss_one (js_ret (je_var 1)))))))
theorem ok_law_integer (T : G K mg) {f : Addr} {fd : FuncData} (F : Fun K "_law_integer" "_law_integer" s_law_integer f fd) (H__law_worth : Fn P w K mg base 1 "_law_worth" 1 m_law_worth) : FnOk P w K mg base (L2.CX P w) 2 f fd ["text"] (spOf K mg 1 m_law_integer) :=
  fn_ok F sc_law_integer fun cdv A outer s H E c => by
    unfold b_law_integer
    exact (jss_cons (js_if (jt_cmp (op_eqA c.hu64) ov_eq (je_sl sl_all sv_all (je_var 0) jo_none (jo_some je_int)) je_str) (jss_one (js_ret (je_un un_neg uv_neg (je_call c H__law_worth (ja_cons (je_sl sl_all sv_all (je_var 0) (jo_some je_int) jo_none) ja_nil)))))
jss_nil)
(jss_one (js_ret (je_call c H__law_worth (ja_cons (je_var 0) ja_nil)))))
theorem ok_law (T : G K mg) {f : Addr} {fd : FuncData} (F : Fun K "law" "law" s_law f fd) (H__law_integer : Fn P w K mg base 4 "_law_integer" 1 m_law_integer) (H__law_is_written : Fn P w K mg base 4 "_law_is_written" 1 m_law_is_written) (H__law_refuses : Fn P w K mg base 4 "_law_refuses" 1 m_law_refuses) (H__law_start : Fn P w K mg base 4 "_law_start" 1 Ew.m_law_start) (H__law_text : Fn P w K mg base 4 "_law_text" 1 m_law_text) (H_read_integer : Fn P w K mg base 4 "read_integer" 1 m_read_integer) : FnOk P w K mg base (L2.CX P w) 5 f fd ["script"] (spOf K mg 1 m_law) :=
  fn_ok F sc_law fun cdv A outer s H E c => by
    unfold b_law
    exact (jss_cons (js_setO (i := 1) (je_call c H__law_start (ja_cons (je_var 0) ja_nil)) sc_law.nd)
(jss_cons (js_set (i := 2) (je_call c H__law_text (ja_cons (je_var 1) ja_nil)) sc_law.nd)
(jss_cons (js_if (jt_not (jt_val (je_call c H__law_is_written (ja_cons (je_var 2) ja_nil)))) (jss_one (js_ret (je_call c H__law_refuses (ja_cons (je_var 2) ja_nil))))
jss_nil)
(jss_cons (js_set (i := 3) (je_call c H_read_integer (ja_cons (je_var 2) ja_nil)) sc_law.nd)
(jss_one (js_ret (je_and (je_callB call_isi cv_isi T.b_isinstance (by decide +kernel) (ja_cons (je_var 3) (ja_cons (je_ty T.b_int (by decide +kernel)) ja_nil))) (je_and (je_not (je_callB call_isi cv_isi T.b_isinstance (by decide +kernel) (ja_cons (je_var 3) (ja_cons (je_ty T.b_bool (by decide +kernel)) ja_nil)))) (je_one (je_cmp (op_eqA c.hu64) ov_eq (je_var 3) (je_call c H__law_integer (ja_cons (je_var 2) ja_nil))))))))))))
end
end Lw

set_option Elab.async false
set_option linter.all false
set_option maxRecDepth 100000
set_option maxHeartbeats 8000000
namespace Lw
open PySem PySem.Spec PyProof.Rows L2 Ew
local macro_rules | `(tactic| nomatch "e", $ts,*) => `(tactic| simp only [R_bind_ok, R_bind_exc, R_bind_bad, R_toB_ok, R_toB_exc, R_toB_bad, R_toA_ok, R_toA_exc, R_toA_bad, RA_bind_ok, RA_bind_exc, RA_bind_bad, RA_toR_ok, RA_toR_exc, RA_toR_bad, RA_toI_ok, RA_toI_exc, RA_toI_bad, RB_toR_ok, RB_toR_exc, RB_toR_bad, RB_bind_ok, RB_bind_exc, RB_bind_bad, R_toI_ok, R_toI_exc, R_toI_bad, RO_toR_ok, RO_toR_exc, RO_toR_bad, R_toS_ok, R_toS_exc, R_toS_bad, RB_toS_ok, RB_toS_exc, RB_toS_bad, RI_toS_ok, RI_toS_exc, RI_toS_bad, sSeq_e, SR_seq_nx, SR_seq_rt, SR_seq_bk, SR_seq_ct, SR_seq_exc, SR_seq_bad, sNx_e, sBk_e, sCt_e, sBad_e, sRetN_e, sSet_e, sSetK_e, fz1_d, fz1_o, fz1_n, toD_l, toD_d, toD_f, live_l, live_d, sSetO_e, sSetOK_n, sSetOK_d, sSetOK_o, sDrop_e, sDropK_e, sRet_e, sRetK_e, sIf_e, sIfK_t, sIfK_f, sFor_e, sForK_e, turn_e, turnK_s, gN_e, gT_e, gT_l, gsCons_e, gsK_s, gsNil_e, sPut_e, sPutK1_e, sPutK2_e, sPutK3_e, sPutK4_e, apP_e, apPK_e, apPL_e, sUnp_e, sUnpK_e, sUnpL_e, unpV_d, sUnpM_e, sAug_e, sAugJ_e, sAugK_e, sAugL_e, sAugM_e, clB_0, clB_l, clB_d, clB_f, frz_d, frz_n, frz_o, frzK_e, frzs_nil, frzs_c, frzsK_e, frzsL_e, view_d, view_o, viewK_e, view_n, views_nil, views_c, viewsK_e, viewsL_e, eVar_e, eVarK_d, eVarK_o, eC_e, apR_d, apR_o, ap2_e, ap2V_e, eBin_e, eBinK_e, eBinL_e, tBin_e, tBinK_e, tBinL_e, bl2_e, bl2V_e, blR_e, eUn_e, un1_e, un1V_e, tVal_e, tru_e, truV_e, truW_e, truth_n, truth_b, truth_i, truth_t, truth_l, tNt_e, tNtK_e, tAn_e, tAnK_t, tAnK_f, tO_e, tOK_t, tOK_f, tY_e, eAnd_e, eAndK_t, eAndK_f, eOr_e, eOrK_f, eOrK_t, eNot_e, eNotK_e, eIf_e, eIfK_t, eIfK_f, aNil_e, aCons_e, aConsK_e, aConsL_e, eAp_e, ap_e, apV_e, g1_e, g2_e, eMt_e, eMtK_e, eMtV_e, eMtT_e, eMtL_e, apM_e, apMV_e, m1_e, m0_e, tyD_s, tyD_l, eMt0_e, eMt0K_e, eMt0V_e, eMt0T_e, eMu_e, eMuK_e, eMuV_e, eMuT_e, eMuL_e, tyO_l, tyO_d, apU_e, apUK_e, apUL_e, apUM_e, u1_e, u0_e, eMu0_e, eMu0K_e, eMu0V_e, eMu0T_e, eTup_e, eLst_e, mkT_e, mkL_e, mkTK_0, mkLK_0, mkTK_1, mkLK_1, mkTK_2, mkLK_2, mkTK_3, mkLK_3, mkTK_4, mkLK_4, mkTK_5, mkLK_5, mkTK_6, mkLK_6, mkTK_7, mkLK_7, mkTK_8, mkLK_8, oNone_e, oSome_e, oSomeK_e, eSl_e, eSlK_e, eSlL_e, eSlM_e, apS_e, apSV_e, iSeq_e, iSeqK_e, iSeqV_e, iSeqL_e, items_l, items_t, items_s, iRange_e, gAdd_ii, gSub_ii, gNeg_i, gAbs_i, gInt_i, gLt_ii, gLt_ss, gLe_ii, gLe_ss, gGt_ii, gGt_ss, gGe_ii, gGe_ss, gEq_ii, gNe_ii, gEq_ss, gNe_ss, gLen_l, gLen_t, gList_s, gList_l, gList_t, gTuple_l, gTuple_t, gIx_l, gIx_t, optD_e, atI_lit, gSet_l, gSetLK_e, List.getElem?_cons_zero, List.getElem?_cons_succ, List.getElem?_nil, List.set_cons_zero, List.set_cons_succ, List.length_cons, List.length_nil, List.map_cons, List.map_nil, List.cons_append, List.nil_append, Nat.zero_add, Nat.add_zero, Nat.reduceAdd, Nat.reduceSub, Nat.sub_self, Nat.reduceLT, Nat.reduceLeDiff, Int.reduceLT, Int.reduceLE, Int.reduceNeg, Int.reduceEq, decide_true, decide_false, ixN_lit, List.set_nil, List.replicate, Int.reduceAdd, Int.reduceSub, reduceCtorEq, Bool.not_true, Bool.not_false, List.take_succ_cons, List.take_zero, List.take_nil, retS, cutR, cutX, clB_ao, $[$ts:term],*])
local macro_rules | `(tactic| nomatch "e") => `(tactic| simp only [R_bind_ok, R_bind_exc, R_bind_bad, R_toB_ok, R_toB_exc, R_toB_bad, R_toA_ok, R_toA_exc, R_toA_bad, RA_bind_ok, RA_bind_exc, RA_bind_bad, RA_toR_ok, RA_toR_exc, RA_toR_bad, RA_toI_ok, RA_toI_exc, RA_toI_bad, RB_toR_ok, RB_toR_exc, RB_toR_bad, RB_bind_ok, RB_bind_exc, RB_bind_bad, R_toI_ok, R_toI_exc, R_toI_bad, RO_toR_ok, RO_toR_exc, RO_toR_bad, R_toS_ok, R_toS_exc, R_toS_bad, RB_toS_ok, RB_toS_exc, RB_toS_bad, RI_toS_ok, RI_toS_exc, RI_toS_bad, sSeq_e, SR_seq_nx, SR_seq_rt, SR_seq_bk, SR_seq_ct, SR_seq_exc, SR_seq_bad, sNx_e, sBk_e, sCt_e, sBad_e, sRetN_e, sSet_e, sSetK_e, fz1_d, fz1_o, fz1_n, toD_l, toD_d, toD_f, live_l, live_d, sSetO_e, sSetOK_n, sSetOK_d, sSetOK_o, sDrop_e, sDropK_e, sRet_e, sRetK_e, sIf_e, sIfK_t, sIfK_f, sFor_e, sForK_e, turn_e, turnK_s, gN_e, gT_e, gT_l, gsCons_e, gsK_s, gsNil_e, sPut_e, sPutK1_e, sPutK2_e, sPutK3_e, sPutK4_e, apP_e, apPK_e, apPL_e, sUnp_e, sUnpK_e, sUnpL_e, unpV_d, sUnpM_e, sAug_e, sAugJ_e, sAugK_e, sAugL_e, sAugM_e, clB_0, clB_l, clB_d, clB_f, frz_d, frz_n, frz_o, frzK_e, frzs_nil, frzs_c, frzsK_e, frzsL_e, view_d, view_o, viewK_e, view_n, views_nil, views_c, viewsK_e, viewsL_e, eVar_e, eVarK_d, eVarK_o, eC_e, apR_d, apR_o, ap2_e, ap2V_e, eBin_e, eBinK_e, eBinL_e, tBin_e, tBinK_e, tBinL_e, bl2_e, bl2V_e, blR_e, eUn_e, un1_e, un1V_e, tVal_e, tru_e, truV_e, truW_e, truth_n, truth_b, truth_i, truth_t, truth_l, tNt_e, tNtK_e, tAn_e, tAnK_t, tAnK_f, tO_e, tOK_t, tOK_f, tY_e, eAnd_e, eAndK_t, eAndK_f, eOr_e, eOrK_f, eOrK_t, eNot_e, eNotK_e, eIf_e, eIfK_t, eIfK_f, aNil_e, aCons_e, aConsK_e, aConsL_e, eAp_e, ap_e, apV_e, g1_e, g2_e, eMt_e, eMtK_e, eMtV_e, eMtT_e, eMtL_e, apM_e, apMV_e, m1_e, m0_e, tyD_s, tyD_l, eMt0_e, eMt0K_e, eMt0V_e, eMt0T_e, eMu_e, eMuK_e, eMuV_e, eMuT_e, eMuL_e, tyO_l, tyO_d, apU_e, apUK_e, apUL_e, apUM_e, u1_e, u0_e, eMu0_e, eMu0K_e, eMu0V_e, eMu0T_e, eTup_e, eLst_e, mkT_e, mkL_e, mkTK_0, mkLK_0, mkTK_1, mkLK_1, mkTK_2, mkLK_2, mkTK_3, mkLK_3, mkTK_4, mkLK_4, mkTK_5, mkLK_5, mkTK_6, mkLK_6, mkTK_7, mkLK_7, mkTK_8, mkLK_8, oNone_e, oSome_e, oSomeK_e, eSl_e, eSlK_e, eSlL_e, eSlM_e, apS_e, apSV_e, iSeq_e, iSeqK_e, iSeqV_e, iSeqL_e, items_l, items_t, items_s, iRange_e, gAdd_ii, gSub_ii, gNeg_i, gAbs_i, gInt_i, gLt_ii, gLt_ss, gLe_ii, gLe_ss, gGt_ii, gGt_ss, gGe_ii, gGe_ss, gEq_ii, gNe_ii, gEq_ss, gNe_ss, gLen_l, gLen_t, gList_s, gList_l, gList_t, gTuple_l, gTuple_t, gIx_l, gIx_t, optD_e, atI_lit, gSet_l, gSetLK_e, List.getElem?_cons_zero, List.getElem?_cons_succ, List.getElem?_nil, List.set_cons_zero, List.set_cons_succ, List.length_cons, List.length_nil, List.map_cons, List.map_nil, List.cons_append, List.nil_append, Nat.zero_add, Nat.add_zero, Nat.reduceAdd, Nat.reduceSub, Nat.sub_self, Nat.reduceLT, Nat.reduceLeDiff, Int.reduceLT, Int.reduceLE, Int.reduceNeg, Int.reduceEq, decide_true, decide_false, ixN_lit, List.set_nil, List.replicate, Int.reduceAdd, Int.reduceSub, reduceCtorEq, Bool.not_true, Bool.not_false, List.take_succ_cons, List.take_zero, List.take_nil, retS, cutR, cutX, clB_ao])
open PySem.NumText (digitsVal AllDigits)
open TL (numL)

theorem k_BASE_e : k_BASE = .int ((10 ^ 64 : Nat) : Int) := rfl
/-! ### the number that a text of digits tells, six signs at a time -/
theorem worth_loop {a : List Nat} (hd : AllDigits a) (hl : a.length ≤ 10000) {r n : Nat} (hr : a.length = r + n * 6) (y : Option AV) {v0 : Int} (hv : v0 = ((digitsVal (a.take r) : Nat) : Int)) :
    ∃ x, forD (turn (gN 3) (sSet 1 (eBin gAdd (eBin gMul (eVar 1) (eC (.int 1000000))) (eAp (g1 gInt) (aCons (eSl gSl (eVar 0) (oSome (eVar 3)) (oSome (eBin gAdd (eVar 3) (eC (.int 6))))) aNil))))) (rangeD (r : Nat) 6 n)
      [some (.dat (tx a)), some (.dat (.int v0)), y, none] [] = .nx [some (.dat (tx a)), some (.dat (.int (digitsVal a : Nat))), y, x] [] := by
  have z := forD_inv (body := (turn (gN 3) (sSet 1 (eBin gAdd (eBin gMul (eVar 1) (eC (.int 1000000))) (eAp (g1 gInt) (aCons (eSl gSl (eVar 0) (oSome (eVar 3)) (oSome (eBin gAdd (eVar 3) (eC (.int 6))))) aNil)))))) (rangeD (r : Nat) 6 n) (fun k ρ S => S = [] ∧ ∃ x, ρ = [some (.dat (tx a)), some (.dat (.int (digitsVal (a.take (r + k * 6)) : Nat))), y, x]) [some (.dat (tx a)), some (.dat (.int v0)), y, none] [] ⟨rfl, none, by rw [Nat.zero_mul, Nat.add_zero, hv]⟩ (by
    rintro k d ρ S hk ⟨rfl, x, rfl⟩
    obtain ⟨hk, rfl⟩ := rangeD_some hk
    have hb : r + k * 6 + 6 ≤ a.length := by omega
    have e0 : ((r : Nat) : Int) + ((k : Nat) : Int) * 6 = ((r + k * 6 : Nat) : Int) := by omega
    have sl := gSl_mid (a := a) (i := ((r + k * 6 : Nat) : Int)) (j := ((r + k * 6 : Nat) : Int) + 6) (by omega) (by omega) (by omega) (by omega)
    have e1 : (((r + k * 6 : Nat) : Int) + 6 - ((r + k * 6 : Nat) : Int)).toNat = 6 := by omega
    rw [e1, Int.toNat_natCast] at sl
    have hlen : ((a.drop (r + k * 6)).take 6).length = 6 := by rw [List.length_take, List.length_drop]; omega
    have gi := gInt_t (a := (a.drop (r + k * 6)).take 6) (AllDigits.take (AllDigits.drop hd _) _) (fun e => by rw [e] at hlen; simp at hlen) (by omega)
    refine ⟨_, _, .inl ?_, rfl, some (.dat (.int ((r + k * 6 : Nat) : Int))), rfl⟩
    rw [e0]
    have vs := val_take_step (t := a) (i := r + k * 6) (c := 6) hb
    have e2 : ((digitsVal (a.take (r + k * 6)) : Nat) : Int) * 1000000 + ((digitsVal ((a.drop (r + k * 6)).take 6) : Nat) : Int) = ((digitsVal (a.take (r + (k + 1) * 6)) : Nat) : Int) := by
      rw [show r + (k + 1) * 6 = r + k * 6 + 6 by omega, vs]
      omega
    nomatch "e", sl, gi, gMul_c, e2)
  obtain ⟨ρ', S', e, rfl, x, rfl⟩ := z
  rw [rangeD_len, ← hr, List.take_length] at e
  exact ⟨x, e⟩
theorem worth_ok {a : List Nat} (hd : AllDigits a) (hl : a.length ≤ 10000) : m_law_worth [.dat (tx a)] [] = .ok (.dat (.int (digitsVal a : Nat))) [] := by
  unfold m_law_worth b_law_worth runF
  have hm : ((a.length : Nat) : Int) % 6 = ((a.length % 6 : Nat) : Int) := by omega
  have gl := gLen_t' (a := a) (by omega)
  have hr : a.length = a.length % 6 + a.length / 6 * 6 := by omega
  generalize hrr : a.length % 6 = r at hm hr
  generalize a.length / 6 = n at hr
  have rg := iRg_4 (i := r) (n := n) (c := 6) (S := []) (j := (a.length : Nat)) (z := 6) rfl (by omega) (by omega) (by omega) (by omega) (by omega)
  have lp := fun v0 hv => worth_loop hd hl hr (some (.dat (.int (r : Nat)))) (v0 := v0) hv
  by_cases h0 : (0 : Int) < (r : Nat)
  · have sl := gSl_to (a := a) (i := (r : Nat)) (by omega) (by omega)
    rw [Int.toNat_natCast] at sl
    have hlen : (a.take r).length = r := by rw [List.length_take]; omega
    have gi := gInt_t (a := a.take r) (AllDigits.take hd _) (fun e => by rw [e] at hlen; simp at hlen; omega) (by omega)
    obtain ⟨x, lp⟩ := lp _ rfl
    nomatch "e", gl, hm, gMod_ii, h0, sl, gi, rg, lp
  · have hz : r = 0 := by omega
    subst hz
    obtain ⟨x, lp⟩ := lp 0 (by rw [List.take_zero]; rfl)
    nomatch "e", gl, hm, gMod_ii, h0, rg, lp

/-! ### reading a number, sixty-four signs at a time -/
theorem k_DIGITS_e : k_DIGITS = tx [48, 49, 50, 51, 52, 53, 54, 55, 56, 57] := rfl
theorem dig_mem {c : Nat} (h : 48 ≤ c ∧ c ≤ 57) : c ∈ [48, 49, 50, 51, 52, 53, 54, 55, 56, 57] := by
  simp only [List.mem_cons, List.not_mem_nil, or_false]; omega
theorem chars_loop {a : List Nat} (hd : AllDigits a) (s : D) : ∃ x, forD (turn (gN 2) (sIf (tBin (gInX true) (eVar 2) (eC k_DIGITS)) (sRaise "BadText") sNx)) (a.map fun c => tx [c])
    [some (.dat s), some (.dat (tx a)), none, none, none, none] [] = .nx [some (.dat s), some (.dat (tx a)), x, none, none, none] [] := by
  obtain ⟨ρ', S', e, rfl, x, rfl⟩ := forD_inv (body := turn (gN 2) (sIf (tBin (gInX true) (eVar 2) (eC k_DIGITS)) (sRaise "BadText") sNx)) (a.map fun c => tx [c]) (fun _ ρ S => S = [] ∧ ∃ x, ρ = [some (.dat s), some (.dat (tx a)), x, none, none, none]) [some (.dat s), some (.dat (tx a)), none, none, none, none] [] ⟨rfl, none, rfl⟩ (by
    rintro k d ρ S hk ⟨rfl, x, rfl⟩
    obtain ⟨c, hc, rfl⟩ := List.mem_map.mp (List.mem_of_getElem? hk)
    have m := dig_mem (hd c hc)
    refine ⟨_, _, .inl ?_, rfl, some (.dat (tx [c])), rfl⟩
    nomatch "e", k_DIGITS_e, gNin_t, m)
  exact ⟨x, e⟩
theorem read_loop {a : List Nat} (hd : AllDigits a) (hl : a.length ≤ 10000) {r n : Nat} (hr : a.length = r + n * 64) (s : D) (x y : Option AV) {v0 : Int} (hv : v0 = ((digitsVal (a.take r) : Nat) : Int)) :
    ∃ z, forD (turn (gN 5) (sSet 4 (eBin gAdd (eBin gMul (eVar 4) (eC k_BASE)) (eAp (g1 gInt) (aCons (eSl gSl (eVar 1) (oSome (eVar 5)) (oSome (eBin gAdd (eVar 5) (eC (.int 64))))) aNil))))) (rangeD (r : Nat) 64 n)
      [some (.dat s), some (.dat (tx a)), x, y, some (.dat (.int v0)), none] [] = .nx [some (.dat s), some (.dat (tx a)), x, y, some (.dat (.int (digitsVal a : Nat))), z] [] := by
  have z := forD_inv (body := turn (gN 5) (sSet 4 (eBin gAdd (eBin gMul (eVar 4) (eC k_BASE)) (eAp (g1 gInt) (aCons (eSl gSl (eVar 1) (oSome (eVar 5)) (oSome (eBin gAdd (eVar 5) (eC (.int 64))))) aNil))))) (rangeD (r : Nat) 64 n)
    (fun k ρ S => S = [] ∧ ∃ z, ρ = [some (.dat s), some (.dat (tx a)), x, y, some (.dat (.int (digitsVal (a.take (r + k * 64)) : Nat))), z]) [some (.dat s), some (.dat (tx a)), x, y, some (.dat (.int v0)), none] [] ⟨rfl, none, by rw [Nat.zero_mul, Nat.add_zero, hv]⟩ (by
    rintro k d ρ S hk ⟨rfl, z, rfl⟩
    obtain ⟨hk, rfl⟩ := rangeD_some hk
    have hb : r + k * 64 + 64 ≤ a.length := by omega
    have e0 : ((r : Nat) : Int) + ((k : Nat) : Int) * 64 = ((r + k * 64 : Nat) : Int) := by omega
    have sl := gSl_mid (a := a) (i := ((r + k * 64 : Nat) : Int)) (j := ((r + k * 64 : Nat) : Int) + 64) (by omega) (by omega) (by omega) (by omega)
    have e1 : (((r + k * 64 : Nat) : Int) + 64 - ((r + k * 64 : Nat) : Int)).toNat = 64 := by omega
    rw [e1, Int.toNat_natCast] at sl
    have hlen : ((a.drop (r + k * 64)).take 64).length = 64 := by rw [List.length_take, List.length_drop]; omega
    have gi := gInt_t (a := (a.drop (r + k * 64)).take 64) (AllDigits.take (AllDigits.drop hd _) _) (fun e => by rw [e] at hlen; simp at hlen) (by omega)
    have hlt := val_lt (AllDigits.take hd (r + k * 64))
    have gm := gMul_ii (mulOk_big (m := 10 ^ 64) hlt (by decide) (by rw [List.length_take]; omega))
    refine ⟨_, _, .inl ?_, rfl, some (.dat (.int ((r + k * 64 : Nat) : Int))), rfl⟩
    rw [e0]
    have vs := val_take_step (t := a) (i := r + k * 64) (c := 64) hb
    have e2 : ((digitsVal (a.take (r + k * 64)) : Nat) : Int) * ((10 ^ 64 : Nat) : Int) + ((digitsVal ((a.drop (r + k * 64)).take 64) : Nat) : Int) = ((digitsVal (a.take (r + (k + 1) * 64)) : Nat) : Int) := by
      rw [show r + (k + 1) * 64 = r + k * 64 + 64 by omega, vs, Int.natCast_add, Int.natCast_mul]
    nomatch "e", k_BASE_e, sl, gi, gm, e2)
  obtain ⟨ρ', S', e, rfl, z, rfl⟩ := z
  rw [rangeD_len, ← hr, List.take_length] at e
  exact ⟨z, e⟩
/-- what stands behind the checks -/
theorem read_tail {a : List Nat} (hd : AllDigits a) (hne : a ≠ []) (hl : a.length ≤ 10000) {c : Nat} {q : List Nat} {neg : Bool} (hq : (c :: q).length ≤ 16777216) (hn : decide ([c] = [45]) = neg) :
    retS ((sSeq (sFor (iSeq (eVar 1)) (gN 2)
(sIf (tBin (gInX true) (eVar 2) (eC k_DIGITS)) (sRaise "BadText")
sNx))
(sSeq (sSet 3 (eBin gMod (eAp (g1 gLen) (aCons (eVar 1) aNil)) (eC (.int 64))))
(sSeq (sSet 4 (eC (.int 0)))
(sSeq (sIf (tBin gGt (eVar 3) (eC (.int 0))) (sSet 4 (eAp (g1 gInt) (aCons (eSl gSl (eVar 1) oNone (oSome (eVar 3))) aNil)))
sNx)
(sSeq (sFor (iRange (aCons (eVar 3) (aCons (eAp (g1 gLen) (aCons (eVar 1) aNil)) (aCons (eC (.int 64)) aNil)))) (gN 5)
(sSet 4 (eBin gAdd (eBin gMul (eVar 4) (eC k_BASE)) (eAp (g1 gInt) (aCons (eSl gSl (eVar 1) (oSome (eVar 5)) (oSome (eBin gAdd (eVar 5) (eC (.int 64))))) aNil)))))
(sSeq (sIf (tBin gEq (eBin gIx (eVar 0) (eC (.int 0))) (eC (.str "-"))) (sRet (eUn gNeg (eVar 4)))
sNx)
(sRet (eVar 4)))))))) [some (.dat (tx (c :: q))), some (.dat (tx a)), none, none, none, none] []) 0 = .ok (.dat (.int (if neg then -((digitsVal a : Nat) : Int) else (digitsVal a : Nat)))) [] := by
  have hm : ((a.length : Nat) : Int) % 64 = ((a.length % 64 : Nat) : Int) := by omega
  have gl := gLen_t' (a := a) (by omega)
  have hr : a.length = a.length % 64 + a.length / 64 * 64 := by omega
  generalize hrr : a.length % 64 = r at hm hr
  generalize a.length / 64 = n at hr
  have rg := iRg_4 (i := r) (n := n) (c := 64) (S := []) (j := (a.length : Nat)) (z := 64) rfl (by omega) (by omega) (by omega) (by omega) (by omega)
  obtain ⟨x, cl⟩ := chars_loop hd (tx (c :: q))
  have lp := fun v0 hv => read_loop hd hl hr (tx (c :: q)) x (some (.dat (.int (r : Nat)))) (v0 := v0) hv
  have gx := gIx_t0 hq
  by_cases h0 : (0 : Int) < (r : Nat)
  · have sl := gSl_to (a := a) (i := (r : Nat)) (by omega) (by omega)
    rw [Int.toNat_natCast] at sl
    have hlen : (a.take r).length = r := by rw [List.length_take]; omega
    have gi := gInt_t (a := a.take r) (AllDigits.take hd _) (fun e => by rw [e] at hlen; simp at hlen; omega) (by omega)
    obtain ⟨z, lp⟩ := lp _ rfl
    cases neg
    · nomatch "e", chars_S, cl, gl, hm, gMod_ii, h0, sl, gi, rg, lp, gx, lit_min, S_eq_iff, hn
      rfl
    · nomatch "e", chars_S, cl, gl, hm, gMod_ii, h0, sl, gi, rg, lp, gx, lit_min, S_eq_iff, hn
      rfl
  · have hz : r = 0 := by omega
    subst hz
    obtain ⟨z, lp⟩ := lp 0 (by rw [List.take_zero]; rfl)
    cases neg
    · nomatch "e", chars_S, cl, gl, hm, gMod_ii, h0, rg, lp, gx, lit_min, S_eq_iff, hn
      rfl
    · nomatch "e", chars_S, cl, gl, hm, gMod_ii, h0, rg, lp, gx, lit_min, S_eq_iff, hn
      rfl

theorem read_pos {a : List Nat} (hd : AllDigits a) (hl : a.length ≤ 10000) {c : Nat} {r : List Nat} (e : a = c :: r) (hz : c = 48 → r = []) : m_read_integer [.dat (tx a)] [] = .ok (.dat (.int (digitsVal a : Nat))) [] := by
  have hc := hd c (by rw [e]; exact List.mem_cons_self ..)
  have rt := read_tail (neg := false) hd (by rw [e]; exact List.cons_ne_nil _ _) hl (c := c) (q := r) (by rw [← e]; omega) (decide_eq_false (by intro h; cases h; omega))
  unfold m_read_integer b_read_integer runF
  have sl := gSl_to (a := a) (i := 1) (by omega) (by omega)
  have e1 : a.take (1 : Int).toNat = [c] := by rw [e]; rfl
  rw [e1] at sl
  have h45 : ¬ ([c] = [45]) := by intro h; cases h; omega
  have gx := gIx_t0 (c := c) (r := r) (by rw [← e]; omega)
  subst e
  rw [if_neg Bool.false_ne_true] at rt
  refine Eq.trans ?_ rt
  by_cases h48 : c = 48
  · have := hz h48
    subst this h48
    nomatch "e", sl, lit_min, lit_0, lit_nil, S_eq_iff, h45, gx
  · have h48' : ¬ [c] = [48] := by intro h; cases h; omega
    nomatch "e", sl, lit_min, lit_0, lit_nil, S_eq_iff, h45, gx, h48'
theorem read_neg {a : List Nat} (hd : AllDigits a) (hl : a.length ≤ 9999) {c : Nat} {r : List Nat} (e : a = c :: r) (hz : c ≠ 48) : m_read_integer [.dat (tx (45 :: a))] [] = .ok (.dat (.int (-((digitsVal a : Nat) : Int)))) [] := by
  have rt := read_tail (neg := true) hd (by rw [e]; exact List.cons_ne_nil _ _) (by omega) (c := 45) (q := a) (by rw [List.length_cons]; omega) rfl
  unfold m_read_integer b_read_integer runF
  have sl := gSl_to (a := 45 :: a) (i := 1) (by rw [List.length_cons]; omega) (by omega)
  have e1 : (45 :: a).take (1 : Int).toNat = [45] := rfl
  rw [e1] at sl
  have sf := gSl_from (a := 45 :: a) (i := 1) (by rw [List.length_cons]; omega) (by omega)
  have e2 : (45 :: a).drop (1 : Int).toNat = a := rfl
  rw [e2] at sf
  have gx := gIx_t0 (c := c) (r := r) (by rw [← e]; omega)
  subst e
  have h48' : ¬ [c] = [48] := by intro h; cases h; omega
  rw [if_pos rfl] at rt
  refine Eq.trans ?_ rt
  nomatch "e", sl, sf, lit_min, lit_0, lit_nil, S_eq_iff, gx, h48'
end Lw

set_option Elab.async false
set_option linter.all false
set_option maxRecDepth 100000
set_option maxHeartbeats 8000000
namespace Lw
open PySem PySem.Spec PyProof.Rows L2 Ew
local macro_rules | `(tactic| nomatch "w", $ts,*) => `(tactic| simp only [R_bind_ok, R_bind_exc, R_bind_bad, R_toB_ok, R_toB_exc, R_toB_bad, R_toA_ok, R_toA_exc, R_toA_bad, RA_bind_ok, RA_bind_exc, RA_bind_bad, RA_toR_ok, RA_toR_exc, RA_toR_bad, RA_toI_ok, RA_toI_exc, RA_toI_bad, RB_toR_ok, RB_toR_exc, RB_toR_bad, RB_bind_ok, RB_bind_exc, RB_bind_bad, R_toI_ok, R_toI_exc, R_toI_bad, RO_toR_ok, RO_toR_exc, RO_toR_bad, R_toS_ok, R_toS_exc, R_toS_bad, RB_toS_ok, RB_toS_exc, RB_toS_bad, RI_toS_ok, RI_toS_exc, RI_toS_bad, sSeq_e, SR_seq_nx, SR_seq_rt, SR_seq_bk, SR_seq_ct, SR_seq_exc, SR_seq_bad, sNx_e, sBk_e, sCt_e, sBad_e, sRetN_e, sSet_e, sSetK_e, fz1_d, fz1_o, fz1_n, toD_l, toD_d, toD_f, live_l, live_d, sSetO_e, sSetOK_n, sSetOK_d, sSetOK_o, sDrop_e, sDropK_e, sRet_e, sRetK_e, sIf_e, sIfK_t, sIfK_f, sFor_e, sForK_e, turn_e, turnK_s, gN_e, gT_e, gT_l, gsCons_e, gsK_s, gsNil_e, sPut_e, sPutK1_e, sPutK2_e, sPutK3_e, sPutK4_e, apP_e, apPK_e, apPL_e, sUnp_e, sUnpK_e, sUnpL_e, unpV_d, sUnpM_e, sAug_e, sAugJ_e, sAugK_e, sAugL_e, sAugM_e, clB_0, clB_l, clB_d, clB_f, frz_d, frz_n, frz_o, frzK_e, frzs_nil, frzs_c, frzsK_e, frzsL_e, view_d, view_o, viewK_e, view_n, views_nil, views_c, viewsK_e, viewsL_e, eVar_e, eVarK_d, eVarK_o, eC_e, apR_d, apR_o, ap2_e, ap2V_e, eBin_e, eBinK_e, eBinL_e, tBin_e, tBinK_e, tBinL_e, bl2_e, bl2V_e, blR_e, eUn_e, un1_e, un1V_e, tVal_e, tru_e, truV_e, truW_e, truth_n, truth_b, truth_i, truth_t, truth_l, tNt_e, tNtK_e, tAn_e, tAnK_t, tAnK_f, tO_e, tOK_t, tOK_f, tY_e, eAnd_e, eAndK_t, eAndK_f, eOr_e, eOrK_f, eOrK_t, eNot_e, eNotK_e, eIf_e, eIfK_t, eIfK_f, aNil_e, aCons_e, aConsK_e, aConsL_e, eAp_e, ap_e, apV_e, g1_e, g2_e, eMt_e, eMtK_e, eMtV_e, eMtT_e, eMtL_e, apM_e, apMV_e, m1_e, m0_e, tyD_s, tyD_l, eMt0_e, eMt0K_e, eMt0V_e, eMt0T_e, eMu_e, eMuK_e, eMuV_e, eMuT_e, eMuL_e, tyO_l, tyO_d, apU_e, apUK_e, apUL_e, apUM_e, u1_e, u0_e, eMu0_e, eMu0K_e, eMu0V_e, eMu0T_e, eTup_e, eLst_e, mkT_e, mkL_e, mkTK_0, mkLK_0, mkTK_1, mkLK_1, mkTK_2, mkLK_2, mkTK_3, mkLK_3, mkTK_4, mkLK_4, mkTK_5, mkLK_5, mkTK_6, mkLK_6, mkTK_7, mkLK_7, mkTK_8, mkLK_8, oNone_e, oSome_e, oSomeK_e, eSl_e, eSlK_e, eSlL_e, eSlM_e, apS_e, apSV_e, iSeq_e, iSeqK_e, iSeqV_e, iSeqL_e, items_l, items_t, items_s, iRange_e, gAdd_ii, gSub_ii, gNeg_i, gAbs_i, gInt_i, gLt_ii, gLt_ss, gLe_ii, gLe_ss, gGt_ii, gGt_ss, gGe_ii, gGe_ss, gEq_ii, gNe_ii, gEq_ss, gNe_ss, gLen_l, gLen_t, gList_s, gList_l, gList_t, gTuple_l, gTuple_t, gIx_l, gIx_t, optD_e, atI_lit, gSet_l, gSetLK_e, List.getElem?_cons_zero, List.getElem?_cons_succ, List.getElem?_nil, List.set_cons_zero, List.set_cons_succ, List.length_cons, List.length_nil, List.map_cons, List.map_nil, List.cons_append, List.nil_append, Nat.zero_add, Nat.add_zero, Nat.reduceAdd, Nat.reduceSub, Nat.sub_self, Nat.reduceLT, Nat.reduceLeDiff, Int.reduceLT, Int.reduceLE, Int.reduceNeg, Int.reduceEq, decide_true, decide_false, ixN_lit, List.set_nil, List.replicate, Int.reduceAdd, Int.reduceSub, reduceCtorEq, Bool.not_true, Bool.not_false, List.take_succ_cons, List.take_zero, List.take_nil, clB_ao, wk_e, exq_e, Wp_ok, Wp_exc, Wp_bad, WpB_ok, WpB_exc, WpB_bad, WpA_ok, WpA_exc, WpA_bad, WpI_ok, WpI_exc, WpI_bad, WpO_ok, WpO_exc, WpO_bad, Ws_nx, Ws_rt, Ws_bk, Ws_ct, Ws_exc, Ws_bad, seq_nx, seq_rt, seq_bk, seq_ct, seq_ex, Wp_bind, Wp_toR, Wp_BtoR, Wp_OtoR, WpB_toB, WpB_bind, WpA_toA, WpA_bind, WpI_toI, WpI_AtoI, Ws_toS, Ws_BtoS, Ws_ItoS, Ws_seq, oSq_e, WpO_s, Wp_retS, rtP_nx, rtP_rt, rtP_ex, retS_d, retS_n, retS_o, retS_p, retO_f, retO_l, retO_d, runF_e, cfR_nil, cfR_d, cfR_n, cfR_o, idx_0, idx_s, hs_nil, hs_d, hs_n, hs_o, callF_e, cf1_e, cutR_e, cutX_e, nodB_0, nodB_1, nodB_2, nodB_3, pick_0, pick_c, pickK_e, put_c, put_n, cf2_d, cf2_n, cf2_o, cf2O_e, cf2_x, cfQ_e, cfE_e, Wp_cf2, eCall_k, callK_e, fzQ_d, fzQ_n, lcG_y, eLc_e, eLcI_e, wipeA_nil, wipeA_c, eDnew_e, Nat.reduceBEq, Nat.reduceSub, eGet2_e, eGetI_e, eGetJ_e, eGetK_e, eGetL_e, forP_nx, forP_ct, forP_bk, forP_rt, forP_ex, forP_exq, seq_exq, rtP_exq, cfE_NE, eLcW_e, Wp_eLcI, cutP_nx, cutP_rt, cutP_bk, cutP_ct, cutP_ex, cutP_exq, Int.cast_ofNat_Int, List.length_map, $[$ts:term],*])
local macro_rules | `(tactic| nomatch "w") => `(tactic| simp only [R_bind_ok, R_bind_exc, R_bind_bad, R_toB_ok, R_toB_exc, R_toB_bad, R_toA_ok, R_toA_exc, R_toA_bad, RA_bind_ok, RA_bind_exc, RA_bind_bad, RA_toR_ok, RA_toR_exc, RA_toR_bad, RA_toI_ok, RA_toI_exc, RA_toI_bad, RB_toR_ok, RB_toR_exc, RB_toR_bad, RB_bind_ok, RB_bind_exc, RB_bind_bad, R_toI_ok, R_toI_exc, R_toI_bad, RO_toR_ok, RO_toR_exc, RO_toR_bad, R_toS_ok, R_toS_exc, R_toS_bad, RB_toS_ok, RB_toS_exc, RB_toS_bad, RI_toS_ok, RI_toS_exc, RI_toS_bad, sSeq_e, SR_seq_nx, SR_seq_rt, SR_seq_bk, SR_seq_ct, SR_seq_exc, SR_seq_bad, sNx_e, sBk_e, sCt_e, sBad_e, sRetN_e, sSet_e, sSetK_e, fz1_d, fz1_o, fz1_n, toD_l, toD_d, toD_f, live_l, live_d, sSetO_e, sSetOK_n, sSetOK_d, sSetOK_o, sDrop_e, sDropK_e, sRet_e, sRetK_e, sIf_e, sIfK_t, sIfK_f, sFor_e, sForK_e, turn_e, turnK_s, gN_e, gT_e, gT_l, gsCons_e, gsK_s, gsNil_e, sPut_e, sPutK1_e, sPutK2_e, sPutK3_e, sPutK4_e, apP_e, apPK_e, apPL_e, sUnp_e, sUnpK_e, sUnpL_e, unpV_d, sUnpM_e, sAug_e, sAugJ_e, sAugK_e, sAugL_e, sAugM_e, clB_0, clB_l, clB_d, clB_f, frz_d, frz_n, frz_o, frzK_e, frzs_nil, frzs_c, frzsK_e, frzsL_e, view_d, view_o, viewK_e, view_n, views_nil, views_c, viewsK_e, viewsL_e, eVar_e, eVarK_d, eVarK_o, eC_e, apR_d, apR_o, ap2_e, ap2V_e, eBin_e, eBinK_e, eBinL_e, tBin_e, tBinK_e, tBinL_e, bl2_e, bl2V_e, blR_e, eUn_e, un1_e, un1V_e, tVal_e, tru_e, truV_e, truW_e, truth_n, truth_b, truth_i, truth_t, truth_l, tNt_e, tNtK_e, tAn_e, tAnK_t, tAnK_f, tO_e, tOK_t, tOK_f, tY_e, eAnd_e, eAndK_t, eAndK_f, eOr_e, eOrK_f, eOrK_t, eNot_e, eNotK_e, eIf_e, eIfK_t, eIfK_f, aNil_e, aCons_e, aConsK_e, aConsL_e, eAp_e, ap_e, apV_e, g1_e, g2_e, eMt_e, eMtK_e, eMtV_e, eMtT_e, eMtL_e, apM_e, apMV_e, m1_e, m0_e, tyD_s, tyD_l, eMt0_e, eMt0K_e, eMt0V_e, eMt0T_e, eMu_e, eMuK_e, eMuV_e, eMuT_e, eMuL_e, tyO_l, tyO_d, apU_e, apUK_e, apUL_e, apUM_e, u1_e, u0_e, eMu0_e, eMu0K_e, eMu0V_e, eMu0T_e, eTup_e, eLst_e, mkT_e, mkL_e, mkTK_0, mkLK_0, mkTK_1, mkLK_1, mkTK_2, mkLK_2, mkTK_3, mkLK_3, mkTK_4, mkLK_4, mkTK_5, mkLK_5, mkTK_6, mkLK_6, mkTK_7, mkLK_7, mkTK_8, mkLK_8, oNone_e, oSome_e, oSomeK_e, eSl_e, eSlK_e, eSlL_e, eSlM_e, apS_e, apSV_e, iSeq_e, iSeqK_e, iSeqV_e, iSeqL_e, items_l, items_t, items_s, iRange_e, gAdd_ii, gSub_ii, gNeg_i, gAbs_i, gInt_i, gLt_ii, gLt_ss, gLe_ii, gLe_ss, gGt_ii, gGt_ss, gGe_ii, gGe_ss, gEq_ii, gNe_ii, gEq_ss, gNe_ss, gLen_l, gLen_t, gList_s, gList_l, gList_t, gTuple_l, gTuple_t, gIx_l, gIx_t, optD_e, atI_lit, gSet_l, gSetLK_e, List.getElem?_cons_zero, List.getElem?_cons_succ, List.getElem?_nil, List.set_cons_zero, List.set_cons_succ, List.length_cons, List.length_nil, List.map_cons, List.map_nil, List.cons_append, List.nil_append, Nat.zero_add, Nat.add_zero, Nat.reduceAdd, Nat.reduceSub, Nat.sub_self, Nat.reduceLT, Nat.reduceLeDiff, Int.reduceLT, Int.reduceLE, Int.reduceNeg, Int.reduceEq, decide_true, decide_false, ixN_lit, List.set_nil, List.replicate, Int.reduceAdd, Int.reduceSub, reduceCtorEq, Bool.not_true, Bool.not_false, List.take_succ_cons, List.take_zero, List.take_nil, clB_ao, wk_e, exq_e, Wp_ok, Wp_exc, Wp_bad, WpB_ok, WpB_exc, WpB_bad, WpA_ok, WpA_exc, WpA_bad, WpI_ok, WpI_exc, WpI_bad, WpO_ok, WpO_exc, WpO_bad, Ws_nx, Ws_rt, Ws_bk, Ws_ct, Ws_exc, Ws_bad, seq_nx, seq_rt, seq_bk, seq_ct, seq_ex, Wp_bind, Wp_toR, Wp_BtoR, Wp_OtoR, WpB_toB, WpB_bind, WpA_toA, WpA_bind, WpI_toI, WpI_AtoI, Ws_toS, Ws_BtoS, Ws_ItoS, Ws_seq, oSq_e, WpO_s, Wp_retS, rtP_nx, rtP_rt, rtP_ex, retS_d, retS_n, retS_o, retS_p, retO_f, retO_l, retO_d, runF_e, cfR_nil, cfR_d, cfR_n, cfR_o, idx_0, idx_s, hs_nil, hs_d, hs_n, hs_o, callF_e, cf1_e, cutR_e, cutX_e, nodB_0, nodB_1, nodB_2, nodB_3, pick_0, pick_c, pickK_e, put_c, put_n, cf2_d, cf2_n, cf2_o, cf2O_e, cf2_x, cfQ_e, cfE_e, Wp_cf2, eCall_k, callK_e, fzQ_d, fzQ_n, lcG_y, eLc_e, eLcI_e, wipeA_nil, wipeA_c, eDnew_e, Nat.reduceBEq, Nat.reduceSub, eGet2_e, eGetI_e, eGetJ_e, eGetK_e, eGetL_e, forP_nx, forP_ct, forP_bk, forP_rt, forP_ex, forP_exq, seq_exq, rtP_exq, cfE_NE, eLcW_e, Wp_eLcI, cutP_nx, cutP_rt, cutP_bk, cutP_ct, cutP_ex, cutP_exq, Int.cast_ofNat_Int, List.length_map])
open PySem.NumText (digitsVal AllDigits)
open TL (numL)

/-! ### texts that are no integers -/
def bad : Exn := ⟨"BadText", []⟩
theorem sRaise_w {P : Po} {x : Str} {ρ : AE} {S : SS} : Ws P (sRaise x ρ S) = P.ex ⟨x, []⟩ ρ S := Ws_exc
theorem exc_eq {x0 : Exn} {S0 : SS} {r : R} (h : Wp (fun x S => x = x0 ∧ S = S0) (fun _ _ => False) r) : r = .exc x0 S0 := by
  cases r with
  | ok a S => exact h.run.elim
  | exc x S => obtain ⟨rfl, rfl⟩ := h.run; rfl
  | bad => exact h.run.elim
def dg : List Nat → List Nat
  | 45 :: r => r
  | a => a
def isD (c : Nat) : Bool := decide (48 ≤ c) && decide (c ≤ 57)
/-- written as an integer is -/
def canB (a : List Nat) : Bool := match dg a with
  | [] => false
  | c :: r => (!decide (c = 48) || decide (a = [48])) && (c :: r).all isD
def intV : List Nat → Int
  | 45 :: r => -((digitsVal r : Nat) : Int)
  | a => (digitsVal a : Nat)
theorem isD_mem {c : Nat} : decide (c ∈ [48, 49, 50, 51, 52, 53, 54, 55, 56, 57]) = isD c := by
  unfold isD
  by_cases h : 48 ≤ c ∧ c ≤ 57
  · rw [decide_eq_true (dig_mem h), decide_eq_true h.1, decide_eq_true h.2]; rfl
  · rw [decide_eq_false]
    · by_cases h1 : 48 ≤ c
      · rw [decide_eq_true h1, decide_eq_false (show ¬ c ≤ 57 by omega)]; rfl
      · rw [decide_eq_false h1]; rfl
    · simp only [List.mem_cons, List.not_mem_nil, or_false]; omega
theorem all_isD {a : List Nat} : a.all isD = true ↔ AllDigits a := by
  rw [List.all_eq_true]
  constructor
  · intro h c hc
    have := h c hc
    unfold isD at this
    rw [Bool.and_eq_true] at this
    exact ⟨of_decide_eq_true this.1, of_decide_eq_true this.2⟩
  · intro h c hc
    have := h c hc
    unfold isD
    rw [decide_eq_true this.1, decide_eq_true this.2]; rfl
theorem DIG_e : (("0123456789" : String) : Str) = SX.S [48, 49, 50, 51, 52, 53, 54, 55, 56, 57] := rfl
theorem gNin_d {c : Nat} : gInX true (tx [c]) k_DIGITS = some (.dt (.bl (!isD c))) := by
  rw [k_DIGITS_e, gNin_t, isD_mem]
theorem gIn_d {c : Nat} : gInX false (tx [c]) (.str "0123456789") = some (.dt (.bl (isD c))) := by
  rw [DIG_e]
  show gInX false (tx [c]) (tx _) = _
  rw [gIn_t, isD_mem]
/-- the loop that raises -/
theorem bad_loop {P : Po} {d : List Nat} {s : D} (h : d.all isD = false) (hx : ∀ y, P.ex bad [some (.dat s), some (.dat (tx d)), y, none, none, none] []) : Ws P (forD (turn (gN 2) (sIf (tBin (gInX true) (eVar 2) (eC k_DIGITS)) (sRaise "BadText") sNx)) (d.map fun c => tx [c]) [some (.dat s), some (.dat (tx d)), none, none, none, none] []) := by
  refine for_w1 2 rfl (fun k y S => S = [] ∧ (d.take k).all isD = true) ⟨rfl, rfl⟩ ?_ ?_
  · rintro k e y S hk ⟨rfl, hall⟩
    rw [List.getElem?_map] at hk
    cases hc : d[k]? with
    | none => rw [hc] at hk; cases hk
    | some c =>
    rw [hc] at hk
    cases hk
    cases hd : isD c with
    | true =>
      nomatch "w", gNin_d, hd, Bool.not_true
      refine ⟨_, by first | exact True.intro | rfl, by trivial, ?_⟩
      rw [List.take_succ, hc, List.all_append, hall]
      show (true && [c].all isD) = true
      rw [List.all_cons, hd]; rfl
    | false =>
      nomatch "w", gNin_d, hd, Bool.not_false, sRaise_w
      exact hx _
  · rintro y S ⟨rfl, hall⟩
    rw [List.length_map, List.take_length, h] at hall
    cases hall
theorem t45 {a : List Nat} (hl : a.length ≤ 9999) : gSl (tx a) none (some 1) = some (.dt (tx (a.take 1))) := gSl_to (by omega) (by omega)
theorem read_bad {a : List Nat} (hl : a.length ≤ 9999) (h : canB a = false) : m_read_integer [.dat (tx a)] [] = .exc bad [] := by
  refine exc_eq ?_
  unfold m_read_integer b_read_integer
  have sl := t45 hl
  cases a with
  | nil =>
    have t1 : ([] : List Nat).take 1 = [] := rfl
    have n1 : ¬ ([] : List Nat) = [45] := by decide
    rw [t1] at sl
    nomatch "w", sl, lit_min, lit_nil, S_eq_iff, n1, decide_false, decide_true, sRaise_w
    exact ⟨by trivial, by trivial⟩
  | cons c r =>
    have t1 : (c :: r).take 1 = [c] := rfl
    rw [t1] at sl
    by_cases h45 : c = 45
    · subst h45
      have sf := gSl_from (a := 45 :: r) (i := 1) (by rw [List.length_cons] at *; omega) (by omega)
      have e2 : (45 :: r).drop (1 : Int).toNat = r := rfl
      rw [e2] at sf
      have y1 : ([45] : List Nat) = [45] := rfl
      cases r with
      | nil =>
        nomatch "w", sl, sf, lit_min, lit_nil, S_eq_iff, y1, decide_true, sRaise_w
        exact ⟨by trivial, by trivial⟩
      | cons c r =>
        have gx := gIx_t0 (c := c) (r := r) (by rw [List.length_cons, List.length_cons] at hl; rw [List.length_cons]; omega)
        have n1 : ¬ (c :: r : List Nat) = [] := List.cons_ne_nil _ _
        by_cases h48 : c = 48
        · subst h48
          have n2 : ¬ (45 :: 48 :: r : List Nat) = [48] := by intro z; cases z
          nomatch "w", sl, sf, gx, lit_min, lit_nil, lit_0, S_eq_iff, y1, n1, n2, decide_true, decide_false, Bool.not_false, sRaise_w
          exact ⟨by trivial, by trivial⟩
        · have n2 : ¬ ([c] : List Nat) = [48] := by intro z; cases z; exact h48 rfl
          have hd : (c :: r).all isD = false := by
            have h : ((!decide (c = 48) || decide ((45 :: c :: r : List Nat) = [48])) && (c :: r).all isD) = false := h
            rw [decide_eq_false h48] at h
            exact h
          nomatch "w", sl, sf, gx, lit_min, lit_nil, lit_0, S_eq_iff, y1, n1, n2, decide_true, decide_false, chars_S
          exact bad_loop hd fun y => by nomatch "w"; exact ⟨by trivial, by trivial⟩
    · have n0 : ¬ ([c] : List Nat) = [45] := by intro z; cases z; exact h45 rfl
      have gx := gIx_t0 (c := c) (r := r) (by omega)
      have n1 : ¬ (c :: r : List Nat) = [] := List.cons_ne_nil _ _
      have ed : dg (c :: r) = c :: r := by unfold dg; split <;> first | rfl | (rename_i z; cases z; exact absurd rfl h45)
      have h : ((!decide (c = 48) || decide ((c :: r : List Nat) = [48])) && (c :: r).all isD) = false := by
        have z := h
        unfold canB at z
        rw [ed] at z
        exact z
      by_cases h48 : c = 48
      · subst h48
        by_cases hr : r = []
        · subst hr; cases h
        · have n2 : ¬ (48 :: r : List Nat) = [48] := by intro z; cases z; exact hr rfl
          nomatch "w", sl, gx, lit_min, lit_nil, lit_0, S_eq_iff, n0, n1, n2, decide_true, decide_false, Bool.not_false, sRaise_w
          exact ⟨by trivial, by trivial⟩
      · have n2 : ¬ ([c] : List Nat) = [48] := by intro z; cases z; exact h48 rfl
        have hd : (c :: r).all isD = false := by
          rw [decide_eq_false h48] at h
          exact h
        nomatch "w", sl, gx, lit_min, lit_nil, lit_0, S_eq_iff, n0, n1, n2, decide_true, decide_false, chars_S
        exact bad_loop hd fun y => by nomatch "w"; exact ⟨by trivial, by trivial⟩
end Lw

set_option Elab.async false
set_option linter.all false
set_option maxRecDepth 100000
set_option maxHeartbeats 8000000
namespace Lw
open PySem PySem.Spec PyProof.Rows L2 Ew
local macro_rules | `(tactic| nomatch "w", $ts,*) => `(tactic| simp only [R_bind_ok, R_bind_exc, R_bind_bad, R_toB_ok, R_toB_exc, R_toB_bad, R_toA_ok, R_toA_exc, R_toA_bad, RA_bind_ok, RA_bind_exc, RA_bind_bad, RA_toR_ok, RA_toR_exc, RA_toR_bad, RA_toI_ok, RA_toI_exc, RA_toI_bad, RB_toR_ok, RB_toR_exc, RB_toR_bad, RB_bind_ok, RB_bind_exc, RB_bind_bad, R_toI_ok, R_toI_exc, R_toI_bad, RO_toR_ok, RO_toR_exc, RO_toR_bad, R_toS_ok, R_toS_exc, R_toS_bad, RB_toS_ok, RB_toS_exc, RB_toS_bad, RI_toS_ok, RI_toS_exc, RI_toS_bad, sSeq_e, SR_seq_nx, SR_seq_rt, SR_seq_bk, SR_seq_ct, SR_seq_exc, SR_seq_bad, sNx_e, sBk_e, sCt_e, sBad_e, sRetN_e, sSet_e, sSetK_e, fz1_d, fz1_o, fz1_n, toD_l, toD_d, toD_f, live_l, live_d, sSetO_e, sSetOK_n, sSetOK_d, sSetOK_o, sDrop_e, sDropK_e, sRet_e, sRetK_e, sIf_e, sIfK_t, sIfK_f, sFor_e, sForK_e, turn_e, turnK_s, gN_e, gT_e, gT_l, gsCons_e, gsK_s, gsNil_e, sPut_e, sPutK1_e, sPutK2_e, sPutK3_e, sPutK4_e, apP_e, apPK_e, apPL_e, sUnp_e, sUnpK_e, sUnpL_e, unpV_d, sUnpM_e, sAug_e, sAugJ_e, sAugK_e, sAugL_e, sAugM_e, clB_0, clB_l, clB_d, clB_f, frz_d, frz_n, frz_o, frzK_e, frzs_nil, frzs_c, frzsK_e, frzsL_e, view_d, view_o, viewK_e, view_n, views_nil, views_c, viewsK_e, viewsL_e, eVar_e, eVarK_d, eVarK_o, eC_e, apR_d, apR_o, ap2_e, ap2V_e, eBin_e, eBinK_e, eBinL_e, tBin_e, tBinK_e, tBinL_e, bl2_e, bl2V_e, blR_e, eUn_e, un1_e, un1V_e, tVal_e, tru_e, truV_e, truW_e, truth_n, truth_b, truth_i, truth_t, truth_l, tNt_e, tNtK_e, tAn_e, tAnK_t, tAnK_f, tO_e, tOK_t, tOK_f, tY_e, eAnd_e, eAndK_t, eAndK_f, eOr_e, eOrK_f, eOrK_t, eNot_e, eNotK_e, eIf_e, eIfK_t, eIfK_f, aNil_e, aCons_e, aConsK_e, aConsL_e, eAp_e, ap_e, apV_e, g1_e, g2_e, eMt_e, eMtK_e, eMtV_e, eMtT_e, eMtL_e, apM_e, apMV_e, m1_e, m0_e, tyD_s, tyD_l, eMt0_e, eMt0K_e, eMt0V_e, eMt0T_e, eMu_e, eMuK_e, eMuV_e, eMuT_e, eMuL_e, tyO_l, tyO_d, apU_e, apUK_e, apUL_e, apUM_e, u1_e, u0_e, eMu0_e, eMu0K_e, eMu0V_e, eMu0T_e, eTup_e, eLst_e, mkT_e, mkL_e, mkTK_0, mkLK_0, mkTK_1, mkLK_1, mkTK_2, mkLK_2, mkTK_3, mkLK_3, mkTK_4, mkLK_4, mkTK_5, mkLK_5, mkTK_6, mkLK_6, mkTK_7, mkLK_7, mkTK_8, mkLK_8, oNone_e, oSome_e, oSomeK_e, eSl_e, eSlK_e, eSlL_e, eSlM_e, apS_e, apSV_e, iSeq_e, iSeqK_e, iSeqV_e, iSeqL_e, items_l, items_t, items_s, iRange_e, gAdd_ii, gSub_ii, gNeg_i, gAbs_i, gInt_i, gLt_ii, gLt_ss, gLe_ii, gLe_ss, gGt_ii, gGt_ss, gGe_ii, gGe_ss, gEq_ii, gNe_ii, gEq_ss, gNe_ss, gLen_l, gLen_t, gList_s, gList_l, gList_t, gTuple_l, gTuple_t, gIx_l, gIx_t, optD_e, atI_lit, gSet_l, gSetLK_e, List.getElem?_cons_zero, List.getElem?_cons_succ, List.getElem?_nil, List.set_cons_zero, List.set_cons_succ, List.length_cons, List.length_nil, List.map_cons, List.map_nil, List.cons_append, List.nil_append, Nat.zero_add, Nat.add_zero, Nat.reduceAdd, Nat.reduceSub, Nat.sub_self, Nat.reduceLT, Nat.reduceLeDiff, Int.reduceLT, Int.reduceLE, Int.reduceNeg, Int.reduceEq, decide_true, decide_false, ixN_lit, List.set_nil, List.replicate, Int.reduceAdd, Int.reduceSub, reduceCtorEq, Bool.not_true, Bool.not_false, List.take_succ_cons, List.take_zero, List.take_nil, clB_ao, wk_e, exq_e, Wp_ok, Wp_exc, Wp_bad, WpB_ok, WpB_exc, WpB_bad, WpA_ok, WpA_exc, WpA_bad, WpI_ok, WpI_exc, WpI_bad, WpO_ok, WpO_exc, WpO_bad, Ws_nx, Ws_rt, Ws_bk, Ws_ct, Ws_exc, Ws_bad, seq_nx, seq_rt, seq_bk, seq_ct, seq_ex, Wp_bind, Wp_toR, Wp_BtoR, Wp_OtoR, WpB_toB, WpB_bind, WpA_toA, WpA_bind, WpI_toI, WpI_AtoI, Ws_toS, Ws_BtoS, Ws_ItoS, Ws_seq, oSq_e, WpO_s, Wp_retS, rtP_nx, rtP_rt, rtP_ex, retS_d, retS_n, retS_o, retS_p, retO_f, retO_l, retO_d, runF_e, cfR_nil, cfR_d, cfR_n, cfR_o, idx_0, idx_s, hs_nil, hs_d, hs_n, hs_o, callF_e, cf1_e, cutR_e, cutX_e, nodB_0, nodB_1, nodB_2, nodB_3, pick_0, pick_c, pickK_e, put_c, put_n, cf2_d, cf2_n, cf2_o, cf2O_e, cf2_x, cfQ_e, cfE_e, Wp_cf2, eCall_k, callK_e, fzQ_d, fzQ_n, lcG_y, eLc_e, eLcI_e, wipeA_nil, wipeA_c, eDnew_e, Nat.reduceBEq, Nat.reduceSub, eGet2_e, eGetI_e, eGetJ_e, eGetK_e, eGetL_e, forP_nx, forP_ct, forP_bk, forP_rt, forP_ex, forP_exq, seq_exq, rtP_exq, cfE_NE, eLcW_e, Wp_eLcI, cutP_nx, cutP_rt, cutP_bk, cutP_ct, cutP_ex, cutP_exq, Int.cast_ofNat_Int, List.length_map, $[$ts:term],*])
local macro_rules | `(tactic| nomatch "w") => `(tactic| simp only [R_bind_ok, R_bind_exc, R_bind_bad, R_toB_ok, R_toB_exc, R_toB_bad, R_toA_ok, R_toA_exc, R_toA_bad, RA_bind_ok, RA_bind_exc, RA_bind_bad, RA_toR_ok, RA_toR_exc, RA_toR_bad, RA_toI_ok, RA_toI_exc, RA_toI_bad, RB_toR_ok, RB_toR_exc, RB_toR_bad, RB_bind_ok, RB_bind_exc, RB_bind_bad, R_toI_ok, R_toI_exc, R_toI_bad, RO_toR_ok, RO_toR_exc, RO_toR_bad, R_toS_ok, R_toS_exc, R_toS_bad, RB_toS_ok, RB_toS_exc, RB_toS_bad, RI_toS_ok, RI_toS_exc, RI_toS_bad, sSeq_e, SR_seq_nx, SR_seq_rt, SR_seq_bk, SR_seq_ct, SR_seq_exc, SR_seq_bad, sNx_e, sBk_e, sCt_e, sBad_e, sRetN_e, sSet_e, sSetK_e, fz1_d, fz1_o, fz1_n, toD_l, toD_d, toD_f, live_l, live_d, sSetO_e, sSetOK_n, sSetOK_d, sSetOK_o, sDrop_e, sDropK_e, sRet_e, sRetK_e, sIf_e, sIfK_t, sIfK_f, sFor_e, sForK_e, turn_e, turnK_s, gN_e, gT_e, gT_l, gsCons_e, gsK_s, gsNil_e, sPut_e, sPutK1_e, sPutK2_e, sPutK3_e, sPutK4_e, apP_e, apPK_e, apPL_e, sUnp_e, sUnpK_e, sUnpL_e, unpV_d, sUnpM_e, sAug_e, sAugJ_e, sAugK_e, sAugL_e, sAugM_e, clB_0, clB_l, clB_d, clB_f, frz_d, frz_n, frz_o, frzK_e, frzs_nil, frzs_c, frzsK_e, frzsL_e, view_d, view_o, viewK_e, view_n, views_nil, views_c, viewsK_e, viewsL_e, eVar_e, eVarK_d, eVarK_o, eC_e, apR_d, apR_o, ap2_e, ap2V_e, eBin_e, eBinK_e, eBinL_e, tBin_e, tBinK_e, tBinL_e, bl2_e, bl2V_e, blR_e, eUn_e, un1_e, un1V_e, tVal_e, tru_e, truV_e, truW_e, truth_n, truth_b, truth_i, truth_t, truth_l, tNt_e, tNtK_e, tAn_e, tAnK_t, tAnK_f, tO_e, tOK_t, tOK_f, tY_e, eAnd_e, eAndK_t, eAndK_f, eOr_e, eOrK_f, eOrK_t, eNot_e, eNotK_e, eIf_e, eIfK_t, eIfK_f, aNil_e, aCons_e, aConsK_e, aConsL_e, eAp_e, ap_e, apV_e, g1_e, g2_e, eMt_e, eMtK_e, eMtV_e, eMtT_e, eMtL_e, apM_e, apMV_e, m1_e, m0_e, tyD_s, tyD_l, eMt0_e, eMt0K_e, eMt0V_e, eMt0T_e, eMu_e, eMuK_e, eMuV_e, eMuT_e, eMuL_e, tyO_l, tyO_d, apU_e, apUK_e, apUL_e, apUM_e, u1_e, u0_e, eMu0_e, eMu0K_e, eMu0V_e, eMu0T_e, eTup_e, eLst_e, mkT_e, mkL_e, mkTK_0, mkLK_0, mkTK_1, mkLK_1, mkTK_2, mkLK_2, mkTK_3, mkLK_3, mkTK_4, mkLK_4, mkTK_5, mkLK_5, mkTK_6, mkLK_6, mkTK_7, mkLK_7, mkTK_8, mkLK_8, oNone_e, oSome_e, oSomeK_e, eSl_e, eSlK_e, eSlL_e, eSlM_e, apS_e, apSV_e, iSeq_e, iSeqK_e, iSeqV_e, iSeqL_e, items_l, items_t, items_s, iRange_e, gAdd_ii, gSub_ii, gNeg_i, gAbs_i, gInt_i, gLt_ii, gLt_ss, gLe_ii, gLe_ss, gGt_ii, gGt_ss, gGe_ii, gGe_ss, gEq_ii, gNe_ii, gEq_ss, gNe_ss, gLen_l, gLen_t, gList_s, gList_l, gList_t, gTuple_l, gTuple_t, gIx_l, gIx_t, optD_e, atI_lit, gSet_l, gSetLK_e, List.getElem?_cons_zero, List.getElem?_cons_succ, List.getElem?_nil, List.set_cons_zero, List.set_cons_succ, List.length_cons, List.length_nil, List.map_cons, List.map_nil, List.cons_append, List.nil_append, Nat.zero_add, Nat.add_zero, Nat.reduceAdd, Nat.reduceSub, Nat.sub_self, Nat.reduceLT, Nat.reduceLeDiff, Int.reduceLT, Int.reduceLE, Int.reduceNeg, Int.reduceEq, decide_true, decide_false, ixN_lit, List.set_nil, List.replicate, Int.reduceAdd, Int.reduceSub, reduceCtorEq, Bool.not_true, Bool.not_false, List.take_succ_cons, List.take_zero, List.take_nil, clB_ao, wk_e, exq_e, Wp_ok, Wp_exc, Wp_bad, WpB_ok, WpB_exc, WpB_bad, WpA_ok, WpA_exc, WpA_bad, WpI_ok, WpI_exc, WpI_bad, WpO_ok, WpO_exc, WpO_bad, Ws_nx, Ws_rt, Ws_bk, Ws_ct, Ws_exc, Ws_bad, seq_nx, seq_rt, seq_bk, seq_ct, seq_ex, Wp_bind, Wp_toR, Wp_BtoR, Wp_OtoR, WpB_toB, WpB_bind, WpA_toA, WpA_bind, WpI_toI, WpI_AtoI, Ws_toS, Ws_BtoS, Ws_ItoS, Ws_seq, oSq_e, WpO_s, Wp_retS, rtP_nx, rtP_rt, rtP_ex, retS_d, retS_n, retS_o, retS_p, retO_f, retO_l, retO_d, runF_e, cfR_nil, cfR_d, cfR_n, cfR_o, idx_0, idx_s, hs_nil, hs_d, hs_n, hs_o, callF_e, cf1_e, cutR_e, cutX_e, nodB_0, nodB_1, nodB_2, nodB_3, pick_0, pick_c, pickK_e, put_c, put_n, cf2_d, cf2_n, cf2_o, cf2O_e, cf2_x, cfQ_e, cfE_e, Wp_cf2, eCall_k, callK_e, fzQ_d, fzQ_n, lcG_y, eLc_e, eLcI_e, wipeA_nil, wipeA_c, eDnew_e, Nat.reduceBEq, Nat.reduceSub, eGet2_e, eGetI_e, eGetJ_e, eGetK_e, eGetL_e, forP_nx, forP_ct, forP_bk, forP_rt, forP_ex, forP_exq, seq_exq, rtP_exq, cfE_NE, eLcW_e, Wp_eLcI, cutP_nx, cutP_rt, cutP_bk, cutP_ct, cutP_ex, cutP_exq, Int.cast_ofNat_Int, List.length_map])
open PySem.NumText (digitsVal AllDigits)
open TL (numL)

theorem dg_ne {c : Nat} {r : List Nat} (h : c ≠ 45) : dg (c :: r) = c :: r ∧ intV (c :: r) = ((digitsVal (c :: r) : Nat) : Int) := by
  constructor
  · unfold dg; split <;> first | rfl | (rename_i z; cases z; exact absurd rfl h)
  · unfold intV; split <;> first | rfl | (rename_i z; cases z; exact absurd rfl h)
theorem read_ok {a : List Nat} (hl : a.length ≤ 9999) (h : canB a = true) : m_read_integer [.dat (tx a)] [] = .ok (.dat (.int (intV a))) [] := by
  cases a with
  | nil => cases h
  | cons c r =>
    by_cases h45 : c = 45
    · subst h45
      cases r with
      | nil => cases h
      | cons c r =>
        have h : ((!decide (c = 48) || decide ((45 :: c :: r : List Nat) = [48])) && (c :: r).all isD) = true := h
        rw [Bool.and_eq_true] at h
        have hd := all_isD.mp h.2
        have h48 : c ≠ 48 := fun e => by
          subst e
          have := h.1
          rw [decide_eq_true rfl, decide_eq_false (show ¬ (45 :: 48 :: r : List Nat) = [48] by intro z; cases z)] at this
          cases this
        exact read_neg hd (by rw [List.length_cons] at hl; omega) rfl h48
    · obtain ⟨ed, ei⟩ := dg_ne (r := r) h45
      have h : ((!decide (c = 48) || decide ((c :: r : List Nat) = [48])) && (c :: r).all isD) = true := by
        have z := h
        unfold canB at z
        rw [ed] at z
        exact z
      rw [Bool.and_eq_true] at h
      rw [ei]
      exact read_pos (all_isD.mp h.2) (by omega) rfl fun e => by
        subst e
        have := h.1
        rw [decide_eq_true rfl] at this
        have z := of_decide_eq_true (show decide ((48 :: r : List Nat) = [48]) = true from this)
        cases z; rfl
theorem written_e {a : List Nat} (hl : a.length ≤ 9999) : m_law_is_written [.dat (tx a)] [] = .ok (.dat (.bl (canB a))) [] := by
  refine Ret.e ?_
  unfold Ret m_law_is_written b_law_is_written
  have sl := t45 hl
  have fin : ∀ {d : List Nat} {Q : AV → SS → Prop} {ρ : AE} {S : SS}, d.length ≤ 9999 → (∀ c, lcG tY (eBin (gInX false) (eVar 2) (eC (.str "0123456789"))) S (fun _ => False) (fun x S' => x = D.bl (isD c) ∧ S' = S) (gN 2 (tx [c]) ρ)) → Q (.new (.lst (d.map fun c => D.bl (isD c)))) S → Wp NE Q (eLcJ (lcF (gN 2) tY (eBin (gInX false) (eVar 2) (eC (.str "0123456789"))) ρ (d.map fun c => tx [c]) S)) := fun hd hs hq =>
    lc_m _ (fun c => tx [c]) (fun c => D.bl (isD c)) (by omega) (fun c _ => hs c) hq
  cases a with
  | nil =>
    have t1 : ([] : List Nat).take 1 = [] := rfl
    have n1 : ¬ ([] : List Nat) = [45] := by decide
    rw [t1] at sl
    nomatch "w", sl, lit_min, lit_nil, S_eq_iff, n1, decide_false, decide_true
    exact ⟨by trivial, by trivial⟩
  | cons c r =>
    have t1 : (c :: r).take 1 = [c] := rfl
    rw [t1] at sl
    by_cases h45 : c = 45
    · subst h45
      have sf := gSl_from (a := 45 :: r) (i := 1) (by rw [List.length_cons] at *; omega) (by omega)
      have e2 : (45 :: r).drop (1 : Int).toNat = r := rfl
      rw [e2] at sf
      have y1 : ([45] : List Nat) = [45] := rfl
      cases r with
      | nil =>
        nomatch "w", sl, sf, lit_min, lit_nil, S_eq_iff, y1, decide_true
        exact ⟨by trivial, by trivial⟩
      | cons c r =>
        have gx := gIx_t0 (c := c) (r := r) (by rw [List.length_cons, List.length_cons] at hl; rw [List.length_cons]; omega)
        have n1 : ¬ (c :: r : List Nat) = [] := List.cons_ne_nil _ _
        by_cases h48 : c = 48
        · subst h48
          have n2 : ¬ (45 :: 48 :: r : List Nat) = [48] := by intro z; cases z
          have e1 : canB (45 :: 48 :: r) = false := by
            show ((!decide (48 = 48) || decide ((45 :: 48 :: r : List Nat) = [48])) && (48 :: r).all isD) = false
            rw [decide_eq_false n2]; rfl
          nomatch "w", sl, sf, gx, lit_min, lit_nil, lit_0, S_eq_iff, y1, n1, n2, decide_true, decide_false, Bool.not_false
          exact ⟨by rw [e1], by trivial⟩
        · have n2 : ¬ ([c] : List Nat) = [48] := by intro z; cases z; exact h48 rfl
          have e1 : canB (45 :: c :: r) = (c :: r).all isD := by
            show ((!decide (c = 48) || decide ((45 :: c :: r : List Nat) = [48])) && (c :: r).all isD) = _
            rw [decide_eq_false h48]; rfl
          nomatch "w", sl, sf, gx, lit_min, lit_nil, lit_0, S_eq_iff, y1, n1, n2, decide_true, decide_false, chars_S
          have ga : gAll (.lst (D.bl (isD c) :: r.map fun c => D.bl (isD c))) = _ := gAll_map (c :: r) isD
          refine fin (d := c :: r) (by rw [List.length_cons] at hl; omega) (fun c => ?_) ?_
          · nomatch "w", gIn_d; exact ⟨by trivial, by trivial⟩
          nomatch "w", ga
          exact ⟨by rw [e1], by trivial⟩
    · have n0 : ¬ ([c] : List Nat) = [45] := by intro z; cases z; exact h45 rfl
      have gx := gIx_t0 (c := c) (r := r) (by omega)
      have n1 : ¬ (c :: r : List Nat) = [] := List.cons_ne_nil _ _
      obtain ⟨ed, ei⟩ := dg_ne (r := r) h45
      have e0 : canB (c :: r) = ((!decide (c = 48) || decide ((c :: r : List Nat) = [48])) && (c :: r).all isD) := by
        unfold canB
        rw [ed]
      by_cases h48 : c = 48
      · subst h48
        by_cases hr : r = []
        · subst hr
          nomatch "w", sl, gx, lit_min, lit_nil, lit_0, S_eq_iff, n0, n1, decide_true, decide_false, Bool.not_true, chars_S
          refine fin (d := [48]) (by show 1 ≤ _; decide) (fun c => ?_) ?_
          · nomatch "w", gIn_d; exact ⟨by trivial, by trivial⟩
          have ga : gAll (.lst [D.bl (isD 48)]) = _ := gAll_map [48] isD
          nomatch "w", ga
          exact ⟨by rw [e0]; rfl, by trivial⟩
        · have n2 : ¬ (48 :: r : List Nat) = [48] := by intro z; cases z; exact hr rfl
          have e1 : canB (48 :: r) = false := by rw [e0, decide_eq_false n2]; rfl
          nomatch "w", sl, gx, lit_min, lit_nil, lit_0, S_eq_iff, n0, n1, n2, decide_true, decide_false, Bool.not_false
          exact ⟨by rw [e1], by trivial⟩
      · have n2 : ¬ ([c] : List Nat) = [48] := by intro z; cases z; exact h48 rfl
        have e1 : canB (c :: r) = (c :: r).all isD := by rw [e0, decide_eq_false h48]; rfl
        nomatch "w", sl, gx, lit_min, lit_nil, lit_0, S_eq_iff, n0, n1, n2, decide_true, decide_false, chars_S
        have ga : gAll (.lst (D.bl (isD c) :: r.map fun c => D.bl (isD c))) = _ := gAll_map (c :: r) isD
        refine fin (d := c :: r) hl (fun c => ?_) ?_
        · nomatch "w", gIn_d; exact ⟨by trivial, by trivial⟩
        nomatch "w", ga
        exact ⟨by rw [e1], by trivial⟩
theorem integer_e {a : List Nat} (hl : a.length ≤ 9999) (h : canB a = true) : m_law_integer [.dat (tx a)] [] = .ok (.dat (.int (intV a))) [] := by
  refine Ret.e ?_
  unfold Ret m_law_integer b_law_integer
  have sl := t45 hl
  cases a with
  | nil => cases h
  | cons c r =>
    have t1 : (c :: r).take 1 = [c] := rfl
    rw [t1] at sl
    by_cases h45 : c = 45
    · subst h45
      have sf := gSl_from (a := 45 :: r) (i := 1) (by rw [List.length_cons] at *; omega) (by omega)
      have e2 : (45 :: r).drop (1 : Int).toNat = r := rfl
      rw [e2] at sf
      have y1 : ([45] : List Nat) = [45] := rfl
      have hd : r.all isD = true := by
        cases r with
        | nil => cases h
        | cons c r =>
          have h : ((!decide (c = 48) || decide ((45 :: c :: r : List Nat) = [48])) && (c :: r).all isD) = true := h
          rw [Bool.and_eq_true] at h
          exact h.2
      have w := worth_ok (all_isD.mp hd) (by rw [List.length_cons] at hl; omega)
      nomatch "w", sl, sf, lit_min, S_eq_iff, y1, decide_true, w
      exact ⟨by trivial, by trivial⟩
    · have n0 : ¬ ([c] : List Nat) = [45] := by intro z; cases z; exact h45 rfl
      obtain ⟨ed, ei⟩ := dg_ne (r := r) h45
      have hd : (c :: r).all isD = true := by
        unfold canB at h
        rw [ed] at h
        have h : ((!decide (c = 48) || decide ((c :: r : List Nat) = [48])) && (c :: r).all isD) = true := h
        rw [Bool.and_eq_true] at h
        exact h.2
      have w := worth_ok (all_isD.mp hd) (by omega)
      nomatch "w", sl, lit_min, S_eq_iff, n0, decide_false, w
      exact ⟨by rw [ei], by trivial⟩
theorem sTryB_w {P : Po} {x : Str} {b : Bool} {f : AE → SS → SR} {ρ : AE} {S : SS} (h : Ws { P with ex := fun e _ S' => e = ⟨x, []⟩ ∧ P.rt (.dat (.bl b)) S' } (f ρ S)) : Ws P (sTryB x b f ρ S) := by
  unfold sTryB
  cases hr : f ρ S with
  | nx ρ' S' => rw [hr] at h; exact ⟨h.run⟩
  | rt a S' => rw [hr] at h; exact ⟨h.run⟩
  | bk ρ' S' => rw [hr] at h; exact ⟨h.run⟩
  | ct ρ' S' => rw [hr] at h; exact ⟨h.run⟩
  | bad => rw [hr] at h; exact ⟨h.run⟩
  | exc e ρ' S' =>
    rw [hr] at h
    obtain ⟨rfl, q⟩ := h.run
    dsimp only
    rw [decide_eq_true rfl]
    exact ⟨q⟩
theorem refuses_e {a : List Nat} (hl : a.length ≤ 9999) (h : canB a = false) : m_law_refuses [.dat (tx a)] [] = .ok (.dat (.bl true)) [] := by
  refine Ret.e ?_
  unfold Ret m_law_refuses b_law_refuses
  have rb := read_bad hl h
  nomatch "w"
  refine sTryB_w ?_
  nomatch "w", rb
  exact ⟨by trivial, by trivial, by trivial⟩
end Lw

set_option Elab.async false
set_option linter.all false
set_option maxRecDepth 100000
set_option maxHeartbeats 8000000
namespace Lw
open PySem PySem.Spec PyProof.Rows L2 Ew
local macro_rules | `(tactic| nomatch "w", $ts,*) => `(tactic| simp only [R_bind_ok, R_bind_exc, R_bind_bad, R_toB_ok, R_toB_exc, R_toB_bad, R_toA_ok, R_toA_exc, R_toA_bad, RA_bind_ok, RA_bind_exc, RA_bind_bad, RA_toR_ok, RA_toR_exc, RA_toR_bad, RA_toI_ok, RA_toI_exc, RA_toI_bad, RB_toR_ok, RB_toR_exc, RB_toR_bad, RB_bind_ok, RB_bind_exc, RB_bind_bad, R_toI_ok, R_toI_exc, R_toI_bad, RO_toR_ok, RO_toR_exc, RO_toR_bad, R_toS_ok, R_toS_exc, R_toS_bad, RB_toS_ok, RB_toS_exc, RB_toS_bad, RI_toS_ok, RI_toS_exc, RI_toS_bad, sSeq_e, SR_seq_nx, SR_seq_rt, SR_seq_bk, SR_seq_ct, SR_seq_exc, SR_seq_bad, sNx_e, sBk_e, sCt_e, sBad_e, sRetN_e, sSet_e, sSetK_e, fz1_d, fz1_o, fz1_n, toD_l, toD_d, toD_f, live_l, live_d, sSetO_e, sSetOK_n, sSetOK_d, sSetOK_o, sDrop_e, sDropK_e, sRet_e, sRetK_e, sIf_e, sIfK_t, sIfK_f, sFor_e, sForK_e, turn_e, turnK_s, gN_e, gT_e, gT_l, gsCons_e, gsK_s, gsNil_e, sPut_e, sPutK1_e, sPutK2_e, sPutK3_e, sPutK4_e, apP_e, apPK_e, apPL_e, sUnp_e, sUnpK_e, sUnpL_e, unpV_d, sUnpM_e, sAug_e, sAugJ_e, sAugK_e, sAugL_e, sAugM_e, clB_0, clB_l, clB_d, clB_f, frz_d, frz_n, frz_o, frzK_e, frzs_nil, frzs_c, frzsK_e, frzsL_e, view_d, view_o, viewK_e, view_n, views_nil, views_c, viewsK_e, viewsL_e, eVar_e, eVarK_d, eVarK_o, eC_e, apR_d, apR_o, ap2_e, ap2V_e, eBin_e, eBinK_e, eBinL_e, tBin_e, tBinK_e, tBinL_e, bl2_e, bl2V_e, blR_e, eUn_e, un1_e, un1V_e, tVal_e, tru_e, truV_e, truW_e, truth_n, truth_b, truth_i, truth_t, truth_l, tNt_e, tNtK_e, tAn_e, tAnK_t, tAnK_f, tO_e, tOK_t, tOK_f, tY_e, eAnd_e, eAndK_t, eAndK_f, eOr_e, eOrK_f, eOrK_t, eNot_e, eNotK_e, eIf_e, eIfK_t, eIfK_f, aNil_e, aCons_e, aConsK_e, aConsL_e, eAp_e, ap_e, apV_e, g1_e, g2_e, eMt_e, eMtK_e, eMtV_e, eMtT_e, eMtL_e, apM_e, apMV_e, m1_e, m0_e, tyD_s, tyD_l, eMt0_e, eMt0K_e, eMt0V_e, eMt0T_e, eMu_e, eMuK_e, eMuV_e, eMuT_e, eMuL_e, tyO_l, tyO_d, apU_e, apUK_e, apUL_e, apUM_e, u1_e, u0_e, eMu0_e, eMu0K_e, eMu0V_e, eMu0T_e, eTup_e, eLst_e, mkT_e, mkL_e, mkTK_0, mkLK_0, mkTK_1, mkLK_1, mkTK_2, mkLK_2, mkTK_3, mkLK_3, mkTK_4, mkLK_4, mkTK_5, mkLK_5, mkTK_6, mkLK_6, mkTK_7, mkLK_7, mkTK_8, mkLK_8, oNone_e, oSome_e, oSomeK_e, eSl_e, eSlK_e, eSlL_e, eSlM_e, apS_e, apSV_e, iSeq_e, iSeqK_e, iSeqV_e, iSeqL_e, items_l, items_t, items_s, iRange_e, gAdd_ii, gSub_ii, gNeg_i, gAbs_i, gInt_i, gLt_ii, gLt_ss, gLe_ii, gLe_ss, gGt_ii, gGt_ss, gGe_ii, gGe_ss, gEq_ii, gNe_ii, gEq_ss, gNe_ss, gLen_l, gLen_t, gList_s, gList_l, gList_t, gTuple_l, gTuple_t, gIx_l, gIx_t, optD_e, atI_lit, gSet_l, gSetLK_e, List.getElem?_cons_zero, List.getElem?_cons_succ, List.getElem?_nil, List.set_cons_zero, List.set_cons_succ, List.length_cons, List.length_nil, List.map_cons, List.map_nil, List.cons_append, List.nil_append, Nat.zero_add, Nat.add_zero, Nat.reduceAdd, Nat.reduceSub, Nat.sub_self, Nat.reduceLT, Nat.reduceLeDiff, Int.reduceLT, Int.reduceLE, Int.reduceNeg, Int.reduceEq, decide_true, decide_false, ixN_lit, List.set_nil, List.replicate, Int.reduceAdd, Int.reduceSub, reduceCtorEq, Bool.not_true, Bool.not_false, List.take_succ_cons, List.take_zero, List.take_nil, clB_ao, wk_e, exq_e, Wp_ok, Wp_exc, Wp_bad, WpB_ok, WpB_exc, WpB_bad, WpA_ok, WpA_exc, WpA_bad, WpI_ok, WpI_exc, WpI_bad, WpO_ok, WpO_exc, WpO_bad, Ws_nx, Ws_rt, Ws_bk, Ws_ct, Ws_exc, Ws_bad, seq_nx, seq_rt, seq_bk, seq_ct, seq_ex, Wp_bind, Wp_toR, Wp_BtoR, Wp_OtoR, WpB_toB, WpB_bind, WpA_toA, WpA_bind, WpI_toI, WpI_AtoI, Ws_toS, Ws_BtoS, Ws_ItoS, Ws_seq, oSq_e, WpO_s, Wp_retS, rtP_nx, rtP_rt, rtP_ex, retS_d, retS_n, retS_o, retS_p, retO_f, retO_l, retO_d, runF_e, cfR_nil, cfR_d, cfR_n, cfR_o, idx_0, idx_s, hs_nil, hs_d, hs_n, hs_o, callF_e, cf1_e, cutR_e, cutX_e, nodB_0, nodB_1, nodB_2, nodB_3, pick_0, pick_c, pickK_e, put_c, put_n, cf2_d, cf2_n, cf2_o, cf2O_e, cf2_x, cfQ_e, cfE_e, Wp_cf2, eCall_k, callK_e, fzQ_d, fzQ_n, lcG_y, eLc_e, eLcI_e, wipeA_nil, wipeA_c, eDnew_e, Nat.reduceBEq, Nat.reduceSub, eGet2_e, eGetI_e, eGetJ_e, eGetK_e, eGetL_e, forP_nx, forP_ct, forP_bk, forP_rt, forP_ex, forP_exq, seq_exq, rtP_exq, cfE_NE, eLcW_e, Wp_eLcI, cutP_nx, cutP_rt, cutP_bk, cutP_ct, cutP_ex, cutP_exq, Int.cast_ofNat_Int, List.length_map, $[$ts:term],*])
local macro_rules | `(tactic| nomatch "w") => `(tactic| simp only [R_bind_ok, R_bind_exc, R_bind_bad, R_toB_ok, R_toB_exc, R_toB_bad, R_toA_ok, R_toA_exc, R_toA_bad, RA_bind_ok, RA_bind_exc, RA_bind_bad, RA_toR_ok, RA_toR_exc, RA_toR_bad, RA_toI_ok, RA_toI_exc, RA_toI_bad, RB_toR_ok, RB_toR_exc, RB_toR_bad, RB_bind_ok, RB_bind_exc, RB_bind_bad, R_toI_ok, R_toI_exc, R_toI_bad, RO_toR_ok, RO_toR_exc, RO_toR_bad, R_toS_ok, R_toS_exc, R_toS_bad, RB_toS_ok, RB_toS_exc, RB_toS_bad, RI_toS_ok, RI_toS_exc, RI_toS_bad, sSeq_e, SR_seq_nx, SR_seq_rt, SR_seq_bk, SR_seq_ct, SR_seq_exc, SR_seq_bad, sNx_e, sBk_e, sCt_e, sBad_e, sRetN_e, sSet_e, sSetK_e, fz1_d, fz1_o, fz1_n, toD_l, toD_d, toD_f, live_l, live_d, sSetO_e, sSetOK_n, sSetOK_d, sSetOK_o, sDrop_e, sDropK_e, sRet_e, sRetK_e, sIf_e, sIfK_t, sIfK_f, sFor_e, sForK_e, turn_e, turnK_s, gN_e, gT_e, gT_l, gsCons_e, gsK_s, gsNil_e, sPut_e, sPutK1_e, sPutK2_e, sPutK3_e, sPutK4_e, apP_e, apPK_e, apPL_e, sUnp_e, sUnpK_e, sUnpL_e, unpV_d, sUnpM_e, sAug_e, sAugJ_e, sAugK_e, sAugL_e, sAugM_e, clB_0, clB_l, clB_d, clB_f, frz_d, frz_n, frz_o, frzK_e, frzs_nil, frzs_c, frzsK_e, frzsL_e, view_d, view_o, viewK_e, view_n, views_nil, views_c, viewsK_e, viewsL_e, eVar_e, eVarK_d, eVarK_o, eC_e, apR_d, apR_o, ap2_e, ap2V_e, eBin_e, eBinK_e, eBinL_e, tBin_e, tBinK_e, tBinL_e, bl2_e, bl2V_e, blR_e, eUn_e, un1_e, un1V_e, tVal_e, tru_e, truV_e, truW_e, truth_n, truth_b, truth_i, truth_t, truth_l, tNt_e, tNtK_e, tAn_e, tAnK_t, tAnK_f, tO_e, tOK_t, tOK_f, tY_e, eAnd_e, eAndK_t, eAndK_f, eOr_e, eOrK_f, eOrK_t, eNot_e, eNotK_e, eIf_e, eIfK_t, eIfK_f, aNil_e, aCons_e, aConsK_e, aConsL_e, eAp_e, ap_e, apV_e, g1_e, g2_e, eMt_e, eMtK_e, eMtV_e, eMtT_e, eMtL_e, apM_e, apMV_e, m1_e, m0_e, tyD_s, tyD_l, eMt0_e, eMt0K_e, eMt0V_e, eMt0T_e, eMu_e, eMuK_e, eMuV_e, eMuT_e, eMuL_e, tyO_l, tyO_d, apU_e, apUK_e, apUL_e, apUM_e, u1_e, u0_e, eMu0_e, eMu0K_e, eMu0V_e, eMu0T_e, eTup_e, eLst_e, mkT_e, mkL_e, mkTK_0, mkLK_0, mkTK_1, mkLK_1, mkTK_2, mkLK_2, mkTK_3, mkLK_3, mkTK_4, mkLK_4, mkTK_5, mkLK_5, mkTK_6, mkLK_6, mkTK_7, mkLK_7, mkTK_8, mkLK_8, oNone_e, oSome_e, oSomeK_e, eSl_e, eSlK_e, eSlL_e, eSlM_e, apS_e, apSV_e, iSeq_e, iSeqK_e, iSeqV_e, iSeqL_e, items_l, items_t, items_s, iRange_e, gAdd_ii, gSub_ii, gNeg_i, gAbs_i, gInt_i, gLt_ii, gLt_ss, gLe_ii, gLe_ss, gGt_ii, gGt_ss, gGe_ii, gGe_ss, gEq_ii, gNe_ii, gEq_ss, gNe_ss, gLen_l, gLen_t, gList_s, gList_l, gList_t, gTuple_l, gTuple_t, gIx_l, gIx_t, optD_e, atI_lit, gSet_l, gSetLK_e, List.getElem?_cons_zero, List.getElem?_cons_succ, List.getElem?_nil, List.set_cons_zero, List.set_cons_succ, List.length_cons, List.length_nil, List.map_cons, List.map_nil, List.cons_append, List.nil_append, Nat.zero_add, Nat.add_zero, Nat.reduceAdd, Nat.reduceSub, Nat.sub_self, Nat.reduceLT, Nat.reduceLeDiff, Int.reduceLT, Int.reduceLE, Int.reduceNeg, Int.reduceEq, decide_true, decide_false, ixN_lit, List.set_nil, List.replicate, Int.reduceAdd, Int.reduceSub, reduceCtorEq, Bool.not_true, Bool.not_false, List.take_succ_cons, List.take_zero, List.take_nil, clB_ao, wk_e, exq_e, Wp_ok, Wp_exc, Wp_bad, WpB_ok, WpB_exc, WpB_bad, WpA_ok, WpA_exc, WpA_bad, WpI_ok, WpI_exc, WpI_bad, WpO_ok, WpO_exc, WpO_bad, Ws_nx, Ws_rt, Ws_bk, Ws_ct, Ws_exc, Ws_bad, seq_nx, seq_rt, seq_bk, seq_ct, seq_ex, Wp_bind, Wp_toR, Wp_BtoR, Wp_OtoR, WpB_toB, WpB_bind, WpA_toA, WpA_bind, WpI_toI, WpI_AtoI, Ws_toS, Ws_BtoS, Ws_ItoS, Ws_seq, oSq_e, WpO_s, Wp_retS, rtP_nx, rtP_rt, rtP_ex, retS_d, retS_n, retS_o, retS_p, retO_f, retO_l, retO_d, runF_e, cfR_nil, cfR_d, cfR_n, cfR_o, idx_0, idx_s, hs_nil, hs_d, hs_n, hs_o, callF_e, cf1_e, cutR_e, cutX_e, nodB_0, nodB_1, nodB_2, nodB_3, pick_0, pick_c, pickK_e, put_c, put_n, cf2_d, cf2_n, cf2_o, cf2O_e, cf2_x, cfQ_e, cfE_e, Wp_cf2, eCall_k, callK_e, fzQ_d, fzQ_n, lcG_y, eLc_e, eLcI_e, wipeA_nil, wipeA_c, eDnew_e, Nat.reduceBEq, Nat.reduceSub, eGet2_e, eGetI_e, eGetJ_e, eGetK_e, eGetL_e, forP_nx, forP_ct, forP_bk, forP_rt, forP_ex, forP_exq, seq_exq, rtP_exq, cfE_NE, eLcW_e, Wp_eLcI, cutP_nx, cutP_rt, cutP_bk, cutP_ct, cutP_ex, cutP_exq, Int.cast_ofNat_Int, List.length_map])
open PySem.NumText (digitsVal AllDigits)
open TL (numL)

section
variable {Q : AV → SS → Prop} {st : Sta}
def c1 : Str := " !\"#$&'()*+,-./0123456789:;<=>?@ABCDEFGHIJKLMNOPQRSTUVWXYZ[\\]^_`"
def c2 : Str := "abcdefghijklmnopqrstuvwxyz{|}~"
theorem c12_len : (c1 ++ c2).length = 94 := by decide +kernel
theorem char_w (h : ∀ (c : Nat) (st' : Sta), Q (.dat (tx [c])) [st'.ao]) : Wp NE Q (m_law_char [.own 0] [st.ao]) := by
  unfold m_law_char b_law_char
  have h1 : (" !\"#$&'()*+,-./0123456789:;<=>?@ABCDEFGHIJKLMNOPQRSTUVWXYZ[\\]^_`" : Str) = c1 := rfl
  have h2 : ("abcdefghijklmnopqrstuvwxyz{|}~" : Str) = c2 := rfl
  have ga := gAdd_ss (s := c1) (t := c2) (by decide +kernel)
  have gl := gLen_s (s := c1 ++ c2) (by rw [c12_len]; decide)
  rw [c12_len] at gl
  nomatch "w", h1, h2, ga, gl
  refine draw_w (by omega) (by omega) fun u st2 hu => ?_
  obtain ⟨c, hc, gx⟩ := gIx_sv2 (s := c1 ++ c2) (v := u) (by rw [c12_len]; omega) (by rw [c12_len]; decide)
  nomatch "w", gx
  exact h c st2
theorem num1 {v : Nat} (h : (v : Int) < 10) : (numL v).length ≤ 1 := TL.numL_len (by decide) (by omega)
theorem strV {v : Nat} (h : (v : Int) < 10) : gStr (.int (v : Nat)) = some (.dt (tx (numL v))) := gStr_n (Nat.lt_of_lt_of_le (show v < 10 by omega) (Nat.le_trans (by decide : 10 ≤ 2 ^ 10) (Nat.pow_le_pow_right (by decide) (by decide))))
theorem changed_w {a : List Nat} (hl : a.length ≤ 9000) (h : ∀ (b : List Nat) (st' : Sta), b.length ≤ a.length + 1 → Q (.dat (tx b)) [st'.ao]) : Wp NE Q (m_law_changed [.own 0, .dat (tx a)] [st.ao]) := by
  unfold m_law_changed b_law_changed
  have gl := gLen_t' (a := a) (by omega)
  nomatch "w", gl
  refine draw_w (by omega) (by omega) fun v st1 hv => ?_
  nomatch "w"
  refine char_w fun c st2 => ?_
  nomatch "w"
  refine draw_w (by omega) (by omega) fun w st3 hw => ?_
  have s1 := gSl_to (a := a) (i := (v : Nat)) (by omega) (by omega)
  have s2 := gSl_from (a := a) (i := (v : Nat)) (by omega) (by omega)
  have s3 := gSl_from (a := a) (i := (v : Nat) + 1) (by omega) (by omega)
  have t1 : ((v : Nat) : Int).toNat = v := by omega
  have t2 : (((v : Nat) : Int) + 1).toNat = v + 1 := by omega
  rw [t1] at s1 s2
  rw [t2] at s3
  have l1 : (a.take v).length = v := by rw [List.length_take]; omega
  have l2 : (a.drop v).length = a.length - v := List.length_drop ..
  have l3 : (a.drop (v + 1)).length = a.length - (v + 1) := List.length_drop ..
  have rest : ∀ (cs : List Nat), cs.length ≤ 1 → (gAdd (tx (a.take v)) (tx cs) = some (.dt (tx (a.take v ++ cs)))) ∧ (gAdd (tx (a.take v ++ cs)) (tx (a.drop v)) = some (.dt (tx (a.take v ++ cs ++ a.drop v)))) ∧ (gAdd (tx (a.take v ++ cs)) (tx (a.drop (v + 1))) = some (.dt (tx (a.take v ++ cs ++ a.drop (v + 1))))) ∧ (a.take v ++ cs ++ a.drop v).length ≤ a.length + 1 ∧ (a.take v ++ cs ++ a.drop (v + 1)).length ≤ a.length + 1 := fun cs hc => by
    have q1 : (a.take v ++ cs).length ≤ v + 1 := by rw [List.length_append]; omega
    exact ⟨gAdd_t (by omega), gAdd_t (by omega), gAdd_t (by omega), by rw [List.length_append]; omega, by rw [List.length_append]; omega⟩
  have g4 := gAdd_t (a := a.take v) (b := a.drop (v + 1)) (by omega)
  have q4 : (a.take v ++ a.drop (v + 1)).length ≤ a.length + 1 := by rw [List.length_append]; omega
  have fin : ∀ (cs : List Nat) (st : Sta), cs.length ≤ 1 → (∀ (k : Nat), (k : Int) < 4 → True) → True := fun _ _ _ _ => trivial
  by_cases w0 : (w : Int) = 0
  · nomatch "w", w0
    refine draw_w (by omega) (by omega) fun d st4 hd => ?_
    have sd := strV hd
    obtain ⟨r1, r2, r3, r4, r5⟩ := rest (numL d) (num1 hd)
    nomatch "w", sd
    refine draw_w (by omega) (by omega) fun k st5 hk => ?_
    have hk : k = 0 ∨ k = 1 ∨ k = 2 ∨ k = 3 := by omega
    rcases hk with rfl | rfl | rfl | rfl
    · nomatch "w", s1, s2, r1, r2; exact h _ st5 r4
    · nomatch "w", s1, s3, r1, r3; exact h _ st5 r5
    · nomatch "w", s1, s3, g4; exact h _ st5 q4
    · nomatch "w"; exact h _ st5 (by omega)
  · nomatch "w", w0
    obtain ⟨r1, r2, r3, r4, r5⟩ := rest [c] (Nat.le_refl _)
    refine draw_w (by omega) (by omega) fun k st5 hk => ?_
    have hk : k = 0 ∨ k = 1 ∨ k = 2 ∨ k = 3 := by omega
    rcases hk with rfl | rfl | rfl | rfl
    · nomatch "w", s1, s2, r1, r2; exact h _ st5 r4
    · nomatch "w", s1, s3, r1, r3; exact h _ st5 r5
    · nomatch "w", s1, s3, g4; exact h _ st5 q4
    · nomatch "w"; exact h _ st5 (by omega)
end
end Lw

set_option Elab.async false
set_option linter.all false
set_option maxRecDepth 100000
set_option maxHeartbeats 8000000
namespace Lw
open PySem PySem.Spec PyProof.Rows L2 Ew
local macro_rules | `(tactic| nomatch "w", $ts,*) => `(tactic| simp only [R_bind_ok, R_bind_exc, R_bind_bad, R_toB_ok, R_toB_exc, R_toB_bad, R_toA_ok, R_toA_exc, R_toA_bad, RA_bind_ok, RA_bind_exc, RA_bind_bad, RA_toR_ok, RA_toR_exc, RA_toR_bad, RA_toI_ok, RA_toI_exc, RA_toI_bad, RB_toR_ok, RB_toR_exc, RB_toR_bad, RB_bind_ok, RB_bind_exc, RB_bind_bad, R_toI_ok, R_toI_exc, R_toI_bad, RO_toR_ok, RO_toR_exc, RO_toR_bad, R_toS_ok, R_toS_exc, R_toS_bad, RB_toS_ok, RB_toS_exc, RB_toS_bad, RI_toS_ok, RI_toS_exc, RI_toS_bad, sSeq_e, SR_seq_nx, SR_seq_rt, SR_seq_bk, SR_seq_ct, SR_seq_exc, SR_seq_bad, sNx_e, sBk_e, sCt_e, sBad_e, sRetN_e, sSet_e, sSetK_e, fz1_d, fz1_o, fz1_n, toD_l, toD_d, toD_f, live_l, live_d, sSetO_e, sSetOK_n, sSetOK_d, sSetOK_o, sDrop_e, sDropK_e, sRet_e, sRetK_e, sIf_e, sIfK_t, sIfK_f, sFor_e, sForK_e, turn_e, turnK_s, gN_e, gT_e, gT_l, gsCons_e, gsK_s, gsNil_e, sPut_e, sPutK1_e, sPutK2_e, sPutK3_e, sPutK4_e, apP_e, apPK_e, apPL_e, sUnp_e, sUnpK_e, sUnpL_e, unpV_d, sUnpM_e, sAug_e, sAugJ_e, sAugK_e, sAugL_e, sAugM_e, clB_0, clB_l, clB_d, clB_f, frz_d, frz_n, frz_o, frzK_e, frzs_nil, frzs_c, frzsK_e, frzsL_e, view_d, view_o, viewK_e, view_n, views_nil, views_c, viewsK_e, viewsL_e, eVar_e, eVarK_d, eVarK_o, eC_e, apR_d, apR_o, ap2_e, ap2V_e, eBin_e, eBinK_e, eBinL_e, tBin_e, tBinK_e, tBinL_e, bl2_e, bl2V_e, blR_e, eUn_e, un1_e, un1V_e, tVal_e, tru_e, truV_e, truW_e, truth_n, truth_b, truth_i, truth_t, truth_l, tNt_e, tNtK_e, tAn_e, tAnK_t, tAnK_f, tO_e, tOK_t, tOK_f, tY_e, eAnd_e, eAndK_t, eAndK_f, eOr_e, eOrK_f, eOrK_t, eNot_e, eNotK_e, eIf_e, eIfK_t, eIfK_f, aNil_e, aCons_e, aConsK_e, aConsL_e, eAp_e, ap_e, apV_e, g1_e, g2_e, eMt_e, eMtK_e, eMtV_e, eMtT_e, eMtL_e, apM_e, apMV_e, m1_e, m0_e, tyD_s, tyD_l, eMt0_e, eMt0K_e, eMt0V_e, eMt0T_e, eMu_e, eMuK_e, eMuV_e, eMuT_e, eMuL_e, tyO_l, tyO_d, apU_e, apUK_e, apUL_e, apUM_e, u1_e, u0_e, eMu0_e, eMu0K_e, eMu0V_e, eMu0T_e, eTup_e, eLst_e, mkT_e, mkL_e, mkTK_0, mkLK_0, mkTK_1, mkLK_1, mkTK_2, mkLK_2, mkTK_3, mkLK_3, mkTK_4, mkLK_4, mkTK_5, mkLK_5, mkTK_6, mkLK_6, mkTK_7, mkLK_7, mkTK_8, mkLK_8, oNone_e, oSome_e, oSomeK_e, eSl_e, eSlK_e, eSlL_e, eSlM_e, apS_e, apSV_e, iSeq_e, iSeqK_e, iSeqV_e, iSeqL_e, items_l, items_t, items_s, iRange_e, gAdd_ii, gSub_ii, gNeg_i, gAbs_i, gInt_i, gLt_ii, gLt_ss, gLe_ii, gLe_ss, gGt_ii, gGt_ss, gGe_ii, gGe_ss, gEq_ii, gNe_ii, gEq_ss, gNe_ss, gLen_l, gLen_t, gList_s, gList_l, gList_t, gTuple_l, gTuple_t, gIx_l, gIx_t, optD_e, atI_lit, gSet_l, gSetLK_e, List.getElem?_cons_zero, List.getElem?_cons_succ, List.getElem?_nil, List.set_cons_zero, List.set_cons_succ, List.length_cons, List.length_nil, List.map_cons, List.map_nil, List.cons_append, List.nil_append, Nat.zero_add, Nat.add_zero, Nat.reduceAdd, Nat.reduceSub, Nat.sub_self, Nat.reduceLT, Nat.reduceLeDiff, Int.reduceLT, Int.reduceLE, Int.reduceNeg, Int.reduceEq, decide_true, decide_false, ixN_lit, List.set_nil, List.replicate, Int.reduceAdd, Int.reduceSub, reduceCtorEq, Bool.not_true, Bool.not_false, List.take_succ_cons, List.take_zero, List.take_nil, clB_ao, wk_e, exq_e, Wp_ok, Wp_exc, Wp_bad, WpB_ok, WpB_exc, WpB_bad, WpA_ok, WpA_exc, WpA_bad, WpI_ok, WpI_exc, WpI_bad, WpO_ok, WpO_exc, WpO_bad, Ws_nx, Ws_rt, Ws_bk, Ws_ct, Ws_exc, Ws_bad, seq_nx, seq_rt, seq_bk, seq_ct, seq_ex, Wp_bind, Wp_toR, Wp_BtoR, Wp_OtoR, WpB_toB, WpB_bind, WpA_toA, WpA_bind, WpI_toI, WpI_AtoI, Ws_toS, Ws_BtoS, Ws_ItoS, Ws_seq, oSq_e, WpO_s, Wp_retS, rtP_nx, rtP_rt, rtP_ex, retS_d, retS_n, retS_o, retS_p, retO_f, retO_l, retO_d, runF_e, cfR_nil, cfR_d, cfR_n, cfR_o, idx_0, idx_s, hs_nil, hs_d, hs_n, hs_o, callF_e, cf1_e, cutR_e, cutX_e, nodB_0, nodB_1, nodB_2, nodB_3, pick_0, pick_c, pickK_e, put_c, put_n, cf2_d, cf2_n, cf2_o, cf2O_e, cf2_x, cfQ_e, cfE_e, Wp_cf2, eCall_k, callK_e, fzQ_d, fzQ_n, lcG_y, eLc_e, eLcI_e, wipeA_nil, wipeA_c, eDnew_e, Nat.reduceBEq, Nat.reduceSub, eGet2_e, eGetI_e, eGetJ_e, eGetK_e, eGetL_e, forP_nx, forP_ct, forP_bk, forP_rt, forP_ex, forP_exq, seq_exq, rtP_exq, cfE_NE, eLcW_e, Wp_eLcI, cutP_nx, cutP_rt, cutP_bk, cutP_ct, cutP_ex, cutP_exq, Int.cast_ofNat_Int, List.length_map, $[$ts:term],*])
local macro_rules | `(tactic| nomatch "w") => `(tactic| simp only [R_bind_ok, R_bind_exc, R_bind_bad, R_toB_ok, R_toB_exc, R_toB_bad, R_toA_ok, R_toA_exc, R_toA_bad, RA_bind_ok, RA_bind_exc, RA_bind_bad, RA_toR_ok, RA_toR_exc, RA_toR_bad, RA_toI_ok, RA_toI_exc, RA_toI_bad, RB_toR_ok, RB_toR_exc, RB_toR_bad, RB_bind_ok, RB_bind_exc, RB_bind_bad, R_toI_ok, R_toI_exc, R_toI_bad, RO_toR_ok, RO_toR_exc, RO_toR_bad, R_toS_ok, R_toS_exc, R_toS_bad, RB_toS_ok, RB_toS_exc, RB_toS_bad, RI_toS_ok, RI_toS_exc, RI_toS_bad, sSeq_e, SR_seq_nx, SR_seq_rt, SR_seq_bk, SR_seq_ct, SR_seq_exc, SR_seq_bad, sNx_e, sBk_e, sCt_e, sBad_e, sRetN_e, sSet_e, sSetK_e, fz1_d, fz1_o, fz1_n, toD_l, toD_d, toD_f, live_l, live_d, sSetO_e, sSetOK_n, sSetOK_d, sSetOK_o, sDrop_e, sDropK_e, sRet_e, sRetK_e, sIf_e, sIfK_t, sIfK_f, sFor_e, sForK_e, turn_e, turnK_s, gN_e, gT_e, gT_l, gsCons_e, gsK_s, gsNil_e, sPut_e, sPutK1_e, sPutK2_e, sPutK3_e, sPutK4_e, apP_e, apPK_e, apPL_e, sUnp_e, sUnpK_e, sUnpL_e, unpV_d, sUnpM_e, sAug_e, sAugJ_e, sAugK_e, sAugL_e, sAugM_e, clB_0, clB_l, clB_d, clB_f, frz_d, frz_n, frz_o, frzK_e, frzs_nil, frzs_c, frzsK_e, frzsL_e, view_d, view_o, viewK_e, view_n, views_nil, views_c, viewsK_e, viewsL_e, eVar_e, eVarK_d, eVarK_o, eC_e, apR_d, apR_o, ap2_e, ap2V_e, eBin_e, eBinK_e, eBinL_e, tBin_e, tBinK_e, tBinL_e, bl2_e, bl2V_e, blR_e, eUn_e, un1_e, un1V_e, tVal_e, tru_e, truV_e, truW_e, truth_n, truth_b, truth_i, truth_t, truth_l, tNt_e, tNtK_e, tAn_e, tAnK_t, tAnK_f, tO_e, tOK_t, tOK_f, tY_e, eAnd_e, eAndK_t, eAndK_f, eOr_e, eOrK_f, eOrK_t, eNot_e, eNotK_e, eIf_e, eIfK_t, eIfK_f, aNil_e, aCons_e, aConsK_e, aConsL_e, eAp_e, ap_e, apV_e, g1_e, g2_e, eMt_e, eMtK_e, eMtV_e, eMtT_e, eMtL_e, apM_e, apMV_e, m1_e, m0_e, tyD_s, tyD_l, eMt0_e, eMt0K_e, eMt0V_e, eMt0T_e, eMu_e, eMuK_e, eMuV_e, eMuT_e, eMuL_e, tyO_l, tyO_d, apU_e, apUK_e, apUL_e, apUM_e, u1_e, u0_e, eMu0_e, eMu0K_e, eMu0V_e, eMu0T_e, eTup_e, eLst_e, mkT_e, mkL_e, mkTK_0, mkLK_0, mkTK_1, mkLK_1, mkTK_2, mkLK_2, mkTK_3, mkLK_3, mkTK_4, mkLK_4, mkTK_5, mkLK_5, mkTK_6, mkLK_6, mkTK_7, mkLK_7, mkTK_8, mkLK_8, oNone_e, oSome_e, oSomeK_e, eSl_e, eSlK_e, eSlL_e, eSlM_e, apS_e, apSV_e, iSeq_e, iSeqK_e, iSeqV_e, iSeqL_e, items_l, items_t, items_s, iRange_e, gAdd_ii, gSub_ii, gNeg_i, gAbs_i, gInt_i, gLt_ii, gLt_ss, gLe_ii, gLe_ss, gGt_ii, gGt_ss, gGe_ii, gGe_ss, gEq_ii, gNe_ii, gEq_ss, gNe_ss, gLen_l, gLen_t, gList_s, gList_l, gList_t, gTuple_l, gTuple_t, gIx_l, gIx_t, optD_e, atI_lit, gSet_l, gSetLK_e, List.getElem?_cons_zero, List.getElem?_cons_succ, List.getElem?_nil, List.set_cons_zero, List.set_cons_succ, List.length_cons, List.length_nil, List.map_cons, List.map_nil, List.cons_append, List.nil_append, Nat.zero_add, Nat.add_zero, Nat.reduceAdd, Nat.reduceSub, Nat.sub_self, Nat.reduceLT, Nat.reduceLeDiff, Int.reduceLT, Int.reduceLE, Int.reduceNeg, Int.reduceEq, decide_true, decide_false, ixN_lit, List.set_nil, List.replicate, Int.reduceAdd, Int.reduceSub, reduceCtorEq, Bool.not_true, Bool.not_false, List.take_succ_cons, List.take_zero, List.take_nil, clB_ao, wk_e, exq_e, Wp_ok, Wp_exc, Wp_bad, WpB_ok, WpB_exc, WpB_bad, WpA_ok, WpA_exc, WpA_bad, WpI_ok, WpI_exc, WpI_bad, WpO_ok, WpO_exc, WpO_bad, Ws_nx, Ws_rt, Ws_bk, Ws_ct, Ws_exc, Ws_bad, seq_nx, seq_rt, seq_bk, seq_ct, seq_ex, Wp_bind, Wp_toR, Wp_BtoR, Wp_OtoR, WpB_toB, WpB_bind, WpA_toA, WpA_bind, WpI_toI, WpI_AtoI, Ws_toS, Ws_BtoS, Ws_ItoS, Ws_seq, oSq_e, WpO_s, Wp_retS, rtP_nx, rtP_rt, rtP_ex, retS_d, retS_n, retS_o, retS_p, retO_f, retO_l, retO_d, runF_e, cfR_nil, cfR_d, cfR_n, cfR_o, idx_0, idx_s, hs_nil, hs_d, hs_n, hs_o, callF_e, cf1_e, cutR_e, cutX_e, nodB_0, nodB_1, nodB_2, nodB_3, pick_0, pick_c, pickK_e, put_c, put_n, cf2_d, cf2_n, cf2_o, cf2O_e, cf2_x, cfQ_e, cfE_e, Wp_cf2, eCall_k, callK_e, fzQ_d, fzQ_n, lcG_y, eLc_e, eLcI_e, wipeA_nil, wipeA_c, eDnew_e, Nat.reduceBEq, Nat.reduceSub, eGet2_e, eGetI_e, eGetJ_e, eGetK_e, eGetL_e, forP_nx, forP_ct, forP_bk, forP_rt, forP_ex, forP_exq, seq_exq, rtP_exq, cfE_NE, eLcW_e, Wp_eLcI, cutP_nx, cutP_rt, cutP_bk, cutP_ct, cutP_ex, cutP_exq, Int.cast_ofNat_Int, List.length_map])
open PySem.NumText (digitsVal AllDigits)
open TL (numL)

section
variable {Q : AV → SS → Prop} {st : Sta}
def odds1 : List Str := ["", "-", "-0", "00", "0", "+1", " 1", "1 ", "1_0", "--1", "0x1", "1.0", "1e3", "- 1", "0-", "01", "-01"]
def odds2 : List Str := ["1-", "_1", "1__0", "o", "1,000", "-00", "-+1", "1 000"]
def odds : List Str := odds1 ++ odds2
theorem odds_len : ∀ s ∈ odds, s.length ≤ 10 := by decide
theorem gIxl {α : Type} {f : α → D} {xs : List α} {k : Nat} {x : α} (h : xs[k]? = some x) : gIx (.lst (xs.map f)) (.int (k : Nat)) = some (.dt (f x)) := by
  have hk := (List.getElem?_eq_some_iff.mp h).1
  obtain ⟨y, h1, _, h2⟩ := atI_n (xs := xs.map f) (i := (k : Int)) (by omega) (by rw [List.length_map]; omega)
  rw [Int.toNat_natCast, List.getElem?_map, h] at h2
  rw [gIx_l, h1]
  cases h2; rfl
theorem tx_s (s : Str) : D.str s = tx s.cps.toList := congrArg D.str (SX.S_tl s).symm
theorem flat_1 {α : Type} {f : α → List Nat} {n : Nat} : ∀ {xs : List α}, (∀ x ∈ xs, (f x).length ≤ n) → (xs.map f).flatten.length ≤ xs.length * n
  | [], _ => Nat.zero_le _
  | x :: xs, h => by
    have := flat_1 (xs := xs) fun y hy => h y (List.mem_cons_of_mem _ hy)
    have := h x (List.mem_cons_self ..)
    rw [List.map_cons, List.flatten_cons, List.length_append, List.length_cons, Nat.succ_mul]; omega
def tens : Str := "0012-+ _9."
theorem text_w (h : ∀ (a : List Nat) (st' : Sta), a.length ≤ 9000 → Q (.dat (tx a)) [st'.ao]) : Wp NE Q (m_law_text [.own 0] [st.ao]) := by
  unfold m_law_text b_law_text
  nomatch "w"
  refine draw_w (by omega) (by omega) fun u st1 hu => ?_
  have hu : u = 0 ∨ u = 1 ∨ u = 2 ∨ u = 3 := by omega
  have big : ∀ (st1 : Sta), Wp NE Q (m_law_draw [.own 0, .dat (.int 9)] [st1.ao]) → True := fun _ _ => trivial
  rcases hu with rfl | rfl | hu
  · have ga : gAdd (.lst (odds1.map D.str)) (.lst (odds2.map D.str)) = some (.ob (.lst (odds.map D.str))) := by
      rw [gAdd_ll (by decide)]; rfl
    have e1 : odds1.map D.str = [.str "", .str "-", .str "-0", .str "00", .str "0", .str "+1", .str " 1", .str "1 ", .str "1_0", .str "--1", .str "0x1", .str "1.0", .str "1e3", .str "- 1", .str "0-", .str "01", .str "-01"] := rfl
    have e2 : odds2.map D.str = [.str "1-", .str "_1", .str "1__0", .str "o", .str "1,000", .str "-00", .str "-+1", .str "1 000"] := rfl
    rw [e1, e2] at ga
    have mk := fun S => mkLK_e (S := S) (ds := odds1.map D.str) (by decide)
    rw [e1] at mk
    have ol : odds.length = 25 := rfl
    have oi : ((odds.length : Nat) : Int) = 25 := rfl
    nomatch "w", mk, ga, oi
    refine draw_w (by omega) (by omega) fun v st2 hv => ?_
    have hvl : v < odds.length := by rw [ol]; omega
    have gv := gIxl (f := D.str) (List.getElem?_eq_getElem hvl)
    have lv := odds_len _ (List.getElem_mem hvl)
    revert gv lv
    generalize odds[v] = s
    intro gv lv
    rw [tx_s] at gv
    nomatch "w", gv
    exact h _ _ (by have : s.cps.toList.length = s.length := Array.length_toList; omega)
  · nomatch "w"
    refine draw_w (by omega) (by omega) fun v st2 hv => ?_
    nomatch "w", rgN (show v ≤ 1000000 by omega)
    refine lc_g (fun c : Nat => tx [c]) (fun _ _ => True) (fun S => ∃ st : Sta, S = [st.ao]) (by rw [rangeD_len]; omega) ⟨st2, rfl⟩ ?_ ?_
    · rintro k d S hk ⟨st, rfl⟩
      have ht : ("0012-+ _9." : Str) = tens := rfl
      have tl : tens.length = 10 := by decide
      nomatch "w", ht
      refine draw_w (by omega) (by omega) fun w st3 hw => ?_
      obtain ⟨c, _, gx⟩ := gIx_sv2 (s := tens) (v := w) (by omega) (by omega)
      nomatch "w", gx
      exact ⟨c, by trivial, trivial, st3, by first | exact True.intro | rfl⟩
    rintro cs S hl hc ⟨st3, rfl⟩
    rw [rangeD_len] at hl
    have hcs : cs.map (fun c => tx [c]) = (cs.map fun c => [c]).map tx := by rw [List.map_map]; rfl
    have fl := flat_1 (f := fun c : Nat => [c]) (n := 1) (xs := cs) fun _ _ => Nat.le_refl _
    have gj := gJoin_t (ss := cs.map fun c => [c]) (by omega)
    rw [← hcs] at gj
    nomatch "w", lit_nil, gj
    exact h _ _ (by omega)
  · have n0 : ¬ ((u : Nat) : Int) = 0 := by omega
    have n1 : ¬ ((u : Nat) : Int) = 1 := by omega
    nomatch "w", n0, n1
    refine draw_w (by omega) (by omega) fun v st2 hv => ?_
    have e1 : (1 : Int) + (v : Int) = ((v + 1 : Nat) : Int) := by omega
    have sv : gStr (.int ((v + 1 : Nat) : Int)) = some (.dt (tx (numL (v + 1)))) := 
      gStr_n (Nat.lt_of_lt_of_le (show v + 1 < 2 ^ 10 by omega) (Nat.pow_le_pow_right (by decide) (by decide)))
    have nl : (numL (v + 1)).length ≤ 2 := TL.numL_len (by decide) (by omega)
    nomatch "w", e1, sv
    refine draw_w (by omega) (by omega) fun w st3 hw => ?_
    nomatch "w", rgN (show w ≤ 1000000 by omega)
    refine lc_g (fun c : List Nat => tx c) (fun _ c => c.length ≤ 1) (fun S => ∃ st : Sta, S = [st.ao]) (by rw [rangeD_len]; omega) ⟨st3, rfl⟩ ?_ ?_
    · rintro k d S hk ⟨st, rfl⟩
      nomatch "w"
      refine draw_w (by omega) (by omega) fun x st4 hx => ?_
      nomatch "w", strV hx
      exact ⟨numL x, by trivial, num1 hx, st4, by first | exact True.intro | rfl⟩
    rintro cs S hl hc ⟨st4, rfl⟩
    rw [rangeD_len] at hl
    have fl := flat_1 (f := fun c : List Nat => c) (n := 1) (xs := cs) fun c hx => by
      obtain ⟨k, hk⟩ := List.getElem?_of_mem hx
      exact hc k c hk
    rw [List.map_id'] at fl
    have gj := gJoin_t (ss := cs) (by omega)
    have ga := gAdd_t (a := numL (v + 1)) (b := cs.flatten) (by omega)
    have al : (numL (v + 1) ++ cs.flatten).length ≤ 92 := by rw [List.length_append]; omega
    revert ga al
    generalize numL (v + 1) ++ cs.flatten = A
    intro ga al
    have gm := gMul_ts (a := A) (n := 50) (by decide) (by decide) (by show A.length * 50 ≤ _; omega)
    have ml : (List.replicate (50 : Int).toNat A).flatten.length ≤ 50 * 92 := by
      have := flat_1 (f := fun c : List Nat => c) (n := 92) (xs := List.replicate (50 : Int).toNat A) fun c hx => by rw [(List.mem_replicate.mp hx).2]; exact al
      rw [List.map_id', List.length_replicate] at this
      exact this
    nomatch "w", lit_nil, gj, ga
    refine draw_w (by omega) (by omega) fun x st5 hx => ?_
    have step : ∀ (B : List Nat) (st5 : Sta), B.length ≤ 5000 → gAdd (.str "-") (tx B) = some (.dt (tx (45 :: B))) := fun B st5 hB => by
      have : (D.str "-") = tx [45] := rfl
      rw [this, gAdd_t (by show 1 + _ ≤ _; omega)]; rfl
    by_cases x0 : ((x : Nat) : Int) = 0
    · nomatch "w", x0, gm
      revert ml
      generalize (List.replicate (50 : Int).toNat A).flatten = B
      intro ml
      refine draw_w (by omega) (by omega) fun y st6 hy => ?_
      by_cases y0 : ((y : Nat) : Int) = 0
      · have g := step B st6 (by omega)
        nomatch "w", y0, g
        refine changed_w (by rw [List.length_cons]; omega) fun b st7 hb => ?_
        nomatch "w"
        exact h b st7 (by rw [List.length_cons] at hb; omega)
      · nomatch "w", y0
        refine changed_w (by omega) fun b st7 hb => ?_
        nomatch "w"
        exact h b st7 (by omega)
    · nomatch "w", x0
      refine draw_w (by omega) (by omega) fun y st6 hy => ?_
      by_cases y0 : ((y : Nat) : Int) = 0
      · have g := step A st6 (by omega)
        nomatch "w", y0, g
        refine changed_w (by rw [List.length_cons]; omega) fun b st7 hb => ?_
        nomatch "w"
        exact h b st7 (by rw [List.length_cons] at hb; omega)
      · nomatch "w", y0
        refine changed_w (by omega) fun b st7 hb => ?_
        nomatch "w"
        exact h b st7 (by omega)
end
theorem law_true (sc0 : List Int) (h : sc0.length ≤ 63) : m_law [.dat (.scr sc0)] [] = .ok (.dat (.bl true)) [] := by
  refine Ret.e ?_
  unfold Ret m_law b_law
  nomatch "w"
  refine start_w fun st => ?_
  nomatch "w"
  refine text_w fun a st1 ha => ?_
  have we := written_e (a := a) (by omega)
  cases hc : canB a with
  | false =>
    rw [hc] at we
    have re := refuses_e (a := a) (by omega) hc
    nomatch "w", we, re
    exact ⟨by trivial, by trivial⟩
  | true =>
    rw [hc] at we
    have re := read_ok (a := a) (by omega) hc
    have ie := integer_e (a := a) (by omega) hc
    have i1 : gIsi (.int (intV a)) (.ty "int") = some (.dt (.bl true)) := rfl
    have i2 : gIsi (.int (intV a)) (.ty "bool") = some (.dt (.bl false)) := rfl
    nomatch "w", we, re, ie, i1, i2
    exact ⟨by trivial, by trivial⟩
end Lw

set_option Elab.async false
set_option linter.all false
set_option maxRecDepth 100000
set_option maxHeartbeats 8000000
namespace Lw
open PySem PySem.Spec PyProof.Rows L2 Ew
theorem all_mk {l : PySem.W.OpenLaw} {w : World} {K : PySem.W.Frag} {h : Heap} {mg : Str → Option Value} {fa : Addr} (X : K.In h) (Gh : h.Ns mainGlobals mg) (hfa : mg "law" = some (.ref fa)) {t_DIGITS : Tok} {t_BASE : Tok} {C_BadText : Addr} {C_EndwithinError : Addr} {C_BadLine : Addr} {C_BadProgram : Addr} {C_TooLarge : Addr} {C_UnknownName : Addr} {C_BadArguments : Addr} {C_NotBounded : Addr} {C_BadBook : Addr} {C_NothingBack : Addr} {C_NothingAhead : Addr} {f0 f1 f2 f3 f4 f5 f6 f7 f8 f9 f10 f11 : Addr} {od0 an0 od1 an1 od2 an2 od3 an3 od4 an4 od5 an5 od6 an6 od7 an7 od8 an8 od9 an9 od10 an10 od11 an11 : Option Addr} {sl0 sl1 sl2 sl3 sl4 sl5 sl6 sl7 sl8 sl9 sl10 sl11 : Array (Option Value)} {oc0 kV0 dc0 pm0 cd0 ct0 oc1 kV1 dc1 pm1 cd1 ct1 oc2 kV2 dc2 pm2 cd2 ct2 oc3 kV3 dc3 pm3 cd3 ct3 oc4 kV4 dc4 pm4 cd4 ct4 oc5 kV5 dc5 pm5 cd5 ct5 oc6 kV6 dc6 pm6 cd6 ct6 oc7 kV7 dc7 pm7 cd7 ct7 oc8 kV8 dc8 pm8 cd8 ct8 oc9 kV9 dc9 pm9 cd9 ct9 oc10 kV10 dc10 pm10 cd10 ct10 oc11 kV11 dc11 pm11 cd11 ct11 : Value}
    (z_list : PySem.W.nsIn K mainGlobals "list" = some none)
    (z_int : PySem.W.nsIn K mainGlobals "int" = some none)
    (z_len : PySem.W.nsIn K mainGlobals "len" = some none)
    (z_abs : PySem.W.nsIn K mainGlobals "abs" = some none)
    (z_str : PySem.W.nsIn K mainGlobals "str" = some none)
    (z_range : PySem.W.nsIn K mainGlobals "range" = some none)
    (z_all : PySem.W.nsIn K mainGlobals "all" = some none)
    (z_isinstance : PySem.W.nsIn K mainGlobals "isinstance" = some none)
    (z_ValueError : PySem.W.nsIn K mainGlobals "ValueError" = some none)
    (z_bool : PySem.W.nsIn K mainGlobals "bool" = some none)
    (q_DIGITS : PySem.W.nsIn K mainGlobals "DIGITS" = some (some (.str "0123456789" t_DIGITS)))
    (q_BASE : PySem.W.nsIn K mainGlobals "BASE" = some (some (.int (10000000000000000000000000000000000000000000000000000000000000000) t_BASE)))
    (u_BadText : PySem.W.nsIn K mainGlobals "BadText" = some (some (.ref C_BadText)))
    (eq_BadText : PySem.W.excIn K C_BadText [.type "ValueError", .type "Exception", .type "BaseException", .type "object"] "ValueError.__new__" = true)
    (ek_BadText : PySem.W.keepIn K (.ref C_BadText) = true)
    (es_BadText : PySem.W.subIn K (.ref C_BadText) (.type "BaseException") = some true)
    (et_BadText : PySem.W.typeIn K (.ref C_BadText) = some (.type "type"))
    (ehg_BadText : PySem.W.findIn K (.ref C_BadText) "__getattribute__" = some (some (.builtin "BaseException.__getattribute__")))
    (ehk_BadText : PySem.W.findIn K (.ref C_BadText) "__getattr__" = some none)
    (ehd_BadText : PySem.W.hasDictIn K C_BadText = true)
    (eha_BadText : PySem.W.findIn K (.ref C_BadText) "__class__" = some (some (.builtin "object.__class__")))
    (ehn_BadText : PySem.W.specialIn K (.builtin "object.__class__") "__get__" = some (some (.builtin "getset_descriptor.__get__")))
    (eht_BadText : PySem.W.takesIn K (.builtin "object.__class__") = some true)
    (ehm_BadText : PySem.W.mroIn K C_BadText (.type "object") = some true)
    (x_BadText_BadText : PySem.W.exmOne K (.ref C_BadText) (.ref C_BadText) = some true)
    (u_EndwithinError : PySem.W.nsIn K mainGlobals "EndwithinError" = some (some (.ref C_EndwithinError)))
    (k_BadText_EndwithinError : PySem.W.kitOne K (.ref C_BadText) (.ref C_EndwithinError) = some true)
    (t_BadText_ValueError : PySem.W.kitOne K (.ref C_BadText) (.type "ValueError") = some true)
    (u_BadLine : PySem.W.nsIn K mainGlobals "BadLine" = some (some (.ref C_BadLine)))
    (k_BadText_BadLine : PySem.W.kitOne K (.ref C_BadText) (.ref C_BadLine) = some false)
    (u_BadProgram : PySem.W.nsIn K mainGlobals "BadProgram" = some (some (.ref C_BadProgram)))
    (k_BadText_BadProgram : PySem.W.kitOne K (.ref C_BadText) (.ref C_BadProgram) = some false)
    (u_TooLarge : PySem.W.nsIn K mainGlobals "TooLarge" = some (some (.ref C_TooLarge)))
    (k_BadText_TooLarge : PySem.W.kitOne K (.ref C_BadText) (.ref C_TooLarge) = some false)
    (u_UnknownName : PySem.W.nsIn K mainGlobals "UnknownName" = some (some (.ref C_UnknownName)))
    (k_BadText_UnknownName : PySem.W.kitOne K (.ref C_BadText) (.ref C_UnknownName) = some false)
    (u_BadArguments : PySem.W.nsIn K mainGlobals "BadArguments" = some (some (.ref C_BadArguments)))
    (k_BadText_BadArguments : PySem.W.kitOne K (.ref C_BadText) (.ref C_BadArguments) = some false)
    (u_NotBounded : PySem.W.nsIn K mainGlobals "NotBounded" = some (some (.ref C_NotBounded)))
    (k_BadText_NotBounded : PySem.W.kitOne K (.ref C_BadText) (.ref C_NotBounded) = some false)
    (u_BadBook : PySem.W.nsIn K mainGlobals "BadBook" = some (some (.ref C_BadBook)))
    (k_BadText_BadBook : PySem.W.kitOne K (.ref C_BadText) (.ref C_BadBook) = some false)
    (u_NothingBack : PySem.W.nsIn K mainGlobals "NothingBack" = some (some (.ref C_NothingBack)))
    (k_BadText_NothingBack : PySem.W.kitOne K (.ref C_BadText) (.ref C_NothingBack) = some false)
    (u_NothingAhead : PySem.W.nsIn K mainGlobals "NothingAhead" = some (some (.ref C_NothingAhead)))
    (k_BadText_NothingAhead : PySem.W.kitOne K (.ref C_BadText) (.ref C_NothingAhead) = some false)
    (a0 : PySem.W.nsIn K mainGlobals "_law_start" = some (some (.ref f0)))
    (l0 : K.lookup f0 = some ⟨oc0, od0, .func (PySem.W.fnOf "_law_start" "_law_start" (defArgs s_law_start) (defBody s_law_start) (defScope s_law_start) .none kV0 dc0 pm0 an0 cd0 ct0), sl0⟩)
    (c0 : PySem.W.codeIn K cd0 "_law_start" = true)
    (k0 : PySem.W.keepIn K (.ref f0) = true)
    (a1 : PySem.W.nsIn K mainGlobals "_law_draw" = some (some (.ref f1)))
    (l1 : K.lookup f1 = some ⟨oc1, od1, .func (PySem.W.fnOf "_law_draw" "_law_draw" (defArgs s_law_draw) (defBody s_law_draw) (defScope s_law_draw) .none kV1 dc1 pm1 an1 cd1 ct1), sl1⟩)
    (c1 : PySem.W.codeIn K cd1 "_law_draw" = true)
    (k1 : PySem.W.keepIn K (.ref f1) = true)
    (a2 : PySem.W.nsIn K mainGlobals "_law_char" = some (some (.ref f2)))
    (l2 : K.lookup f2 = some ⟨oc2, od2, .func (PySem.W.fnOf "_law_char" "_law_char" (defArgs s_law_char) (defBody s_law_char) (defScope s_law_char) .none kV2 dc2 pm2 an2 cd2 ct2), sl2⟩)
    (c2 : PySem.W.codeIn K cd2 "_law_char" = true)
    (k2 : PySem.W.keepIn K (.ref f2) = true)
    (a3 : PySem.W.nsIn K mainGlobals "_law_changed" = some (some (.ref f3)))
    (l3 : K.lookup f3 = some ⟨oc3, od3, .func (PySem.W.fnOf "_law_changed" "_law_changed" (defArgs s_law_changed) (defBody s_law_changed) (defScope s_law_changed) .none kV3 dc3 pm3 an3 cd3 ct3), sl3⟩)
    (c3 : PySem.W.codeIn K cd3 "_law_changed" = true)
    (k3 : PySem.W.keepIn K (.ref f3) = true)
    (a4 : PySem.W.nsIn K mainGlobals "_law_text" = some (some (.ref f4)))
    (l4 : K.lookup f4 = some ⟨oc4, od4, .func (PySem.W.fnOf "_law_text" "_law_text" (defArgs s_law_text) (defBody s_law_text) (defScope s_law_text) .none kV4 dc4 pm4 an4 cd4 ct4), sl4⟩)
    (c4 : PySem.W.codeIn K cd4 "_law_text" = true)
    (k4 : PySem.W.keepIn K (.ref f4) = true)
    (a5 : PySem.W.nsIn K mainGlobals "read_integer" = some (some (.ref f5)))
    (l5 : K.lookup f5 = some ⟨oc5, od5, .func (PySem.W.fnOf "read_integer" "read_integer" (defArgs s_read_integer) (defBody s_read_integer) (defScope s_read_integer) .none kV5 dc5 pm5 an5 cd5 ct5), sl5⟩)
    (c5 : PySem.W.codeIn K cd5 "read_integer" = true)
    (k5 : PySem.W.keepIn K (.ref f5) = true)
    (a6 : PySem.W.nsIn K mainGlobals "_law_is_written" = some (some (.ref f6)))
    (l6 : K.lookup f6 = some ⟨oc6, od6, .func (PySem.W.fnOf "_law_is_written" "_law_is_written" (defArgs s_law_is_written) (defBody s_law_is_written) (defScope s_law_is_written) .none kV6 dc6 pm6 an6 cd6 ct6), sl6⟩)
    (c6 : PySem.W.codeIn K cd6 "_law_is_written" = true)
    (k6 : PySem.W.keepIn K (.ref f6) = true)
    (a7 : PySem.W.nsIn K mainGlobals "_law_refuses" = some (some (.ref f7)))
    (l7 : K.lookup f7 = some ⟨oc7, od7, .func (PySem.W.fnOf "_law_refuses" "_law_refuses" (defArgs s_law_refuses) (defBody s_law_refuses) (defScope s_law_refuses) .none kV7 dc7 pm7 an7 cd7 ct7), sl7⟩)
    (c7 : PySem.W.codeIn K cd7 "_law_refuses" = true)
    (k7 : PySem.W.keepIn K (.ref f7) = true)
    (a8 : PySem.W.nsIn K mainGlobals "_law_worth" = some (some (.ref f8)))
    (l8 : K.lookup f8 = some ⟨oc8, od8, .func (PySem.W.fnOf "_law_worth" "_law_worth" (defArgs s_law_worth) (defBody s_law_worth) (defScope s_law_worth) .none kV8 dc8 pm8 an8 cd8 ct8), sl8⟩)
    (c8 : PySem.W.codeIn K cd8 "_law_worth" = true)
    (k8 : PySem.W.keepIn K (.ref f8) = true)
    (a9 : PySem.W.nsIn K mainGlobals "_law_integer" = some (some (.ref f9)))
    (l9 : K.lookup f9 = some ⟨oc9, od9, .func (PySem.W.fnOf "_law_integer" "_law_integer" (defArgs s_law_integer) (defBody s_law_integer) (defScope s_law_integer) .none kV9 dc9 pm9 an9 cd9 ct9), sl9⟩)
    (c9 : PySem.W.codeIn K cd9 "_law_integer" = true)
    (k9 : PySem.W.keepIn K (.ref f9) = true)
    (a10 : PySem.W.nsIn K mainGlobals "law" = some (some (.ref f10)))
    (l10 : K.lookup f10 = some ⟨oc10, od10, .func (PySem.W.fnOf "law" "law" (defArgs s_law) (defBody s_law) (defScope s_law) .none kV10 dc10 pm10 an10 cd10 ct10), sl10⟩)
    (c10 : PySem.W.codeIn K cd10 "law" = true)
    (k10 : PySem.W.keepIn K (.ref f10) = true)
    (a11 : PySem.W.nsIn K mainGlobals "_law_other" = some (some (.ref f11)))
    (l11 : K.lookup f11 = some ⟨oc11, od11, .func (PySem.W.fnOf "_law_other" "_law_other" (defArgs s_law_other) (defBody s_law_other) (defScope s_law_other) .none kV11 dc11 pm11 an11 cd11 ct11), sl11⟩)
    (c11 : PySem.W.codeIn K cd11 "_law_other" = true)
    (k11 : PySem.W.keepIn K (.ref f11) = true) :
    ∃ fd : FuncData, (∀ (s : Shared) (v : Value), BindsTo s fd ⟨[v], []⟩ [("script", v)]) ∧ ∀ base : Heap, K.In base → base.Ns mainGlobals mg → FnOk l.prog w K mg base (L2.CX l.prog w) 5 fa fd ["script"] (spLaw K) := by
  have e := hfa.symm.trans (PySem.W.mg_of X Gh a10)
  cases e
  have T : G K mg := ⟨PySem.W.mg_none_of X Gh z_list, PySem.W.mg_none_of X Gh z_int, PySem.W.mg_none_of X Gh z_len, PySem.W.mg_none_of X Gh z_abs, PySem.W.mg_none_of X Gh z_str, PySem.W.mg_none_of X Gh z_range, PySem.W.mg_none_of X Gh z_all, PySem.W.mg_none_of X Gh z_isinstance, PySem.W.mg_none_of X Gh z_ValueError, PySem.W.mg_none_of X Gh z_bool, gc_str (PySem.W.mg_of X Gh q_DIGITS), gc_int (PySem.W.mg_of X Gh q_BASE), ⟨C_BadText, (PySem.W.mg_of X Gh u_BadText), eq_BadText, ek_BadText, es_BadText, et_BadText, ⟨ehg_BadText, ehk_BadText, es_BadText, ehd_BadText, eha_BadText, ehn_BadText, eht_BadText, ehm_BadText⟩⟩, ⟨C_BadText, C_BadText, (PySem.W.mg_of X Gh u_BadText), (PySem.W.mg_of X Gh u_BadText), x_BadText_BadText⟩, ⟨C_BadText, C_EndwithinError, (PySem.W.mg_of X Gh u_BadText), (PySem.W.mg_of X Gh u_EndwithinError), k_BadText_EndwithinError⟩, ⟨C_BadText, (PySem.W.mg_of X Gh u_BadText), t_BadText_ValueError⟩, ⟨C_BadText, C_BadLine, (PySem.W.mg_of X Gh u_BadText), (PySem.W.mg_of X Gh u_BadLine), k_BadText_BadLine⟩, ⟨C_BadText, C_BadProgram, (PySem.W.mg_of X Gh u_BadText), (PySem.W.mg_of X Gh u_BadProgram), k_BadText_BadProgram⟩, ⟨C_BadText, C_TooLarge, (PySem.W.mg_of X Gh u_BadText), (PySem.W.mg_of X Gh u_TooLarge), k_BadText_TooLarge⟩, ⟨C_BadText, C_UnknownName, (PySem.W.mg_of X Gh u_BadText), (PySem.W.mg_of X Gh u_UnknownName), k_BadText_UnknownName⟩, ⟨C_BadText, C_BadArguments, (PySem.W.mg_of X Gh u_BadText), (PySem.W.mg_of X Gh u_BadArguments), k_BadText_BadArguments⟩, ⟨C_BadText, C_NotBounded, (PySem.W.mg_of X Gh u_BadText), (PySem.W.mg_of X Gh u_NotBounded), k_BadText_NotBounded⟩, ⟨C_BadText, C_BadBook, (PySem.W.mg_of X Gh u_BadText), (PySem.W.mg_of X Gh u_BadBook), k_BadText_BadBook⟩, ⟨C_BadText, C_NothingBack, (PySem.W.mg_of X Gh u_BadText), (PySem.W.mg_of X Gh u_NothingBack), k_BadText_NothingBack⟩, ⟨C_BadText, C_NothingAhead, (PySem.W.mg_of X Gh u_BadText), (PySem.W.mg_of X Gh u_NothingAhead), k_BadText_NothingAhead⟩, trivial⟩
  have F0 := fun_mk (st := s_law_start) l0 c0 k0
  have g0 := PySem.W.mg_of X Gh a0
  have b0 := F0.binds (ps := ["script"]) fun _ _ _ _ _ _ us hl => match us, hl with | [_], _ => rfl
  have F1 := fun_mk (st := s_law_draw) l1 c1 k1
  have g1 := PySem.W.mg_of X Gh a1
  have b1 := F1.binds (ps := ["state", "most"]) fun _ _ _ _ _ _ us hl => match us, hl with | [_, _], _ => rfl
  have F2 := fun_mk (st := s_law_char) l2 c2 k2
  have g2 := PySem.W.mg_of X Gh a2
  have b2 := F2.binds (ps := ["state"]) fun _ _ _ _ _ _ us hl => match us, hl with | [_], _ => rfl
  have F3 := fun_mk (st := s_law_changed) l3 c3 k3
  have g3 := PySem.W.mg_of X Gh a3
  have b3 := F3.binds (ps := ["state", "text"]) fun _ _ _ _ _ _ us hl => match us, hl with | [_, _], _ => rfl
  have F4 := fun_mk (st := s_law_text) l4 c4 k4
  have g4 := PySem.W.mg_of X Gh a4
  have b4 := F4.binds (ps := ["state"]) fun _ _ _ _ _ _ us hl => match us, hl with | [_], _ => rfl
  have F5 := fun_mk (st := s_read_integer) l5 c5 k5
  have g5 := PySem.W.mg_of X Gh a5
  have b5 := F5.binds (ps := ["text"]) fun _ _ _ _ _ _ us hl => match us, hl with | [_], _ => rfl
  have F6 := fun_mk (st := s_law_is_written) l6 c6 k6
  have g6 := PySem.W.mg_of X Gh a6
  have b6 := F6.binds (ps := ["text"]) fun _ _ _ _ _ _ us hl => match us, hl with | [_], _ => rfl
  have F7 := fun_mk (st := s_law_refuses) l7 c7 k7
  have g7 := PySem.W.mg_of X Gh a7
  have b7 := F7.binds (ps := ["text"]) fun _ _ _ _ _ _ us hl => match us, hl with | [_], _ => rfl
  have F8 := fun_mk (st := s_law_worth) l8 c8 k8
  have g8 := PySem.W.mg_of X Gh a8
  have b8 := F8.binds (ps := ["text"]) fun _ _ _ _ _ _ us hl => match us, hl with | [_], _ => rfl
  have F9 := fun_mk (st := s_law_integer) l9 c9 k9
  have g9 := PySem.W.mg_of X Gh a9
  have b9 := F9.binds (ps := ["text"]) fun _ _ _ _ _ _ us hl => match us, hl with | [_], _ => rfl
  have F10 := fun_mk (st := s_law) l10 c10 k10
  have g10 := PySem.W.mg_of X Gh a10
  have F11 := fun_mk (st := s_law_other) l11 c11 k11
  have g11 := PySem.W.mg_of X Gh a11
  have b11 := F11.binds (ps := ["e"]) fun _ _ _ _ _ _ us hl => match us, hl with | [_], _ => rfl
  refine ⟨PySem.W.fnOf "law" "law" (defArgs s_law) (defBody s_law) (defScope s_law) .none kV10 dc10 pm10 an10 cd10 ct10, fun s v => .of_eq rfl, fun base _ _ => ?_⟩
  have H0 : Fn l.prog w K mg base 1 "_law_start" 1 Ew.m_law_start := .of (ok_law_start T F0 ) g0 F0.kp b0
  have H1 : Fn l.prog w K mg base 1 "_law_draw" 2 Ew.m_law_draw := .of (ok_law_draw T F1 ) g1 F1.kp b1
  have H2 : Fn l.prog w K mg base 2 "_law_char" 1 m_law_char := .of (ok_law_char T F2 (H1.mono (by decide))) g2 F2.kp b2
  have H3 : Fn l.prog w K mg base 3 "_law_changed" 2 m_law_changed := .of (ok_law_changed T F3 (H2.mono (by decide)) (H1.mono (by decide))) g3 F3.kp b3
  have H4 : Fn l.prog w K mg base 4 "_law_text" 1 m_law_text := .of (ok_law_text T F4 (H3.mono (by decide)) (H1.mono (by decide))) g4 F4.kp b4
  have H5 : Fn l.prog w K mg base 1 "read_integer" 1 m_read_integer := .of (ok_read_integer T F5 ) g5 F5.kp b5
  have H6 : Fn l.prog w K mg base 1 "_law_is_written" 1 m_law_is_written := .of (ok_law_is_written T F6 ) g6 F6.kp b6
  have H7 : Fn l.prog w K mg base 2 "_law_refuses" 1 m_law_refuses := .of (ok_law_refuses T F7 (H5.mono (by decide)) (oke_law_other T F11 _) b11 g11 F11.kp) g7 F7.kp b7
  have H8 : Fn l.prog w K mg base 1 "_law_worth" 1 m_law_worth := .of (ok_law_worth T F8 ) g8 F8.kp b8
  have H9 : Fn l.prog w K mg base 2 "_law_integer" 1 m_law_integer := .of (ok_law_integer T F9 (H8.mono (by decide))) g9 F9.kp b9
  exact law_end (ok_law T F10 (H9.mono (by decide)) (H6.mono (by decide)) (H7.mono (by decide)) (H0.mono (by decide)) (H4.mono (by decide)) (H5.mono (by decide))) law_true
end Lw
open PySem PySem.W PyProof.Rows
set_option maxRecDepth 100000 in
set_option maxHeartbeats 0 in
theorem PySem.Challenge.cw_endwithin_k01_read_integer_holds : PySem.Challenge.rw_endwithin_k01_read_integer.Holds := by
  w_on; o_law; k_head; (case hw => w_witness2)
  k_fill
  refine L2.walk_of (l := PySem.Challenge.rw_endwithin_k01_read_integer) (n := 63) (k := 5) (x := "script") (CX := fun w => L2.CX (PySem.Challenge.rw_endwithin_k01_read_integer).prog w) (sp := fun w => Ew.spLaw _) rfl (by decide) rfl ⟨rfl, by decide, by decide⟩ (fun w h Y => PySem.W.kIn_of Y) ?F (fun _ _ a ns hl _ hS => ⟨a, ns, rfl, hS, hl, fun _ => rfl⟩) (fun w H s e s' z => Ew.cxL w H s e s' z)
  case F =>
    intro w mg fa h KX Gh hmg
    refine' Lw.all_mk KX Gh hmg ?z_list ?z_int ?z_len ?z_abs ?z_str ?z_range ?z_all ?z_isinstance ?z_ValueError ?z_bool ?q_DIGITS ?q_BASE ?u_BadText ?eq_BadText ?ek_BadText ?es_BadText ?et_BadText ?ehg_BadText ?ehk_BadText ?ehd_BadText ?eha_BadText ?ehn_BadText ?eht_BadText ?ehm_BadText ?x_BadText_BadText ?u_EndwithinError ?k_BadText_EndwithinError ?t_BadText_ValueError ?u_BadLine ?k_BadText_BadLine ?u_BadProgram ?k_BadText_BadProgram ?u_TooLarge ?k_BadText_TooLarge ?u_UnknownName ?k_BadText_UnknownName ?u_BadArguments ?k_BadText_BadArguments ?u_NotBounded ?k_BadText_NotBounded ?u_BadBook ?k_BadText_BadBook ?u_NothingBack ?k_BadText_NothingBack ?u_NothingAhead ?k_BadText_NothingAhead ?a0 ?l0 ?c0 ?k0 ?a1 ?l1 ?c1 ?k1 ?a2 ?l2 ?c2 ?k2 ?a3 ?l3 ?c3 ?k3 ?a4 ?l4 ?c4 ?k4 ?a5 ?l5 ?c5 ?k5 ?a6 ?l6 ?c6 ?k6 ?a7 ?l7 ?c7 ?k7 ?a8 ?l8 ?c8 ?k8 ?a9 ?l9 ?c9 ?k9 ?a10 ?l10 ?c10 ?k10 ?a11 ?l11 ?c11 ?k11
    (case z_list => k_is)
    (case z_int => k_is)
    (case z_len => k_is)
    (case z_abs => k_is)
    (case z_str => k_is)
    (case z_range => k_is)
    (case z_all => k_is)
    (case z_isinstance => k_is)
    (case z_ValueError => k_is)
    (case z_bool => k_is)
    (case q_DIGITS => k_is)
    (case q_BASE => k_is)
    (case u_BadText => k_is)
    (case eq_BadText => k_exc)
    (case ek_BadText => k_is)
    (case es_BadText => k_is)
    (case et_BadText => k_is)
    (case ehg_BadText => k_is)
    (case ehk_BadText => k_is)
    (case ehd_BadText => k_is)
    (case eha_BadText => k_is)
    (case ehn_BadText => k_is)
    (case eht_BadText => k_is)
    (case ehm_BadText => k_is)
    (case x_BadText_BadText => first | rfl | k_is)
    (case u_EndwithinError => k_is)
    (case k_BadText_EndwithinError => first | rfl | k_is)
    (case t_BadText_ValueError => first | rfl | k_is)
    (case u_BadLine => k_is)
    (case k_BadText_BadLine => first | rfl | k_is)
    (case u_BadProgram => k_is)
    (case k_BadText_BadProgram => first | rfl | k_is)
    (case u_TooLarge => k_is)
    (case k_BadText_TooLarge => first | rfl | k_is)
    (case u_UnknownName => k_is)
    (case k_BadText_UnknownName => first | rfl | k_is)
    (case u_BadArguments => k_is)
    (case k_BadText_BadArguments => first | rfl | k_is)
    (case u_NotBounded => k_is)
    (case k_BadText_NotBounded => first | rfl | k_is)
    (case u_BadBook => k_is)
    (case k_BadText_BadBook => first | rfl | k_is)
    (case u_NothingBack => k_is)
    (case k_BadText_NothingBack => first | rfl | k_is)
    (case u_NothingAhead => k_is)
    (case k_BadText_NothingAhead => first | rfl | k_is)
    (case a0 => k_is)
    (case l0 => k_is)
    (case c0 => k_is)
    (case k0 => k_is)
    (case a1 => k_is)
    (case l1 => k_is)
    (case c1 => k_is)
    (case k1 => k_is)
    (case a2 => k_is)
    (case l2 => k_is)
    (case c2 => k_is)
    (case k2 => k_is)
    (case a3 => k_is)
    (case l3 => k_is)
    (case c3 => k_is)
    (case k3 => k_is)
    (case a4 => k_is)
    (case l4 => k_is)
    (case c4 => k_is)
    (case k4 => k_is)
    (case a5 => k_is)
    (case l5 => k_is)
    (case c5 => k_is)
    (case k5 => k_is)
    (case a6 => k_is)
    (case l6 => k_is)
    (case c6 => k_is)
    (case k6 => k_is)
    (case a7 => k_is)
    (case l7 => k_is)
    (case c7 => k_is)
    (case k7 => k_is)
    (case a8 => k_is)
    (case l8 => k_is)
    (case c8 => k_is)
    (case k8 => k_is)
    (case a9 => k_is)
    (case l9 => k_is)
    (case c9 => k_is)
    (case k9 => k_is)
    (case a10 => k_is)
    (case l10 => k_is)
    (case c10 => k_is)
    (case k10 => k_is)
    (case a11 => k_is)
    (case l11 => k_is)
    (case c11 => k_is)
    (case k11 => k_is)
